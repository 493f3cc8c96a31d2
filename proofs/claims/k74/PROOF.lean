import PyProof.Rows.All
import Wide.All
import OpenK.AllK
import Wide.FinOn
import HandS.ForMost
import HandS.Flow
import HandS.IsInst
import HandS.Wide
import HandS.Zip
import HandS.Rev
import HandS.RevRange
import HandS.TupAny
import HandS.TupLe
import HandS.Deep
import HandS.SortInts
import HandS.SetKeys
import HandS.Style
import HandS.Conv
import HandS.NoneIn
import HandS.Small
import KE.DataCmp
import KE.DataMinMax
import KE.SortData
import KE.KRevSl
import HandS.TupMul
import HandS.SetFor
import HandS.Text
import HandS.Strs
import HandS.DictTup
import KE.KDictKeyed
import HandS.TupLen
import HandS.Spec
import KE.KDictLaws
import KE.GoesEnum
import HandS.New0
import HandS.EndBits
import HandS.Defaults
import PySem.Challenge.RW_leastrow_k74_whole_any_row_in_a_window
set_option Elab.async false
set_option linter.all false
set_option maxRecDepth 100000
set_option maxHeartbeats 1000000
/-! Part A: plain values, the small language and what it reckons (no program in sight). -/
namespace Ev
open PySem PySem.Spec

/-- plain values -/
inductive D where
  | non | bl (b : Bool) | int (i : Int) | str (s : Str)
  | tup (xs : List D) | lst (xs : List D) | dct (kvs : List (L2.Key × D)) | ins (c : Nat)
  /-- the script: a list of whole numbers that nobody writes -/
  | scr (ns : List Int)
  /-- a dict whose keys are tuples -/
  | dcn (kvs : List (D × D))
  deriving Inhabited

/-- what a piece of the program comes to -/
inductive R (α : Type) where
  | ok (a : α) | exc (c : Nat) (d : D) | bad
def R.bind {α β : Type} : R α → (α → R β) → R β
  | .ok a, f => f a
  | .exc c d, _ => .exc c d
  | .bad, _ => .bad
@[simp] theorem ok_bind {α β : Type} (a : α) (f : α → R β) : (R.ok a).bind f = f a := rfl
@[simp] theorem bad_bind {α β : Type} (f : α → R β) : (R.bad).bind f = .bad := rfl
@[simp] theorem exc_bind {α β : Type} (c : Nat) (d : D) (f : α → R β) : (R.exc c d).bind f = .exc c d := rfl
theorem bind_ok {α β : Type} {x : R α} {f : α → R β} {b : β} (h : x.bind f = .ok b) : ∃ a, x = .ok a ∧ f a = .ok b := by
  cases x with
  | ok a => exact ⟨a, rfl, h⟩
  | exc c d => cases h
  | bad => cases h
theorem bind_exc {α β : Type} {x : R α} {f : α → R β} {c : Nat} {d : D} (h : x.bind f = .exc c d) : x = .exc c d ∨ ∃ a, x = .ok a ∧ f a = .exc c d := by
  cases x with
  | ok a => exact .inr ⟨a, rfl, h⟩
  | exc c d => cases h; exact .inl rfl
  | bad => cases h
def chk (b : Bool) : R Unit := if b then .ok () else .bad
@[simp] theorem chk_true : chk true = .ok () := rfl
@[simp] theorem chk_false : chk false = .bad := rfl
theorem chk_ok {b : Bool} {u : Unit} (h : chk b = .ok u) : b = true := by
  cases b with
  | true => rfl
  | false => cases h

mutual
def D.pure : D → Bool
  | .tup xs => pureAll xs
  | .lst _ => false
  | .dct _ => false
  | .scr _ => false
  | .dcn _ => false
  | _ => true
def pureAll : List D → Bool
  | [] => true
  | x :: xs => x.pure && pureAll xs
end
def pureV : List (L2.Key × D) → Bool
  | [] => true
  | (_, v) :: r => v.pure && pureV r
def pureN : List (D × D) → Bool
  | [] => true
  | (_, v) :: r => v.pure && pureN r
/-- no list within but the outermost -/
def D.ep : D → Bool
  | .lst xs => pureAll xs
  | .dct kvs => pureV kvs
  | .dcn kvs => pureN kvs
  | .scr _ => true
  | d => d.pure
def D.isL : D → Bool
  | .lst _ => true
  | .dct _ => true
  | .dcn _ => true
  | _ => false

mutual
def D.toP : D → PyData
  | .non => .none
  | .bl b => .bool b
  | .int i => .int i
  | .str s => .str s
  | .tup xs => .tuple (toPs xs)
  | .lst xs => .list (toPs xs)
  | .dct _ => .dict []
  | .dcn _ => .dict []
  | .ins _ => .dict []
  | .scr ns => .list (ns.map PyData.int)
def toPs : List D → List PyData
  | [] => []
  | x :: xs => x.toP :: toPs xs
end
abbrev D.shaped (d : D) : Bool := SeqAt.shaped d.toP
abbrev D.eqv (a b : D) : Bool := PyData.eqv a.toP b.toP

/-! ### tuples as keys -/
mutual
def nkOf : D → Option NestedKey
  | .non => some .none
  | .bl b => some (.num (if b then 1 else 0))
  | .int i => some (.num i)
  | .str s => some (.text s)
  | .tup xs => (nksOf xs).map .tup
  | _ => none
def nksOf : List D → Option (List NestedKey)
  | [] => some []
  | x :: r => match nkOf x, nksOf r with
    | some k, some ks => some (k :: ks)
    | _, _ => none
end
def nkT : D → Option NestedKey
  | .tup xs => match nksOf xs with
    | some ks => if (NestedKey.tup ks).depth ≤ 8 then some (.tup ks) else none
    | none => none
  | _ => none
def valN (q : NestedKey) : List (D × D) → Option D
  | [] => none
  | (k, v) :: r => if nkT k = some q then some v else valN q r
def hasN (q : NestedKey) (kvs : List (D × D)) : Bool := kvs.any fun kv => decide (nkT kv.1 = some q)
def putN (kvs : List (D × D)) (k : D) (q : NestedKey) (v : D) : List (D × D) :=
  if hasN q kvs = true then kvs.map (fun kv => if nkT kv.1 = some q then (kv.1, v) else kv) else kvs ++ [(k, v)]
/-! ### the small language -/
inductive Ty where
  | int | bool | str | tuple | list | dict | own (c : Nat)
  deriving DecidableEq
inductive BI where
  | len | list | tuple | sorted | sum | min | max | int | str | all
  deriving DecidableEq
inductive MT where
  | get | getd | index | split | join | partition | count | upper
  deriving DecidableEq
inductive MU where
  | append | extend | insert | pop | popAt | clear | reverse | remove | set
  deriving DecidableEq
inductive Tg where
  | one (i : Nat) | many (is : List Nat)
  deriving DecidableEq
mutual
inductive IE where
  | var (i : Nat)
  | non | bl (b : Bool) | int (n : Int) | str (s : Str)
  | bin (op : Operator) (a b : IE)
  | neg (a : IE)
  | not (a : IE)
  | bo (o : Bool) (a b : IE)
  | cmp (op : CmpOp) (a b : IE)
  | cmp2 (op op' : CmpOp) (a b c : IE)
  | ife (c a b : IE)
  | tup (es : IEs) | lst (es : IEs)
  | idx (a b : IE)
  | slc (a : IE) (lo hi : IEo)
  | rev (a : IE)
  | evr (a : IE) (lo : IEo)
  | srs (a : IE)
  | lsp (a : IE)
  | pix (a b : IE)
  | comp (elt : IE) (tg : Tg) (it : II) (ifs : IEo)
  | call (f : Nat) (es : IEs)
  | bi (b : BI) (es : IEs)
  | isi (a : IE) (ts : List Ty)
  | mth (m : MT) (o : IE) (es : IEs)
  | omt (m : Nat) (o : IE) (es : IEs)
  | mk (c : Nat)
  | dct (ks vs : IEs)
  | lrg (a : IE)
  | dsp (es : IEs)
  | dsl (k v : IE)
  | calld (f m : Nat) (es : IEs)
inductive IEs where
  | nil | cons (e : IE) (es : IEs)
inductive IEo where
  | no | so (e : IE)
inductive II where
  | el (e : IE) | rg1 (a : IE) | rg2 (a b : IE) | rg3 (a b c : IE) | enu (a : IE) | zip (a b : IE) | rvs (a : IE) | itms (a : IE)
end
mutual
inductive IS where
  | asg (i : Nat) (e : IE)
  | mov (i j : Nat)
  | tasg (is : List Nat) (e : IE)
  | par (i j : Nat) (a b : IE)
  | mut (i : Nat) (p : IEo) (m : MU) (es : IEs)
  | ret (e : IE) | retn
  | ife (c : IE) (a b : ISs)
  | for_ (tg : Tg) (it : II) (body : ISs)
  | whl (n : Nat) (c : IE) (body : ISs)
  | brk | cnt | pas | nev
  | apop (i j : Nat) (e : IE)
  | sdp (i : Nat) (k x : IE)
  | mapp (i j : Nat)
  | exp (e : IE)
  | tasgk (is ks : List Nat) (e : IE)
  | probe (g : IEo) (x j : Nat) (e c : IE)
inductive ISs where
  | nil | cons (s : IS) (r : ISs) | drop (is : List Nat) (r : ISs)
end

/-! ### values reckoned -/
abbrev line : Nat := sizeLine
def truth : D → R Bool
  | .non => .ok false
  | .bl b => .ok b
  | .int i => .ok (i != 0)
  | .str s => (chk (decide (s.length ≤ line))).bind fun _ => .ok ((s.length : Int) != 0)
  | .tup xs => .ok (!xs.isEmpty)
  | .lst xs => .ok (!xs.isEmpty)
  | .dct kvs => .ok (!kvs.isEmpty)
  | .ins _ => .bad
  | .scr ns => .ok (!ns.isEmpty)
  | .dcn _ => .bad
def mulOk (i j : Int) : Bool := decide (i.natAbs.log2 + j.natAbs.log2 < 1000000)
def divOk (j : Int) : Bool := decide (0 < j) && decide (j.natAbs.log2 < 9000)
def powOk (i j : Int) : Bool := decide (0 ≤ j) && decide (j ≤ 1000000) && decide (i.natAbs < 2 ^ 64)
/-- the places of [k::2] -/
def evIx (n : Nat) (o : Option Int) : List Nat := sliceRange (sliceBounds o none (some 2) n).1 (sliceBounds o none (some 2) n).2.1 (sliceBounds o none (some 2) n).2.2
def pickE {α : Type} (xs : List α) (o : Option Int) : List α := (evIx xs.length o).filterMap (xs[·]?)
def leD (a b : D) : Bool := !PySem.W.dataLt b.toP a.toP
def tup1 (d : D) : Bool := match d with
  | .tup (_ :: _) => d.pure && (d.shaped && decide (d.toP.depth ≤ 60))
  | _ => false
def sortable (ds : List D) : Bool := ds.all tup1 && (decide (ds.length ≤ line) && ds.all fun a => ds.all fun b => PySem.W.alike a.toP b.toP)
def repOk (xs : List D) (k : Int) : Bool := !xs.isEmpty && (decide (2 ≤ k) && (decide (k ≤ 1000) && (decide (xs.length ≤ 1000) && pureAll xs)))
def binD : Operator → D → D → R D
  | .Add, .int i, .int j => .ok (.int (i + j))
  | .Add, .tup xs, .tup ys => (chk (decide (xs.length + ys.length ≤ line))).bind fun _ => .ok (.tup (xs ++ ys))
  | .Add, .lst xs, .lst ys => (chk (decide (xs.length + ys.length ≤ line))).bind fun _ => .ok (.lst (xs ++ ys))
  | .Add, .str x, .str y => (chk (decide (x.length + y.length ≤ line))).bind fun _ => .ok (.str (x ++ y))
  | .Sub, .int i, .int j => .ok (.int (i - j))
  | .Mult, .int i, .int j => (chk (mulOk i j)).bind fun _ => .ok (.int (i * j))
  | .FloorDiv, .int i, .int j => (chk (divOk j)).bind fun _ => .ok (.int (i / j))
  | .Mod, .int i, .int j => (chk (decide (0 < j))).bind fun _ => .ok (.int (i % j))
  | .Pow, .int i, .int j => (chk (powOk i j)).bind fun _ => .ok (.int (i ^ j.toNat))
  | .LShift, .int i, .int j => (chk (powOk i j)).bind fun _ => .ok (.int (i * 2 ^ j.toNat))
  | .RShift, .int i, .int j => (chk (decide (0 ≤ j))).bind fun _ => .ok (.int (i / 2 ^ j.toNat))
  | .BitAnd, .int i, .int j => .ok (.int (Builtin.bitAnd i j))
  | .BitOr, .int i, .int j => .ok (.int (Builtin.bitOr i j))
  | .BitXor, .int i, .int j => .ok (.int (Builtin.bitXor i j))
  | .Mult, .lst xs, .int k => (chk (decide (-(2 ^ 63) ≤ k) && decide (k < 2 ^ 63) && decide (xs.length * k.toNat ≤ line) && pureAll xs)).bind fun _ => .ok (.lst (List.replicate k.toNat xs).flatten)
  | .Mult, .tup xs, .int k => (chk (repOk xs k)).bind fun _ => .ok (.tup (List.replicate k.toNat xs).flatten)
  | _, _, _ => .bad
def intOf : D → Option Int
  | .int i => some i
  | _ => none
def blOf : D → Option Bool
  | .bl b => some b
  | _ => none
def blsOf : List D → Option (List Bool)
  | [] => some []
  | x :: r => match blOf x, blsOf r with
    | some b, some bs => some (b :: bs)
    | _, _ => none
def intsOf : List D → Option (List Int)
  | [] => some []
  | x :: r => match intOf x, intsOf r with
    | some i, some is => some (i :: is)
    | _, _ => none
/-- put into a rising list, once -/
def insU (x : Int) : List Int → List Int
  | [] => [x]
  | y :: r => if x < y then x :: y :: r else if x = y then y :: r else y :: insU x r
def sortU (l : List Int) : List Int := l.foldr insU []
def srsD : D → R D
  | .tup xs => match intsOf xs with
    | some is => (chk (decide (is.length < 60))).bind fun _ => .ok (.lst ((sortU is).map D.int))
    | none => .bad
  | .lst xs => match intsOf xs with
    | some is => (chk (decide (is.length < 60))).bind fun _ => .ok (.lst ((sortU is).map D.int))
    | none => .bad
  | _ => .bad
def ltD : D → D → R Bool
  | .int i, .int j => .ok (decide (i < j))
  | .tup xs, .tup ys => match intsOf xs, intsOf ys with
    | some is, some js => .ok (HT.lexLt is js)
    | _, _ => (chk ((D.tup xs).shaped && ((D.tup ys).shaped && PySem.W.alike (D.tup xs).toP (D.tup ys).toP))).bind fun _ => .ok (PySem.W.dataLt (D.tup xs).toP (D.tup ys).toP)
  | .str x, .str y => .ok (decide (x.cps.toList < y.cps.toList))
  | _, _ => .bad
def flatD : D → Bool
  | .non => true
  | .bl _ => true
  | .int _ => true
  | .str _ => true
  | _ => false
def anyEqv (d : D) (xs : List D) : Bool := (toPs xs).any fun z => PyData.eqv z d.toP
def keyOf : D → Option L2.Key
  | .int i => some (.inl i)
  | .str s => some (.inr s)
  | _ => none
def valD (q : L2.Key) : List (L2.Key × D) → Option D
  | [] => none
  | (x, v) :: r => if x = q then some v else valD q r
def inD (x : D) : D → R Bool
  | .lst ys => (chk (x.shaped && (D.lst ys).shaped)).bind fun _ => .ok (anyEqv x ys)
  | .tup ys => (chk (flatD x && ys.all flatD)).bind fun _ => .ok (anyEqv x ys)
  | .str t => match x with
    | .str s => .ok (!(Builtin.Str.occurrences t s 0 t.length 1).isEmpty)
    | _ => .bad
  | .dct kvs => match keyOf x with
    | some q => .ok (valD q kvs).isSome
    | none => (chk (kvs.isEmpty && (nkT x).isSome)).bind fun _ => .ok false
  | .dcn kvs => match nkT x with
    | some q => .ok (valN q kvs).isSome
    | none => .bad
  | _ => .bad
def isD : D → D → R Bool
  | .non, .non => .ok true
  | _, .non => .ok false
  | .bl a, .bl b => .ok (decide (a = b))
  | _, _ => .bad
def cmpD : CmpOp → D → D → R Bool
  | .Eq, a, b => (chk (a.shaped && b.shaped)).bind fun _ => .ok (a.eqv b)
  | .NotEq, a, b => (chk (a.shaped && b.shaped)).bind fun _ => .ok (!a.eqv b)
  | .Lt, a, b => ltD a b
  | .Gt, .int i, .int j => .ok (decide (j < i))
  | .LtE, .int i, .int j => .ok (decide (i ≤ j))
  | .GtE, .int i, .int j => .ok (decide (j ≤ i))
  | .In, a, b => inD a b
  | .NotIn, a, b => (inD a b).bind fun k => .ok (!k)
  | .Is, a, b => isD a b
  | .IsNot, a, b => (isD a b).bind fun k => .ok (!k)
  | _, _, _ => .bad
def getAt {α : Type} (xs : List α) (i : Int) : R α := match L2.atI xs i with
  | some v => .ok v
  | none => .bad
def idxD : D → D → R D
  | .lst xs, .int i => getAt xs i
  | .tup xs, .int i => getAt xs i
  | .scr ns, .int i => (getAt ns i).bind fun n => .ok (.int n)
  | .str z, .int i => (chk (decide (z.length ≤ line))).bind fun _ => (getAt z.cps.toList i).bind fun c => .ok (.str ⟨#[c]⟩)
  | .dct kvs, k => match keyOf k with
    | some q => match valD q kvs with
      | some v => .ok v
      | none => .bad
    | none => .bad
  | .dcn kvs, k => match nkT k with
    | some q => match valN q kvs with
      | some v => .ok v
      | none => .bad
    | none => .bad
  | _, _ => .bad
def cutD {α : Type} (xs : List α) (lo hi : Option Int) : List α := (xs.drop (HT.sIx xs.length 0 lo)).take (HT.sIx xs.length xs.length hi - HT.sIx xs.length 0 lo)
def slcD : D → Option Int → Option Int → R D
  | .lst xs, lo, hi => .ok (.lst (cutD xs lo hi))
  | .tup xs, lo, hi => .ok (.tup (cutD xs lo hi))
  | .scr ns, lo, hi => .ok (.lst ((cutD ns lo hi).map D.int))
  | _, _, _ => .bad
def tyIs : D → Ty → Option Bool
  | .non, .own _ => none
  | .non, _ => some false
  | .bl _, .bool => some true
  | .bl _, .int => some true
  | .bl _, .own _ => none
  | .bl _, _ => some false
  | .int _, .int => some true
  | .int _, .own _ => none
  | .int _, _ => some false
  | .str _, .str => some true
  | .str _, .own _ => none
  | .str _, _ => some false
  | .tup _, .tuple => some true
  | .tup _, .own _ => none
  | .tup _, _ => some false
  | .lst _, .list => some true
  | .lst _, .own _ => none
  | .lst _, _ => some false
  | .dct _, .dict => some true
  | .dct _, .own _ => none
  | .dct _, _ => some false
  | .dcn _, _ => none
  | .ins _, _ => none
  | .scr _, _ => none
def elems : D → Option (List D)
  | .lst xs => some xs
  | .tup xs => some xs
  | _ => none
def biD : BI → List D → R D
  | .len, [.lst xs] => .ok (.int xs.length)
  | .len, [.tup xs] => .ok (.int xs.length)
  | .len, [.scr ns] => .ok (.int ns.length)
  | .len, [.str z] => (chk (decide (z.length ≤ line))).bind fun _ => .ok (.int z.length)
  | .list, [.lst xs] => .ok (.lst xs)
  | .list, [.tup xs] => .ok (.lst xs)
  | .tuple, [.lst xs] => .ok (.tup xs)
  | .tuple, [.tup xs] => .ok (.tup xs)
  | .sorted, [.lst xs] => match intsOf xs with
    | some is => .ok (.lst ((is.mergeSort (fun a b => decide (a ≤ b))).map D.int))
    | none => (chk (sortable xs)).bind fun _ => .ok (.lst (xs.mergeSort leD))
  | .sum, [.lst xs] => match intsOf xs with
    | some is => .ok (.int is.sum)
    | none => .bad
  | .min, [.int i, .int j] => .ok (.int (if j < i then j else i))
  | .max, [.int i, .int j] => .ok (.int (if j > i then j else i))
  | .min, [.lst xs] => match intsOf xs with
    | some (n :: ns) => .ok (.int (ns.foldl min n))
    | _ => .bad
  | .max, [.lst xs] => match intsOf xs with
    | some (n :: ns) => .ok (.int (ns.foldl max n))
    | _ => .bad
  | .min, [.tup xs] => match intsOf xs with
    | some (n :: ns) => .ok (.int (ns.foldl min n))
    | _ => .bad
  | .max, [.tup xs] => match intsOf xs with
    | some (n :: ns) => .ok (.int (ns.foldl max n))
    | _ => .bad
  | .int, [.int i] => .ok (.int i)
  | .int, [.bl k] => .ok (.int (if k then 1 else 0))
  | .str, [.int i] => (chk (decide (i.natAbs.log2 < 1920))).bind fun _ => .ok (.str (Str.ofString (toString i)))
  | .len, [.dct kvs] => .ok (.int kvs.length)
  | .len, [.dcn kvs] => .ok (.int kvs.length)
  | .all, [.lst xs] => match blsOf xs with
    | some bs => .ok (.bl (bs.all id))
    | none => .bad
  | _, _ => .bad
def findE (x : D) : List D → Nat → Option Nat
  | [], _ => none
  | y :: r, n => if y.eqv x then some n else findE x r (n + 1)
def mthD : MT → D → List D → R D
  | .get, .dct kvs, [k] => match keyOf k with
    | some q => .ok ((valD q kvs).getD .non)
    | none => .bad
  | .index, .lst ys, [x] => (chk (x.shaped && (D.lst ys).shaped)).bind fun _ => match findE x ys 0 with
    | some j => .ok (.int j)
    | none => .bad
  | .upper, .str z, [] => (chk (decide (z.length ≤ 5592405))).bind fun _ => .ok (.str (Txt.upper z))
  | .getd, .dct kvs, [k, e] => match keyOf k with
    | some q => .ok ((valD q kvs).getD e)
    | none => (chk (kvs.isEmpty && (nkT k).isSome)).bind fun _ => .ok e
  | .getd, .dcn kvs, [k, e] => match nkT k with
    | some q => .ok ((valN q kvs).getD e)
    | none => .bad
  | _, _, _ => .bad
/-- a list's places taken, one behind another -/
def enumD : Nat → List D → List D
  | _, [] => []
  | n, x :: r => .tup [.int n, x] :: enumD (n + 1) r
def zipD : List D → List D → List D
  | x :: r, y :: s => .tup [x, y] :: zipD r s
  | _, _ => []
def rngOk (a b : Int) : Bool := decide (-(2 ^ 62) ≤ a) && decide (a < 2 ^ 62) && decide (-(2 ^ 62) ≤ b) && decide (b < 2 ^ 62)
def rngD (a : Int) : Nat → List D
  | 0 => []
  | n + 1 => .int a :: rngD (a + 1) n
def rngC (a c : Int) : Nat → List D
  | 0 => []
  | n + 1 => .int a :: rngC (a + c) c n
def rgcOk (a b c : Int) : Bool := decide (c ≠ 0) && (decide (c.natAbs < 1073741824) && (Builtin.Range.small a b c && decide (0 ≤ Builtin.Range.rangeSize a b c)))
def chars (s : Str) : List D := s.cps.toList.map fun c => .str ⟨#[c]⟩

def putD (kvs : List (L2.Key × D)) (k : L2.Key) (v : D) : List (L2.Key × D) :=
  if (kvs.any fun kv => decide (kv.1 = k)) = true then kvs.map (fun kv => if kv.1 = k then (kv.1, v) else kv) else kvs ++ [(k, v)]
def mergeD (more : List (L2.Key × D)) : List (L2.Key × D) := more.foldl (fun acc kv => putD acc kv.1 kv.2) []
/-- a displayed dict's pairs -/
def pairD : List D → R (List (L2.Key × D))
  | [] => .ok []
  | [_] => .bad
  | k :: v :: r => match keyOf k with
    | some q => (pairD r).bind fun kvs => .ok ((q, v) :: kvs)
    | none => .bad
abbrev Sg := List (Option D)
def bindT : Tg → D → Sg → R Sg
  | .one i, d, σ => .ok (σ.set i (some d))
  | .many is, .tup ds, σ => if ds.length = is.length then .ok (setAll is ds σ) else .bad
  | .many is, .lst ds, σ => if ds.length = is.length then .ok (setAll is ds σ) else .bad
  | _, _, _ => .bad
where setAll : List Nat → List D → Sg → Sg
  | i :: is, d :: ds, σ => setAll is ds (σ.set i (some d))
  | _, _, σ => σ
def getV (σ : Sg) (i : Nat) : R D := match σ[i]? with
  | some (some d) => .ok d
  | _ => .bad
def wipeT : Tg → Sg → Sg
  | .one i, σ => σ.set i none
  | .many is, σ => is.foldl (fun s i => s.set i none) σ
/-- the list of a comprehension -/
def compL (f : D → R (Option D)) : List D → R (List D)
  | [] => .ok []
  | x :: r => (f x).bind fun o => (compL f r).bind fun ys => match o with
    | some y => .ok (y :: ys)
    | none => .ok ys

def anyTy (x : D) : List Ty → R D
  | [] => .ok (.bl false)
  | t :: ts => match tyIs x t with
    | some true => .ok (.bl true)
    | some false => anyTy x ts
    | none => .bad
section
variable (Φ : Nat → List D → R D) (M : Nat → Nat → Option Nat)
mutual
def evE : IE → Sg → R D
  | .var i, σ => getV σ i
  | .non, _ => .ok .non
  | .bl b, _ => .ok (.bl b)
  | .int n, _ => .ok (.int n)
  | .str s, _ => .ok (.str s)
  | .bin op a b, σ => (evE a σ).bind fun x => (evE b σ).bind fun y => binD op x y
  | .neg a, σ => (evE a σ).bind fun x => match x with
    | .int i => .ok (.int (-i))
    | _ => .bad
  | .not a, σ => (evE a σ).bind fun x => (truth x).bind fun k => .ok (.bl (!k))
  | .bo o a b, σ => (evE a σ).bind fun x => (truth x).bind fun k => if k = o then .ok x else evE b σ
  | .cmp op a b, σ => (evE a σ).bind fun x => (evE b σ).bind fun y => (cmpD op x y).bind fun k => .ok (.bl k)
  | .cmp2 op op' a b c, σ => (evE a σ).bind fun x => (evE b σ).bind fun y => (cmpD op x y).bind fun k =>
      if k then (evE c σ).bind fun z => (cmpD op' y z).bind fun k' => .ok (.bl k') else .ok (.bl false)
  | .ife c a b, σ => (evE c σ).bind fun x => (truth x).bind fun k => if k then evE a σ else evE b σ
  | .tup es, σ => (evEs es σ).bind fun xs => (chk (decide (xs.length ≤ line))).bind fun _ => .ok (.tup xs)
  | .lst es, σ => (evEs es σ).bind fun xs => (chk (decide (xs.length ≤ line))).bind fun _ => .ok (.lst xs)
  | .idx a b, σ => (evE a σ).bind fun x => (evE b σ).bind fun y => idxD x y
  | .slc a lo hi, σ => (evE a σ).bind fun x => (evO lo σ).bind fun l => (evO hi σ).bind fun h => slcD x l h
  | .srs a, σ => (evE a σ).bind srsD
  | .pix a b, σ => (evE a σ).bind fun x => (evE b σ).bind fun y => (idxD x y).bind fun d => (chk d.pure).bind fun _ => .ok d
  | .lsp a, σ => (evE a σ).bind fun x => match x with
    | .lst xs => (chk (pureAll xs)).bind fun _ => .ok (.lst xs)
    | .tup xs => (chk (pureAll xs)).bind fun _ => .ok (.lst xs)
    | _ => .bad
  | .rev a, σ => (evE a σ).bind fun x => match x with
    | .lst xs => .ok (.lst xs.reverse)
    | .tup xs => .ok (.tup xs.reverse)
    | _ => .bad
  | .evr a lo, σ => (evE a σ).bind fun x => (evO lo σ).bind fun o => match x with
    | .lst xs => (chk (pureAll xs)).bind fun _ => .ok (.lst (pickE xs o))
    | _ => .bad
  | .comp elt tg it ifs, σ => (evI it σ).bind fun xs => (chk (decide (xs.length ≤ line))).bind fun _ =>
      (compL (fun x => (bindT tg x (wipeT tg σ)).bind fun σ' => (evC ifs σ').bind fun k => if k then (evE elt σ').bind fun y => .ok (some y) else .ok none) xs).bind fun ys => .ok (.lst ys)
  | .call f es, σ => (evEs es σ).bind fun xs => Φ f xs
  | .bi b es, σ => (evEs es σ).bind fun xs => biD b xs
  | .isi a ts, σ => (evE a σ).bind fun x => anyTy x ts
  | .mth m o es, σ => (evE o σ).bind fun x => (evEs es σ).bind fun xs => mthD m x xs
  | .omt m o es, σ => (evE o σ).bind fun x => (evEs es σ).bind fun xs => match x with
    | .ins c => match M c m with
      | some f => Φ f (x :: xs)
      | none => .bad
    | _ => .bad
  | .mk c, _ => .ok (.ins c)
  | .calld f m es, σ => (evEs es σ).bind fun xs => Φ f (xs ++ List.replicate m .non)
  | .lrg a, σ => (evE a σ).bind fun x => match x with
    | .int n => (chk (rngOk 0 n && decide (n.toNat ≤ 2 ^ 24))).bind fun _ => .ok (.lst (rngD 0 n.toNat))
    | _ => .bad
  | .dsp es, σ => (evEs es σ).bind fun xs => (pairD xs).bind fun r => (chk (decide (r.length ≤ 15))).bind fun _ => .ok (.dct (mergeD r))
  | .dsl k v, σ => (evE k σ).bind fun kk => (evE v σ).bind fun d => match keyOf kk with
    | some q => .ok (.dct [(q, d)])
    | none => .bad
  | .dct .nil .nil, _ => .ok (.dct [])
  | .dct _ _, _ => .bad
def evEs : IEs → Sg → R (List D)
  | .nil, _ => .ok []
  | .cons e es, σ => (evE e σ).bind fun x => (evEs es σ).bind fun xs => .ok (x :: xs)
/-- a slice's part -/
def evO : IEo → Sg → R (Option Int)
  | .no, _ => .ok none
  | .so e, σ => (evE e σ).bind fun x => match x with
    | .int i => .ok (some i)
    | _ => .bad
/-- a comprehension's test -/
def evC : IEo → Sg → R Bool
  | .no, _ => .ok true
  | .so e, σ => (evE e σ).bind fun x => truth x
/-- the items that are walked -/
def evI : II → Sg → R (List D)
  | .el e, σ => (evE e σ).bind fun x => match x with
    | .lst xs => .ok xs
    | .tup xs => .ok xs
    | .scr ns => .ok (ns.map D.int)
    | .str s => .ok (chars s)
    | _ => .bad
  | .rg1 a, σ => (evE a σ).bind fun x => match x with
    | .int n => (chk (rngOk 0 n)).bind fun _ => .ok (rngD 0 n.toNat)
    | _ => .bad
  | .rg2 a b, σ => (evE a σ).bind fun x => (evE b σ).bind fun y => match x, y with
    | .int m, .int n => (chk (rngOk m n)).bind fun _ => .ok (rngD m (n - m).toNat)
    | _, _ => .bad
  | .rg3 a b c, σ => (evE a σ).bind fun x => (evE b σ).bind fun y => (evE c σ).bind fun z => match x, y, z with
    | .int i, .int j, .int k => (chk (rgcOk i j k)).bind fun _ => .ok (rngC i k (Builtin.Range.rangeSize i j k).toNat)
    | _, _, _ => .bad
  | .enu a, σ => (evE a σ).bind fun x => match x with
    | .lst xs => .ok (enumD 0 xs)
    | .tup xs => .ok (enumD 0 xs)
    | _ => .bad
  | .zip a b, σ => (evE a σ).bind fun x => (evE b σ).bind fun y => match x, y with
    | .lst xs, .lst ys => .ok (zipD xs ys)
    | .tup xs, .tup ys => .ok (zipD xs ys)
    | .lst xs, .tup ys => .ok (zipD xs ys)
    | .tup xs, .lst ys => .ok (zipD xs ys)
    | _, _ => .bad
  | .rvs a, σ => (evE a σ).bind fun x => match x with
    | .lst xs => .ok xs.reverse
    | .tup xs => .ok xs.reverse
    | _ => .bad
  | .itms a, σ => (evE a σ).bind fun x => match x with
    | .dcn kvs => .ok (kvs.map fun kv => .tup [kv.1, kv.2])
    | _ => .bad
end
end
/-! ### statements -/
inductive Fl where
  | nx (σ : Sg) | rt (d : D) | bk (σ : Sg) | ct (σ : Sg)
def forL (body : D → Sg → R Fl) : List D → Sg → R Fl
  | [], σ => .ok (.nx σ)
  | x :: xs, σ => (body x σ).bind fun f => match f with
    | .nx σ' => forL body xs σ'
    | .ct σ' => forL body xs σ'
    | .bk σ' => .ok (.nx σ')
    | .rt d => .ok (.rt d)
def whlL (c : Sg → R Bool) (body : Sg → R Fl) : Nat → Sg → R Fl
  | 0, _ => .bad
  | n + 1, σ => (c σ).bind fun k => if k then (body σ).bind fun f => match f with
      | .nx σ' => whlL c body n σ'
      | .ct σ' => whlL c body n σ'
      | .bk σ' => .ok (.nx σ')
      | .rt d => .ok (.rt d)
    else .ok (.nx σ)
def muD : MU → D → List D → R D
  | .append, .lst xs, [y] => (chk (decide (xs.length < line))).bind fun _ => .ok (.lst (xs ++ [y]))
  | .extend, .lst xs, [.lst ys] => (chk (decide (xs.length + ys.length ≤ line))).bind fun _ => .ok (.lst (xs ++ ys))
  | .clear, .lst _, [] => .ok (.lst [])
  | .reverse, .lst xs, [] => .ok (.lst xs.reverse)
  | .insert, .lst xs, [.int i, y] => (chk (decide (xs.length < line) && decide (i = 0))).bind fun _ => .ok (.lst (y :: xs))
  | .set, .lst xs, [v, .int i] => match L2.ixN xs.length i with
    | some j => .ok (.lst (xs.set j v))
    | none => .bad
  | .set, .dct kvs, [v, k] => match keyOf k with
    | some q => (chk (decide (kvs.length < line))).bind fun _ => .ok (.dct (putD kvs q v))
    | none => match nkT k with
      | some q => (chk kvs.isEmpty).bind fun _ => .ok (.dcn (putN [] k q v))
      | none => .bad
  | .set, .dcn kvs, [v, k] => match nkT k with
    | some q => (chk (decide (kvs.length < line))).bind fun _ => .ok (.dcn (putN kvs k q v))
    | none => .bad
  | _, _, _ => .bad
/-- the first entry with this key given another value -/
def setK (q : L2.Key) (e : D) : List (L2.Key × D) → List (L2.Key × D)
  | [] => []
  | (x, v) :: r => if x = q then (x, e) :: r else (x, v) :: setK q e r
def setN (q : NestedKey) (e : D) : List (D × D) → List (D × D)
  | [] => []
  | (x, v) :: r => if nkT x = some q then (x, e) :: r else (x, v) :: setN q e r
def lstP : D → Bool
  | .lst ys => pureAll ys
  | _ => false
/-- d.setdefault(k, []) -/
def stdD : D → D → R D
  | .dct kvs, k => match keyOf k with
    | some q => (chk (decide (kvs.length < line))).bind fun _ => match valD q kvs with
      | some v => (chk (lstP v)).bind fun _ => .ok (.dct kvs)
      | none => .ok (.dct (kvs ++ [(q, .lst [])]))
    | none => match nkT k with
      | some q => (chk kvs.isEmpty).bind fun _ => .ok (.dcn [(k, .lst [])])
      | none => .bad
  | .dcn kvs, k => match nkT k with
    | some q => (chk (decide (kvs.length < line))).bind fun _ => match valN q kvs with
      | some v => (chk (lstP v)).bind fun _ => .ok (.dcn kvs)
      | none => .ok (.dcn (kvs ++ [(k, .lst [])]))
    | none => .bad
  | _, _ => .bad
/-- .. .append(x) -/
def appD : D → D → D → R D
  | .dct kvs, k, x => match keyOf k with
    | some q => match valD q kvs with
      | some (.lst ys) => (chk (decide (ys.length < line) && (pureAll ys && x.pure))).bind fun _ => .ok (.dct (setK q (.lst (ys ++ [x])) kvs))
      | _ => .bad
    | none => .bad
  | .dcn kvs, k, x => match nkT k with
    | some q => match valN q kvs with
      | some (.lst ys) => (chk (decide (ys.length < line) && (pureAll ys && x.pure))).bind fun _ => .ok (.dcn (setN q (.lst (ys ++ [x])) kvs))
      | _ => .bad
    | none => .bad
  | _, _, _ => .bad
def apopD : D → D → D → R (List D × List D)
  | .lst xs, .lst ys, .int k => (chk (decide (xs.length < line) && (pureAll ys && (decide (-(2 ^ 63) ≤ k) && decide (k < 2 ^ 63))))).bind fun _ => match L2.ixN ys.length k with
    | some m => match ys[m]? with
      | some v => .ok (xs ++ [v], ys.eraseIdx m)
      | none => .bad
    | none => .bad
  | _, _, _ => .bad
/-- a list's, a tuple's writing within -/
def muAt (m : MU) : D → D → List D → R D
  | .lst ds, .int k, xs => match L2.ixN ds.length k with
    | some j => match ds[j]? with
      | some (.lst ys) => (chk (pureAll ys)).bind fun _ => (muD m (.lst ys) xs).bind fun y => .ok (.lst (ds.set j y))
      | _ => .bad
    | none => .bad
  | .tup ds, .int k, xs => match L2.ixN ds.length k with
    | some j => match ds[j]? with
      | some (.lst ys) => (chk (pureAll ys)).bind fun _ => (muD m (.lst ys) xs).bind fun y => .ok (.tup (ds.set j y))
      | _ => .bad
    | none => .bad
  | _, _, _ => .bad
/-- each list within made longer, asked, emptied -/
def prbL (g : D → Sg → R Bool) (ef : Sg → R D) (cf : Sg → R Bool) (j : Nat) (σ : Sg) : Nat → Nat → List D → R Fl
  | _, 0, ds => .ok (.nx (σ.set j (some (.lst ds))))
  | k, m + 1, ds => match ds[k]? with
    | none => .bad
    | some u => (g u (σ.set j (some (.lst ds)))).bind fun b => if b then (match u with
        | .lst ys => (chk (pureAll ys && decide (ys.length < line))).bind fun _ => (ef (σ.set j (some (.lst ds)))).bind fun d => (chk d.pure).bind fun _ =>
          (cf (σ.set j (some (.lst (ds.set k (.lst (ys ++ [d]))))))).bind fun r => if r then .ok (.rt (.bl false)) else prbL g ef cf j σ (k + 1) m (ds.set k (.lst []))
        | _ => .bad)
      else prbL g ef cf j σ (k + 1) m ds
def tyC : Nat → D → Bool
  | 0, d => d.pure
  | 1, d => d.ep
  | _, _ => true
def tyChk : List Nat → List D → Bool
  | k :: ks, d :: ds => tyC k d && tyChk ks ds
  | _, _ => true
def wipe (is : List Nat) (σ : Sg) : Sg := is.foldl (fun s i => s.set i none) σ
section
variable (Φ : Nat → List D → R D) (M : Nat → Nat → Option Nat)
mutual
def evS : IS → Sg → R Fl
  | .asg i e, σ => (evE Φ M e σ).bind fun d => .ok (.nx (σ.set i (some d)))
  | .mov i j, σ => (getV σ j).bind fun d => .ok (.nx ((σ.set i (some d)).set j none))
  | .tasg is e, σ => (evE Φ M e σ).bind fun d => (bindT (.many is) d σ).bind fun σ' => .ok (.nx σ')
  | .par i j a b, σ => (evE Φ M a σ).bind fun x => (evE Φ M b σ).bind fun y => .ok (.nx ((σ.set i (some x)).set j (some y)))
  | .mut i p m es, σ => match p with
    | .no => (getV σ i).bind fun d => (evEs Φ M es σ).bind fun xs => (muD m d xs).bind fun d' => .ok (.nx (σ.set i (some d')))
    | .so e => (getV σ i).bind fun d => (evE Φ M e σ).bind fun k => (evEs Φ M es σ).bind fun xs => (chk (pureAll xs)).bind fun _ => (muAt m d k xs).bind fun d' => .ok (.nx (σ.set i (some d')))
  | .probe g x j e c, σ => (getV σ j).bind fun d => match d with
    | .lst ds => (chk (decide (x < σ.length))).bind fun _ => prbL (fun u σ => match g with
        | .no => .ok true
        | .so g => (evE Φ M g (σ.set x (some u))).bind truth) (fun σ => evE Φ M e σ) (fun σ => (evE Φ M c σ).bind truth) j (σ.set x none) 0 ds.length ds
    | _ => .bad
  | .ret e, σ => (evE Φ M e σ).bind fun d => .ok (.rt d)
  | .retn, _ => .ok (.rt .non)
  | .ife c a b, σ => (evE Φ M c σ).bind fun x => (truth x).bind fun k => if k then evSs a σ else evSs b σ
  | .for_ tg it body, σ => (evI Φ M it σ).bind fun xs => forL (fun x σ => (bindT tg x σ).bind fun σ' => evSs body σ') xs σ
  | .whl n c body, σ => whlL (fun σ => (evE Φ M c σ).bind truth) (fun σ => evSs body σ) n σ
  | .brk, σ => .ok (.bk σ)
  | .cnt, σ => .ok (.ct σ)
  | .pas, σ => .ok (.nx σ)
  | .nev, _ => .bad
  | .mapp i j, σ => (getV σ i).bind fun c => (getV σ j).bind fun d => match c with
    | .lst xs => (chk (decide (xs.length < line))).bind fun _ => .ok (.nx ((σ.set i (some (.lst (xs ++ [d])))).set j none))
    | _ => .bad
  | .tasgk is ks e, σ => (evE Φ M e σ).bind fun d => match d with
    | .tup ds => (chk (tyChk ks ds)).bind fun _ => (bindT (.many is) (.tup ds) σ).bind fun σ' => .ok (.nx σ')
    | _ => .bad
  | .exp e, σ => (evE Φ M e σ).bind fun _ => .ok (.nx σ)
  | .sdp i k x, σ => (getV σ i).bind fun d => (evE Φ M k σ).bind fun kk => (stdD d kk).bind fun d1 => (evE Φ M x (σ.set i (some d1))).bind fun xv => (appD d1 kk xv).bind fun d2 => .ok (.nx (σ.set i (some d2)))
  | .apop i j e, σ => (getV σ i).bind fun c => (getV σ j).bind fun d => (evE Φ M e σ).bind fun x => (apopD c d x).bind fun p => .ok (.nx ((σ.set j (some (.lst p.2))).set i (some (.lst p.1))))
def evSs : ISs → Sg → R Fl
  | .nil, σ => .ok (.nx σ)
  | .cons s r, σ => (evS s σ).bind fun f => match f with
    | .nx σ' => evSs r σ'
    | f => .ok f
  | .drop is r, σ => evSs r (wipe is σ)
end
/-- a def called -/
def evB (n : Nat) (body : ISs) (args : List D) : R D :=
  (evSs Φ M body (args.map some ++ List.replicate (n - args.length) none)).bind fun f => match f with
    | .rt d => .ok d
    | .nx _ => .ok .non
    | _ => .bad
end
end Ev

/-! Part B1: how a plain value stands in the heap. -/
namespace Ev
open PySem PySem.Spec PyProof.Rows L2

/-- what of the program stands fast -/
structure GC where
  P : Program
  w : World
  K : PySem.W.Frag
  mg : Str → Option Value
  base : Heap
  cls : Nat → Addr

/-- the script's list: locked, or the module's -/
def SqF (K : PySem.W.Frag) (H : Hp) (a : Addr) (xs : List V) : Prop :=
  (∃ o, H a = some (.frz o (.lst xs))) ∨ ∃ (o : Obj) (its : Array Value) (n : Nat), K.lookup a = some o ∧ o.cls = .type "list" ∧ o.dict = none ∧ o.data = .seq its n ∧ its.size ≤ sizeLine ∧ Vals xs its.toList
theorem SqF.sql {K : PySem.W.Frag} {H : Hp} {a : Addr} {xs : List V} (h : SqF K H a xs) : SqL K H a xs := by
  rcases h with ⟨o, h⟩ | h
  · exact .inl (.inr ⟨o, h⟩)
  · exact .inr h

/-! ### dicts whose keys are tuples -/
/-- keys, their tuples, values -/
def KN : List (NestedKey × Addr × V) → List (NestedKey × Addr × Value) → Prop := Paired fun p q => p.1 = q.1 ∧ p.2.1 = q.2.1 ∧ RelV p.2.2 q.2.2
/-- what stands at a -/
def DnOk (P : Program) (w : World) (a : Addr) (o : Obj) (xs : List (NestedKey × Addr × V)) (h : Heap) : Prop :=
  h.get? a = some o ∧ xs.length ≤ sizeLine ∧ (a == sysModules) = false ∧ ∃ ys : List (NestedKey × Addr × Value), KN xs ys ∧
    ∃ es ep, o.ExactDict ∧ o.data = .dict es ep ∧ es.toList = ys.map (entryOfKey (nestedKind P w)) ∧ (ys.map (·.1)).Nodup
theorem DnOk.at {P : Program} {w : World} {a : Addr} {o : Obj} {xs : List (NestedKey × Addr × V)} {h h' : Heap} (x : DnOk P w a o xs h) (k : ∀ o, h.get? a = some o → h'.get? a = some o) : DnOk P w a o xs h' := by
  obtain ⟨e, c⟩ := x
  exact ⟨k _ e, c⟩
theorem dn_ok {P : Program} {w : World} {H : Hp} {h : Heap} {a : Addr} {o : Obj} {xs : List (NestedKey × Addr × V)} (x : DnOk P w a o xs h) : ObjOk P w H h a (.ext (DnOk P w a o xs)) :=
  ⟨x, ⟨o, x.1⟩, fun h1 h2 p k => p.at k⟩

mutual
inductive Rep (G : GC) (H : Hp) : V → D → List Addr → Prop
  | non : Rep G H .non .non []
  | bl (b : Bool) : Rep G H (.bl b) (.bl b) []
  | int (i : Int) : Rep G H (.int i) (.int i) []
  | str (s : Str) : Rep G H (.str s) (.str s) []
  | tup {a : Addr} {xs : List V} {ds : List D} {F : List Addr} : SqT G.K H a xs → Reps G H xs ds F → Rep G H (.ref a) (.tup ds) F
  | lst {a : Addr} {xs : List V} {ds : List D} {F : List Addr} : H a = some (.lst xs) → Reps G H xs ds F → Rep G H (.ref a) (.lst ds) (a :: F)
  | dct {a : Addr} {kvs : List (Key × V)} {kds : List (Key × D)} {F : List Addr} : H a = some (.dK kvs) → kvs.map Prod.fst = kds.map Prod.fst → Reps G H (kvs.map Prod.snd) (kds.map Prod.snd) F → Rep G H (.ref a) (.dct kds) (a :: F)
  | scr {a : Addr} {ns : List Int} : SqF G.K H a (ns.map V.int) → Rep G H (.ref a) (.scr ns) []
  | ins {a dx : Addr} {c : Nat} : H a = some (.ins (G.cls c) dx []) → Rep G H (.ref a) (.ins c) []
  | dcn {a : Addr} {o : Obj} {xs : List (NestedKey × Addr × V)} {kds : List (D × D)} {F : List Addr} : H a = some (.ext (DnOk G.P G.w a o xs)) → kds.map (fun p => nkT p.1) = xs.map (fun x => some x.1) →
      Reps G H (xs.map fun x => V.ref x.2.1) (kds.map Prod.fst) [] → Reps G H (xs.map fun x => x.2.2) (kds.map Prod.snd) F → Rep G H (.ref a) (.dcn kds) (a :: F)
inductive Reps (G : GC) (H : Hp) : List V → List D → List Addr → Prop
  | nil : Reps G H [] [] []
  | cons {v : V} {vs : List V} {d : D} {ds : List D} {F Fs : List Addr} : Rep G H v d F → Reps G H vs ds Fs → Reps G H (v :: vs) (d :: ds) (F ++ Fs)
end

/-- what may be written by a def -/
def Mu : HO → Bool
  | .lst _ => true
  | .dK _ => true
  | .dT _ => true
  | .ext _ => true
  | .set _ _ => true
  | _ => false
/-- what can't be written stays, nothing goes -/
def Imm (H H' : Hp) : Prop := ∀ a o, H a = some o → (Mu o = false → H' a = some o) ∧ ∃ o', H' a = some o'
theorem same_imm {H H' : Hp} (h : Same H H') : Imm H H' := fun a o e => ⟨fun _ => h a o e, o, h a o e⟩
theorem Imm.refl (H : Hp) : Imm H H := same_imm (Same.refl H)
theorem Imm.trans {H H1 H2 : Hp} (a : Imm H H1) (b : Imm H1 H2) : Imm H H2 := fun x o e => by
  refine ⟨fun m => (b x o ((a x o e).1 m)).1 m, ?_⟩
  obtain ⟨o1, e1⟩ := (a x o e).2
  exact (b x o1 e1).2
theorem Imm.free {H H' : Hp} (h : Imm H H') {a : Addr} (e : H' a = none) : H a = none := by
  cases q : H a with
  | none => rfl
  | some o =>
    obtain ⟨o', e'⟩ := (h a o q).2
    rw [e] at e'
    cases e'
theorem sqt_imm {K : PySem.W.Frag} {H H' : Hp} (h : Imm H H') {a : Addr} {xs : List V} (s : SqT K H a xs) : SqT K H' a xs := by
  rcases s with (s | ⟨o, s⟩) | s
  · exact .inl (.inl ((h a _ s).1 rfl))
  · exact .inl (.inr ⟨o, (h a _ s).1 rfl⟩)
  · exact .inr s
theorem sqf_imm {K : PySem.W.Frag} {H H' : Hp} (h : Imm H H') {a : Addr} {xs : List V} (s : SqF K H a xs) : SqF K H' a xs := by
  rcases s with ⟨o, s⟩ | s
  · exact .inl ⟨o, (h a _ s).1 rfl⟩
  · exact .inr s
section
variable {G : GC} {H H' : Hp}
mutual
theorem Rep.stay (hi : Imm H H') : ∀ {v : V} {d : D} {F : List Addr}, Rep G H v d F → (∀ a ∈ F, H' a = H a) → Rep G H' v d F
  | _, _, _, .non, _ => .non
  | _, _, _, .bl b, _ => .bl b
  | _, _, _, .int i, _ => .int i
  | _, _, _, .str s, _ => .str s
  | _, _, _, .tup s r, k => .tup (sqt_imm hi s) (Reps.stay hi r k)
  | _, _, _, .lst (a := a) e r, k => .lst ((k a (List.mem_cons_self ..)).trans e) (Reps.stay hi r fun b hb => k b (List.mem_cons_of_mem _ hb))
  | _, _, _, .dct (a := a) e m r, k => .dct ((k a (List.mem_cons_self ..)).trans e) m (Reps.stay hi r fun b hb => k b (List.mem_cons_of_mem _ hb))
  | _, _, _, .scr s, _ => .scr (sqf_imm hi s)
  | _, _, _, .ins e, _ => .ins ((hi _ _ e).1 rfl)
  | _, _, _, .dcn (a := a) e m k1 r, k => .dcn ((k a (List.mem_cons_self ..)).trans e) m (Reps.stay hi k1 fun b hb => nomatch hb) (Reps.stay hi r fun b hb => k b (List.mem_cons_of_mem _ hb))
theorem Reps.stay (hi : Imm H H') : ∀ {vs : List V} {ds : List D} {F : List Addr}, Reps G H vs ds F → (∀ a ∈ F, H' a = H a) → Reps G H' vs ds F
  | _, _, _, .nil, _ => .nil
  | _, _, _, .cons r rs, k => .cons (Rep.stay hi r fun a ha => k a (List.mem_append_left _ ha)) (Reps.stay hi rs fun a ha => k a (List.mem_append_right _ ha))
end
mutual
/-- all of a footprint is tracked -/
theorem Rep.there : ∀ {v : V} {d : D} {F : List Addr}, Rep G H v d F → ∀ a ∈ F, ∃ o, H a = some o
  | _, _, _, .non, _, h => nomatch h
  | _, _, _, .bl b, _, h => nomatch h
  | _, _, _, .int i, _, h => nomatch h
  | _, _, _, .str s, _, h => nomatch h
  | _, _, _, .tup s r, a, h => Reps.there r a h
  | _, _, _, .lst e r, a, h => by
    rcases List.mem_cons.mp h with rfl | h
    · exact ⟨_, e⟩
    · exact Reps.there r a h
  | _, _, _, .dct e m r, a, h => by
    rcases List.mem_cons.mp h with rfl | h
    · exact ⟨_, e⟩
    · exact Reps.there r a h
  | _, _, _, .scr s, _, h => nomatch h
  | _, _, _, .ins e, _, h => nomatch h
  | _, _, _, .dcn e m k1 r, a, h => by
    rcases List.mem_cons.mp h with rfl | h
    · exact ⟨_, e⟩
    · exact Reps.there r a h
theorem Reps.there : ∀ {vs : List V} {ds : List D} {F : List Addr}, Reps G H vs ds F → ∀ a ∈ F, ∃ o, H a = some o
  | _, _, _, .nil, _, h => nomatch h
  | _, _, _, .cons r rs, a, h => by
    rcases List.mem_append.mp h with h | h
    · exact Rep.there r a h
    · exact Reps.there rs a h
end
theorem Rep.same (hs : Same H H') {v : V} {d : D} {F : List Addr} (r : Rep G H v d F) : Rep G H' v d F :=
  r.stay (same_imm hs) fun a ha => by
    obtain ⟨o, e⟩ := r.there a ha
    rw [e, hs a o e]
theorem Reps.same (hs : Same H H') {vs : List V} {ds : List D} {F : List Addr} (r : Reps G H vs ds F) : Reps G H' vs ds F :=
  r.stay (same_imm hs) fun a ha => by
    obtain ⟨o, e⟩ := r.there a ha
    rw [e, hs a o e]
mutual
theorem Rep.pure_nil : ∀ {v : V} {d : D} {F : List Addr}, Rep G H v d F → d.pure = true → F = []
  | _, _, _, .non, _ => rfl
  | _, _, _, .bl b, _ => rfl
  | _, _, _, .int i, _ => rfl
  | _, _, _, .str s, _ => rfl
  | _, _, _, .tup s r, h => Reps.pure_nil r (by simpa [D.pure] using h)
  | _, _, _, .lst e r, h => by simp [D.pure] at h
  | _, _, _, .dct e m r, h => by simp [D.pure] at h
  | _, _, _, .scr s, _ => rfl
  | _, _, _, .ins e, _ => rfl
  | _, _, _, .dcn e m k1 r, h => by simp [D.pure] at h
theorem Reps.pure_nil : ∀ {vs : List V} {ds : List D} {F : List Addr}, Reps G H vs ds F → pureAll ds = true → F = []
  | _, _, _, .nil, _ => rfl
  | _, _, _, .cons r rs, h => by
    have h' := by simpa [pureAll] using h
    rw [Rep.pure_nil r h'.1, Reps.pure_nil rs h'.2]
    rfl
end
theorem Reps.length : ∀ {vs : List V} {ds : List D} {F : List Addr}, Reps G H vs ds F → vs.length = ds.length
  | _, _, _, .nil => rfl
  | _, _, _, .cons _ rs => by simp [Reps.length rs]
theorem Reps.get : ∀ {vs : List V} {ds : List D} {F : List Addr}, Reps G H vs ds F → ∀ {i : Nat} {d : D}, ds[i]? = some d → ∃ v F', vs[i]? = some v ∧ Rep G H v d F' ∧ ∀ a ∈ F', a ∈ F
  | _, _, _, .nil, i, d, h => by simp at h
  | _, _, _, .cons r rs, 0, d, h => by
    simp at h
    subst h
    exact ⟨_, _, rfl, r, fun a ha => List.mem_append_left _ ha⟩
  | _, _, _, .cons r rs, i + 1, d, h => by
    obtain ⟨v, F', e, r', s⟩ := Reps.get rs (i := i) (d := d) (by simpa using h)
    exact ⟨v, F', by simpa using e, r', fun a ha => List.mem_append_right _ (s a ha)⟩
theorem Reps.append : ∀ {vs ws : List V} {ds es : List D} {F F' : List Addr}, Reps G H vs ds F → Reps G H ws es F' → Reps G H (vs ++ ws) (ds ++ es) (F ++ F')
  | _, _, _, _, _, _, .nil, q => q
  | _, _, _, _, _, _, .cons r rs, q => by
    rw [List.append_assoc]
    exact .cons r (Reps.append rs q)
theorem Reps.drop : ∀ {vs : List V} {ds : List D} {F : List Addr}, Reps G H vs ds F → ∀ n, ∃ F', Reps G H (vs.drop n) (ds.drop n) F' ∧ List.Sublist F' F
  | _, _, _, r, 0 => ⟨_, r, List.Sublist.refl _⟩
  | _, _, _, .nil, n + 1 => ⟨[], .nil, List.Sublist.refl _⟩
  | _, _, _, .cons r rs, n + 1 => by
    obtain ⟨F', r', s⟩ := Reps.drop rs n
    exact ⟨F', r', s.trans (List.sublist_append_right _ _)⟩
theorem Reps.take : ∀ {vs : List V} {ds : List D} {F : List Addr}, Reps G H vs ds F → ∀ n, ∃ F', Reps G H (vs.take n) (ds.take n) F' ∧ List.Sublist F' F
  | _, _, _, r, 0 => ⟨[], .nil, List.nil_sublist _⟩
  | _, _, _, .nil, n + 1 => ⟨[], .nil, List.Sublist.refl _⟩
  | _, _, _, .cons r rs, n + 1 => by
    obtain ⟨F', r', s⟩ := Reps.take rs n
    exact ⟨_, .cons r r', List.Sublist.append_left s _⟩
theorem Reps.rev : ∀ {vs : List V} {ds : List D} {F : List Addr}, Reps G H vs ds F → ∃ F', Reps G H vs.reverse ds.reverse F' ∧ F'.Perm F
  | _, _, _, .nil => ⟨[], .nil, List.Perm.refl _⟩
  | _, _, _, .cons (F := F0) r rs => by
    obtain ⟨F', r', s⟩ := Reps.rev rs
    refine ⟨F' ++ (F0 ++ []), ?_, ?_⟩
    · rw [List.reverse_cons, List.reverse_cons]
      exact Reps.append r' (.cons r .nil)
    · rw [List.append_nil]
      exact List.perm_append_comm.trans (List.Perm.append_left _ s)
theorem Reps.set : ∀ {vs : List V} {ds : List D} {F : List Addr}, Reps G H vs ds F → ∀ {v : V} {d : D} {F1 : List Addr}, Rep G H v d F1 → ∀ n, ∃ F', Reps G H (vs.set n v) (ds.set n d) F' ∧ ∀ a ∈ F', a ∈ F ∨ a ∈ F1
  | _, _, _, .nil, _, _, _, _, n => ⟨[], .nil, fun a h => nomatch h⟩
  | _, _, _, .cons r rs, v, d, F1, q, 0 => ⟨_, .cons q rs, fun a h => by
      rcases List.mem_append.mp h with h | h
      · exact .inr h
      · exact .inl (List.mem_append_right _ h)⟩
  | _, _, _, .cons r rs, v, d, F1, q, n + 1 => by
    obtain ⟨F', r', s⟩ := Reps.set rs q n
    refine ⟨_, .cons r r', fun a h => ?_⟩
    rcases List.mem_append.mp h with h | h
    · exact .inl (List.mem_append_left _ h)
    · rcases s a h with h | h
      · exact .inl (List.mem_append_right _ h)
      · exact .inr h
theorem Reps.setN : ∀ {vs : List V} {ds : List D} {F : List Addr}, Reps G H vs ds F → ∀ {v : V} {d : D} {F1 : List Addr}, Rep G H v d F1 → ∀ n, ∃ F', Reps G H (vs.set n v) (ds.set n d) F' ∧ (∀ a ∈ F', a ∈ F ∨ a ∈ F1) ∧ ((F ++ F1).Nodup → F'.Nodup)
  | _, _, _, .nil, _, _, _, _, n => ⟨[], .nil, (fun a h => nomatch h), fun _ => List.nodup_nil⟩
  | _, _, _, .cons (F := Fa) (Fs := Fb) r rs, v, d, F1, q, 0 => ⟨_, .cons q rs, fun a h => by
      rcases List.mem_append.mp h with h | h
      · exact .inr h
      · exact .inl (List.mem_append_right _ h), fun nd => by
      rw [List.nodup_append] at nd ⊢
      have n1 := (List.nodup_append.mp nd.1).2.1
      exact ⟨nd.2.1, n1, fun a ha b hb e => nd.2.2 b (List.mem_append_right _ hb) a ha e.symm⟩⟩
  | _, _, _, .cons (F := Fa) (Fs := Fb) r rs, v, d, F1, q, n + 1 => by
    obtain ⟨F', r', s, t⟩ := Reps.setN rs q n
    refine ⟨_, .cons r r', fun a h => ?_, fun nd => ?_⟩
    · rcases List.mem_append.mp h with h | h
      · exact .inl (List.mem_append_left _ h)
      · rcases s a h with h | h
        · exact .inl (List.mem_append_right _ h)
        · exact .inr h
    · rw [List.append_assoc, List.nodup_append] at nd
      obtain ⟨n1, n2, n3⟩ := nd
      refine List.nodup_append.mpr ⟨n1, t n2, fun a ha b hb e => n3 a ha b ?_ e⟩
      exact List.mem_append.mpr (s b hb)
theorem Reps.ints : ∀ {vs : List V} {ds : List D} {F : List Addr}, Reps G H vs ds F → ∀ {is : List Int}, intsOf ds = some is → vs = is.map V.int ∧ F = []
  | _, _, _, .nil, is, h => by
    simp [intsOf] at h
    subst h
    exact ⟨rfl, rfl⟩
  | _, _, _, .cons (d := d) (ds := ds) r rs, is, h => by
    cases hd : intOf d with
    | none => simp [intsOf, hd] at h
    | some i =>
      cases hds : intsOf ds with
      | none => simp [intsOf, hd, hds] at h
      | some js =>
        simp [intsOf, hd, hds] at h
        subst h
        obtain ⟨e1, e2⟩ := Reps.ints rs hds
        cases r <;> simp [intOf] at hd
        subst hd
        rw [e1, e2]
        exact ⟨rfl, rfl⟩
theorem Reps.bls : ∀ {vs : List V} {ds : List D} {F : List Addr}, Reps G H vs ds F → ∀ {is : List Bool}, blsOf ds = some is → vs = is.map V.bl ∧ F = []
  | _, _, _, .nil, is, h => by
    simp [blsOf] at h
    subst h
    exact ⟨rfl, rfl⟩
  | _, _, _, .cons (d := d) (ds := ds) r rs, is, h => by
    cases hd : blOf d with
    | none => simp [blsOf, hd] at h
    | some i =>
      cases hds : blsOf ds with
      | none => simp [blsOf, hd, hds] at h
      | some js =>
        simp [blsOf, hd, hds] at h
        subst h
        obtain ⟨e1, e2⟩ := Reps.bls rs hds
        cases r <;> simp [blOf] at hd
        subst hd
        rw [e1, e2]
        exact ⟨rfl, rfl⟩
theorem Reps.of_ints : ∀ (is : List Int), Reps G H (is.map V.int) (is.map D.int) []
  | [] => .nil
  | i :: is => by
    have h := Reps.cons (Rep.int (G := G) (H := H) i) (Reps.of_ints is)
    simpa using h
theorem dp_ints {G : GC} {H : Hp} : ∀ ns : List Int, DpAll G.K H (ns.map V.int) (ns.map PyData.int)
  | [] => .nil
  | n :: ns => .cons (.int n) (dp_ints ns)
mutual
theorem Rep.dp : ∀ {v : V} {d : D} {F : List Addr}, Rep G H v d F → d.toP.canLay0 = true → Dp G.K H v d.toP
  | _, _, _, .non, _ => .non
  | _, _, _, .bl b, _ => .bl b
  | _, _, _, .int i, _ => .int i
  | _, _, _, .str s, _ => .str s
  | _, _, _, .tup s r, h => .tup s (Reps.dp r (by simpa [D.toP, PyData.canLay0] using h))
  | _, _, _, .lst e r, h => .lst (SqL.of e) (Reps.dp r (by simpa [D.toP, PyData.canLay0] using h))
  | _, _, _, .dct e m r, h => by simp [D.toP, PyData.canLay0] at h
  | _, _, _, .scr s, _ => .lst s.sql (dp_ints _)
  | _, _, _, .ins e, h => by simp [D.toP, PyData.canLay0] at h
  | _, _, _, .dcn e m k1 r, h => by simp [D.toP, PyData.canLay0] at h
theorem Reps.dp : ∀ {vs : List V} {ds : List D} {F : List Addr}, Reps G H vs ds F → PyData.canLayAll0 (toPs ds) = true → DpAll G.K H vs (toPs ds)
  | _, _, _, .nil, _ => .nil
  | _, _, _, .cons r rs, h => by
    have h' := by simpa [toPs, PyData.canLayAll0] using h
    exact .cons (Rep.dp r h'.1) (Reps.dp rs h'.2)
end
theorem Rep.dps {v : V} {d : D} {F : List Addr} (r : Rep G H v d F) (h : d.shaped = true) : Dp G.K H v d.toP := r.dp (SeqAt.canLay_of_shaped h)
theorem Rep.scalar {v : V} {i : Int} {F : List Addr} (r : Rep G H v (.int i) F) : v = .int i := by cases r; rfl
/-! ### dicts -/
theorem val_rep {q : Key} {d : D} : ∀ {kds : List (Key × D)} {kvs : List (Key × V)} {F : List Addr}, kvs.map Prod.fst = kds.map Prod.fst → Reps G H (kvs.map Prod.snd) (kds.map Prod.snd) F → valD q kds = some d → ∃ v F', valV kvs q = some v ∧ Rep G H v d F' ∧ ∀ a ∈ F', a ∈ F
  | [], kvs, F, _, _, h => by cases h
  | (x, e) :: kds, [], F, m, _, h => by simp at m
  | (x, e) :: kds, (y, u) :: kvs, F, m, r, h => by
    have m1 : y = x := by simpa using (List.cons.inj m).1
    have m2 : kvs.map Prod.fst = kds.map Prod.fst := (List.cons.inj m).2
    subst m1
    cases r with
    | cons r rs =>
    unfold valD at h
    split at h
    · rename_i e1
      cases h
      exact ⟨u, _, valV_pos e1, r, fun a ha => List.mem_append_left _ ha⟩
    · rename_i e1
      obtain ⟨v, F', h1, h2, h3⟩ := val_rep m2 rs h
      exact ⟨v, F', by rw [valV_neg e1]; exact h1, h2, fun a ha => List.mem_append_right _ (h3 a ha)⟩
theorem val_none {q : Key} : ∀ {kds : List (Key × D)} {kvs : List (Key × V)}, kvs.map Prod.fst = kds.map Prod.fst → (valV kvs q).isSome = (valD q kds).isSome
  | [], [], _ => rfl
  | [], (y, u) :: kvs, m => by simp at m
  | (x, e) :: kds, [], m => by simp at m
  | (x, e) :: kds, (y, u) :: kvs, m => by
    have m1 : y = x := by simpa using (List.cons.inj m).1
    have m2 : kvs.map Prod.fst = kds.map Prod.fst := (List.cons.inj m).2
    subst m1
    unfold valD
    split
    · rename_i e1
      rw [valV_pos e1]
      rfl
    · rename_i e1
      rw [valV_neg e1]
      exact val_none m2
theorem key_rep {v : V} {d : D} {F : List Addr} {q : Key} (r : Rep G H v d F) (h : keyOf d = some q) : v = kV q ∧ F = [] := by
  cases r <;> simp [keyOf] at h <;> subst h <;> exact ⟨rfl, rfl⟩
theorem any_key {q : Key} : ∀ {kds : List (Key × D)} {kvs : List (Key × V)}, kvs.map Prod.fst = kds.map Prod.fst → (kvs.any fun kv => decide (kv.1 = q)) = (kds.any fun kv => decide (kv.1 = q))
  | [], [], _ => rfl
  | [], (y, u) :: kvs, m => by simp at m
  | (x, e) :: kds, [], m => by simp at m
  | (x, e) :: kds, (y, u) :: kvs, m => by
    have m1 : y = x := by simpa using (List.cons.inj m).1
    have m2 : kvs.map Prod.fst = kds.map Prod.fst := (List.cons.inj m).2
    subst m1
    rw [List.any_cons, List.any_cons, any_key m2]
theorem map_put {v : V} {d : D} {q : Key} {F1 : List Addr} (r1 : Rep G H v d F1) : ∀ {kds : List (Key × D)} {kvs : List (Key × V)} {F : List Addr}, kvs.map Prod.fst = kds.map Prod.fst → Reps G H (kvs.map Prod.snd) (kds.map Prod.snd) F →
    ((kvs.map fun kv => if kv.1 = q then (kv.1, v) else kv).map Prod.fst = (kds.map fun kv => if kv.1 = q then (kv.1, d) else kv).map Prod.fst) ∧ ∃ F', Reps G H ((kvs.map fun kv => if kv.1 = q then (kv.1, v) else kv).map Prod.snd) ((kds.map fun kv => if kv.1 = q then (kv.1, d) else kv).map Prod.snd) F' ∧ (∀ a ∈ F', a ∈ F ∨ a ∈ F1) ∧ (F1 = [] → List.Sublist F' F)
  | [], [], F, _, r => ⟨rfl, F, r, fun a h => .inl h, fun _ => List.Sublist.refl _⟩
  | [], (y, u) :: kvs, F, m, _ => by simp at m
  | (x, e) :: kds, [], F, m, _ => by simp at m
  | (x, e) :: kds, (y, u) :: kvs, F, m, r => by
    have m1 : y = x := by simpa using (List.cons.inj m).1
    have m2 : kvs.map Prod.fst = kds.map Prod.fst := (List.cons.inj m).2
    subst m1
    cases r with
    | cons r rs =>
    rename_i Fa Fb
    obtain ⟨h1, F', h2, h3, h4⟩ := map_put (q := q) r1 m2 rs
    by_cases e1 : y = q
    · refine ⟨?_, F1 ++ F', ?_, fun a ha => ?_, fun e => by subst e; exact (h4 rfl).trans (List.sublist_append_right _ _)⟩
      · simp only [List.map_cons, if_pos e1]
        rw [h1]
      · simp only [List.map_cons, if_pos e1]
        exact .cons r1 h2
      · rcases List.mem_append.mp ha with z | z
        · exact .inr z
        · exact (h3 a z).imp (List.mem_append_right _) id
    · refine ⟨?_, Fa ++ F', ?_, fun a ha => ?_, fun e => List.Sublist.append_left (h4 e) _⟩
      · simp only [List.map_cons, if_neg e1]
        rw [h1]
      · simp only [List.map_cons, if_neg e1]
        exact .cons r h2
      · rcases List.mem_append.mp ha with z | z
        · exact .inl (List.mem_append_left _ z)
        · exact (h3 a z).imp (List.mem_append_right _) id
theorem put_rep {v : V} {d : D} {q : Key} {F1 : List Addr} (r1 : Rep G H v d F1) {kds : List (Key × D)} {kvs : List (Key × V)} {F : List Addr} (m : kvs.map Prod.fst = kds.map Prod.fst) (r : Reps G H (kvs.map Prod.snd) (kds.map Prod.snd) F) :
    (putK kvs q v).map Prod.fst = (putD kds q d).map Prod.fst ∧ ∃ F', Reps G H ((putK kvs q v).map Prod.snd) ((putD kds q d).map Prod.snd) F' ∧ (∀ a ∈ F', a ∈ F ∨ a ∈ F1) ∧ (F1 = [] → List.Sublist F' (F ++ F1)) := by
  unfold putK putD
  rw [any_key m]
  split
  · obtain ⟨h1, F', h2, h3, h4⟩ := map_put (q := q) r1 m r
    exact ⟨h1, F', h2, h3, fun e => (h4 e).trans (List.sublist_append_left _ _)⟩
  · refine ⟨by rw [List.map_append, List.map_append, m]; rfl, F ++ (F1 ++ []), ?_, fun a ha => ?_, fun _ => by rw [List.append_nil]; exact List.Sublist.refl _⟩
    · rw [List.map_append, List.map_append]
      exact Reps.append r (.cons r1 .nil)
    · rw [List.append_nil] at ha
      exact List.mem_append.mp ha
end
end Ev

/-! Part X: order of data, least and greatest, sorted tuples, slices with a step. -/
namespace Ev
open PySem PySem.Spec PyProof.Rows L2
section
variable {X : Cx}
def rLtA (K : PySem.W.Frag) : R2 := fun x y H Q => ∃ d e, Dp K H x d ∧ Dp K H y e ∧ SeqAt.shaped d = true ∧ PySem.W.alike d e = true ∧ d ≠ .none ∧ Q (.bl (PySem.W.dataLt d e)) H
theorem op_ltA (hu : X.A.units + 65 < cLine) : OpR X (compareOp .Lt) (rLtA X.K) := by
  intro pins s σ H x y v u Q I rx ry h
  obtain ⟨d, e, hd, he, sd, al, nn, q⟩ := h
  obtain ⟨as, r1⟩ := Dp.reads I d x v hd rx
  obtain ⟨bs, r2⟩ := Dp.reads I e y u he ry
  exact PySem.W.lt_data r1 r2 al nn (SeqAt.room_of_shaped sd (by omega)) ⟨.bl _, H, I, rfl, q⟩
/-! ### min, max of a list's or a tuple's ints -/
theorem reads_ints {h : Heap} : ∀ {ns : List Int} {us : List Value}, Vals (ns.map V.int) us → ∃ as, ReadsAll h us (ns.map PyData.int) as
  | [], us, r => by
    cases r
    exact ⟨_, .nil⟩
  | n :: ns, us, r => by
    cases r with
    | cons a b =>
      obtain ⟨t, rfl⟩ := a
      obtain ⟨as, q⟩ := reads_ints (h := h) b
      exact ⟨_, .cons (.int n t) q⟩
theorem alike_is (ns : List Int) : PySem.W.AlikeAll (ns.map PyData.int) := by
  constructor
  · intro x hx y hy
    obtain ⟨i, _, rfl⟩ := List.mem_map.mp hx
    obtain ⟨j, _, rfl⟩ := List.mem_map.mp hy
    simp only [PySem.W.alike]
  · intro x hx e
    obtain ⟨i, _, rfl⟩ := List.mem_map.mp hx
    cases e
def rMmI (K : PySem.W.Frag) (f : Int → Int → Int) : List V → Hp → VK → Prop := fun vs H Q => ∃ (a : Addr) (n : Int) (ns : List Int), vs = [.ref a] ∧ (SqL K H a ((n :: ns).map V.int) ∨ SqT K H a ((n :: ns).map V.int)) ∧ Q (.int (ns.foldl f n)) H
theorem call_minI (hc : X.calm = true) (hu : X.A.units + 65 < cLine) : CallR X (.builtin "min") (rMmI X.K min) := by
  intro pins s σ H xs us Q I r h
  obtain ⟨a, n, ns, rfl, hs, q⟩ := h
  obtain rfl := Vals.ref1 r
  have hh : X.A.handled = none := I.ok.hd hc
  have room : X.A.units + 1 + PyData.depthAll (PyData.int n :: ns.map PyData.int) < cLine := by
    rw [show PyData.int n :: ns.map PyData.int = (n :: ns).map PyData.int from rfl, PySem.W.depth_ints]
    omega
  have fin : ∀ (h' : Heap) (v : Value) (tk : Nat) (bs : List Addr), Reads h' v (PySem.W.minD (.int n) (ns.map PyData.int)) bs → (∀ b o, s.heap.get? b = some o → h'.get? b = some o) → EP X pins σ Q v { s with heap := h', toks := tk } := fun h' v tk bs rd kp => by
    rw [PySem.W.minD_ints] at rd
    cases rd
    exact ⟨.int _, H, I.kept (t' := tk) kp, ⟨_, rfl⟩, q⟩
  rcases hs with hs | hs
  · obtain ⟨its, rv, pl, _⟩ := I.list hs
    obtain ⟨as, rs⟩ := reads_ints (h := s.heap) rv
    exact PySem.W.min_list_data (vs := its.toArray) hh pl.isList rs (alike_is (n :: ns)) room fun i v h' tk bs _ rd kp => fin h' v tk bs rd kp
  · obtain ⟨its, rv, tu, _⟩ := I.tuple hs
    obtain ⟨as, rs⟩ := reads_ints (h := s.heap) rv
    exact PySem.W.min_tuple_data (vs := its.toArray) hh tu rs (alike_is (n :: ns)) room fun i v h' tk bs _ rd kp => fin h' v tk bs rd kp
theorem call_maxI (hc : X.calm = true) (hu : X.A.units + 65 < cLine) : CallR X (.builtin "max") (rMmI X.K max) := by
  intro pins s σ H xs us Q I r h
  obtain ⟨a, n, ns, rfl, hs, q⟩ := h
  obtain rfl := Vals.ref1 r
  have hh : X.A.handled = none := I.ok.hd hc
  have room : X.A.units + 1 + PyData.depthAll (PyData.int n :: ns.map PyData.int) < cLine := by
    rw [show PyData.int n :: ns.map PyData.int = (n :: ns).map PyData.int from rfl, PySem.W.depth_ints]
    omega
  have fin : ∀ (h' : Heap) (v : Value) (tk : Nat) (bs : List Addr), Reads h' v (PySem.W.maxD (.int n) (ns.map PyData.int)) bs → (∀ b o, s.heap.get? b = some o → h'.get? b = some o) → EP X pins σ Q v { s with heap := h', toks := tk } := fun h' v tk bs rd kp => by
    rw [PySem.W.maxD_ints] at rd
    cases rd
    exact ⟨.int _, H, I.kept (t' := tk) kp, ⟨_, rfl⟩, q⟩
  rcases hs with hs | hs
  · obtain ⟨its, rv, pl, _⟩ := I.list hs
    obtain ⟨as, rs⟩ := reads_ints (h := s.heap) rv
    exact PySem.W.max_list_data (vs := its.toArray) hh pl.isList rs (alike_is (n :: ns)) room fun i v h' tk bs _ rd kp => fin h' v tk bs rd kp
  · obtain ⟨its, rv, tu, _⟩ := I.tuple hs
    obtain ⟨as, rs⟩ := reads_ints (h := s.heap) rv
    exact PySem.W.max_tuple_data (vs := its.toArray) hh tu rs (alike_is (n :: ns)) room fun i v h' tk bs _ rd kp => fin h' v tk bs rd kp
/-! ### sorted tuples -/
theorem tup1_ok {d : D} (h : tup1 d = true) : (∃ x r, d.toP = .tuple (x :: r)) ∧ d.pure = true ∧ d.shaped = true ∧ d.toP.depth ≤ 60 := by
  unfold tup1 at h
  split at h
  · rw [Bool.and_eq_true, Bool.and_eq_true] at h
    exact ⟨⟨_, _, rfl⟩, h.1, h.2.1, of_decide_eq_true h.2.2⟩
  · cases h
def rSortedD (K : PySem.W.Frag) : List V → Hp → VK → Prop := fun vs H Q => ∃ (G : GC) (a : Addr) (ys : List V) (ds : List D), G.K = K ∧ vs = [.ref a] ∧ SqL K H a ys ∧ Reps G H ys ds [] ∧ sortable ds = true ∧ ∀ zs p, H p = none → Reps G H zs (ds.mergeSort leD) [] → Q (.ref p) (upd H p (.lst zs))
theorem each_of {G : GC} {H : Hp} : ∀ {ys : List V} {its : List Value} {ds : List D} {F : List Addr}, F = [] → Vals ys its → Reps G H ys ds F → PySem.W.EachIs (fun v d => ∃ x, RelV x v ∧ Rep G H x d []) its ds
  | _, _, _, _, e, r, .nil => by
    cases r
    exact .nil
  | _, _, _, _, e, r, .cons a b => by
    obtain ⟨e1, e2⟩ := List.append_eq_nil_iff.mp e
    subst e1
    cases r with
    | cons r1 r2 => exact .cons ⟨_, r1, a⟩ (each_of e2 r2 b)
theorem of_each {G : GC} {H : Hp} {its : List Value} {ds : List D} (e : PySem.W.EachIs (fun v d => ∃ x, RelV x v ∧ Rep G H x d []) its ds) : ∃ zs, Vals zs its ∧ Reps G H zs ds [] := by
  induction e with
  | nil => exact ⟨[], .nil, .nil⟩
  | cons a _ ih =>
    obtain ⟨x, r1, r2⟩ := a
    obtain ⟨zs, q1, q2⟩ := ih
    exact ⟨x :: zs, .cons r1 q1, .cons r2 q2⟩
theorem call_sortedD (hu : X.A.units + 65 < cLine) : CallR X (.builtin "sorted") (rSortedD X.K) := by
  intro pins s σ H xs us Q I r h
  obtain ⟨G, a, ys, ds, hG, rfl, hs, rp, sb, q⟩ := h
  obtain rfl := Vals.ref1 r
  unfold sortable at sb
  rw [Bool.and_eq_true, Bool.and_eq_true] at sb
  obtain ⟨s1, s2, s3⟩ := sb
  have t1 : ∀ d ∈ ds, _ := fun d hd => tup1_ok (List.all_eq_true.mp s1 d hd)
  obtain ⟨its, rv, pl, hz⟩ := I.list hs
  have e := each_of rfl rv rp
  have len := e.length
  have hL : ds.length ≤ sizeLine := of_decide_eq_true s2
  have er : PySem.W.EachIs (fun v d => ∃ as, Reads s.heap v (D.toP d) as) its ds := by
    have e' := e
    clear s1 s2 s3 e q rp rv pl hz len hL
    induction e' with
    | nil => exact .nil
    | cons a _ ih =>
      obtain ⟨x, r1, r2⟩ := a
      refine .cons ?_ (ih fun d hd => t1 d (List.mem_cons_of_mem _ hd))
      have dp := r2.dps (t1 _ (List.mem_cons_self ..)).2.2.1
      rw [hG] at dp
      exact Dp.reads I _ _ _ dp r1
  refine PySem.W.sorted_data (enc := D.toP) pl.isList e er ?_ ?_ hL (fun d hd => ?_) fun out hl eo => ?_
  · intro x hx y hy
    obtain ⟨d, hd, rfl⟩ := List.mem_map.mp hx
    obtain ⟨d', hd', rfl⟩ := List.mem_map.mp hy
    exact List.all_eq_true.mp (List.all_eq_true.mp s3 d hd) d' hd'
  · refine .inl fun x hx => ?_
    obtain ⟨d, hd, rfl⟩ := List.mem_map.mp hx
    exact (t1 d hd).1
  · have := (t1 d hd).2.2.2
    omega
  · obtain ⟨zs, z1, z2⟩ := of_each eo
    obtain ⟨ep, he'⟩ := PyProof.Rows.sortedAll_at s.heap its out.toArray
    have hlen : zs.length ≤ sizeLine := by
      rw [Paired.length z1, hl]
      exact hL
    exact ⟨.ref _, upd H (s.heap.objs.size + 1) (.lst zs), I.laid (t' := s.toks) (fun _ _ => PyProof.Rows.sortedAll_old) (Nat.le_succ _) ⟨hlen, out, ep, z1, he'⟩, rfl, q zs _ (I.hok.fresh (Nat.le_succ _)) z2⟩
end
/-! ### t[::-1], xs[k::2] -/
section
variable {prog : Program} {w : World} {A : Around} {E : Value → Shared → Prop} {s : Shared}
theorem sliceApplied_rev {sl : Addr} {vl vu vs : Value} {n : Nat} {Q : Int × Int × Nat → Shared → Prop} (hs : s.heap.IsSliceOf sl vl vu vs) (pl : IsPart vl none) (pu : IsPart vu none) (ps : IsPart vs (some (-1)))
    (h : Q ((n : Int) - 1, -1, n) s) : wpAny (model prog w) A (Builtin.Slice.sliceApplied (.ref sl) (pure (n : Int))) Q E s := by
  obtain ⟨os, hos, hcs, hds⟩ := id hs
  unfold Builtin.Slice.sliceApplied Builtin.Slice.sliceFields
  refine wpAny_bind (wpAny_bind (wpAny_field hos hds (x := vl) rfl (wpAny_bind (wpAny_field hos hds (x := vu) rfl (wpAny_bind (wpAny_field hos hds (x := vs) rfl (wpAny_pure ?_)))))))
  refine wpAny_bind (HT.slicePart_ ps ?_)
  show wpAny _ _ (if ((-1 : Int) == 0) = true then _ else _) _ _ s
  rw [if_neg (by decide)]
  refine wpAny_bind (HT.slicePart_ pl (wpAny_bind (HT.slicePart_ pu (wpAny_bind (wpAny_pure ?_)))))
  have e1 : Builtin.Slice.sliceAdjust none none (-1) (n : Int) = ((n : Int) - 1, -1) := by
    unfold Builtin.Slice.sliceAdjust
    rfl
  have e2 : Builtin.Slice.slicePlaces ((n : Int) - 1) (-1) (-1) = n := by
    unfold Builtin.Slice.slicePlaces
    have h1 : ¬ ((-1 : Int) > 0) := by omega
    simp only [h1, if_false]
    rw [show (- -1 : Int) = 1 by decide, Int.ediv_one]
    split <;> omega
  show wpAny _ _ (match Builtin.Slice.sliceAdjust none none (-1) (n : Int) with | (lo, hi) => pure (lo, (-1 : Int), Builtin.Slice.slicePlaces lo hi (-1))) _ _ s
  rw [e1]
  show wpAny _ _ (pure ((n : Int) - 1, (-1 : Int), Builtin.Slice.slicePlaces ((n : Int) - 1) (-1) (-1))) _ _ s
  rw [e2]
  exact wpAny_pure h
theorem pick_rev (xs : Array Value) : ((List.range xs.size).filterMap fun (m : Nat) => xs[(((xs.size : Int) - 1) + (m : Int) * (-1)).toNat]?).toArray = xs.toList.reverse.toArray := by
  rw [← PySem.W.krv_pick]
  unfold slicePick
  rw [PySem.W.krv_bounds]
  show _ = ((sliceRange ((xs.size : Int) - 1) (-1) (-1)).filterMap (xs[·]?)).toArray
  rw [PySem.W.krv_sliceRange, List.filterMap_map]
  congr 2
  funext m
  show xs[(((xs.size : Int) - 1) + (m : Int) * (-1)).toNat]? = xs[xs.size - 1 - m]?
  congr 1
  omega
theorem getItem_tuple_rev {t sl : Addr} {items : Array Value} {vl vu vs : Value} {Q : Value → Shared → Prop} (ht : IsTup s.heap t items) (hs : s.heap.IsSliceOf sl vl vu vs) (pl : IsPart vl none) (pu : IsPart vu none) (ps : IsPart vs (some (-1)))
    (h : Q (.ref s.heap.objs.size) { s with heap := s.heap.push { cls := .type "tuple", data := .seq items.toList.reverse.toArray } })
    (hsz : items.size ≤ sizeLine) : wpAny (model prog w) A (getItem (.ref t) (.ref sl)) Q E s := by
  have fits : sizeOk (.seq items.toList.reverse.toArray) := by
    show items.toList.reverse.toArray.size ≤ sizeLine
    rw [List.size_toArray, List.length_reverse, Array.length_toList]
    exact hsz
  obtain ⟨os, hos, hcs, hds⟩ := id hs
  have isS : s.TypeIs (.ref sl) "slice" := ⟨os, hos, hcs⟩
  unfold getItem
  try with_reducible refine wpAny_holding ?_
  first | refine wpAny_bind (wpAny_pure ?_) | skip
  refine wpAny_bind (wpAny_sequenceKey ht.typeIs (by decide) ?_)
  refine wpAny_bind (wpAny_callSpecial?_slot ht.typeIs PyProof.Rows.slot_tuple_getitem (wpAny_call_entry PyProof.Rows.slot_tuple_getitem ht.typeIs entry_tuple_getitem ?_ (args_tuple_getitem _ _)))
  show wpAny _ _ (Builtin.Tuple.tupleItemsOf (.ref t) >>= _) _ _ s
  refine wpAny_bind (tupleItemsOf_ ht (wpAny_bind (wpAny_typeOf isS ?_)))
  rw [if_pos (by decide)]
  refine wpAny_bind (sliceApplied_rev hs pl pu ps ?_)
  have no : ¬ ((((items.size : Int) - 1 == 0) && ((-1 : Int) == 1) && (items.size == items.size)) = true) := by
    intro q
    rw [Bool.and_eq_true, Bool.and_eq_true] at q
    exact absurd q.1.2 (by decide)
  show wpAny _ _ (if (((items.size : Int) - 1 == 0) && ((-1 : Int) == 1) && (items.size == items.size)) = true then _ else _) _ _ s
  rw [if_neg no, pick_rev]
  first
    | exact wpAny_bind (m := Builtin.Tuple.tupleExact _) (wpAny_newObj_type (wpAny_pure ⟨_, rfl, wpAny_pure h⟩) fits)
    | exact wpAny_bind (m := Builtin.Tuple.tupleExact _) (wpAny_newObj_type (wpAny_bind (wpAny_pure (wpAny_pure ⟨_, rfl, wpAny_pure h⟩))) fits)
    | exact wpAny_bind (wpAny_bind (m := Builtin.Tuple.tupleExact _) (wpAny_newObj_type (wpAny_pure (wpAny_pure ⟨_, rfl, wpAny_pure h⟩)) fits))
    | exact wpAny_bind (wpAny_bind (m := Builtin.Tuple.tupleExact _) (wpAny_newObj_type (wpAny_pure ⟨_, rfl, wpAny_pure h⟩) fits))
end
section
variable {X : Cx}
theorem vals_at {xs : List V} {us : List Value} (r : Vals xs us) (i : Nat) : (xs[i]? = none ∧ us[i]? = none) ∨ ∃ x u, xs[i]? = some x ∧ us[i]? = some u ∧ RelV x u := by
  cases e : xs[i]? with
  | none =>
    have := List.getElem?_eq_none_iff.mp e
    exact .inl ⟨rfl, List.getElem?_eq_none_iff.mpr (by rw [← Vals.length r]; exact this)⟩
  | some x =>
    obtain ⟨u, h1, h2⟩ := Vals.get r e
    exact .inr ⟨x, u, rfl, h1, h2⟩
theorem vals_pick {xs : List V} {us : List Value} (r : Vals xs us) : ∀ is : List Nat, Vals (is.filterMap (xs[·]?)) (is.filterMap (us[·]?))
  | [] => .nil
  | i :: is => by
    rcases vals_at r i with ⟨e1, e2⟩ | ⟨x, u, e1, e2, q⟩
    · rw [List.filterMap_cons_none e1, List.filterMap_cons_none e2]
      exact vals_pick r is
    · rw [List.filterMap_cons_some e1, List.filterMap_cons_some e2]
      exact .cons q (vals_pick r is)
theorem Reps.pick {G : GC} {H : Hp} {vs : List V} {ds : List D} {F : List Addr} (r : Reps G H vs ds F) (h : F = []) : ∀ is : List Nat, Reps G H (is.filterMap (vs[·]?)) (is.filterMap (ds[·]?)) []
  | [] => .nil
  | i :: is => by
    cases e : ds[i]? with
    | none =>
      have e1 : vs[i]? = none := by
        have := List.getElem?_eq_none_iff.mp e
        exact List.getElem?_eq_none_iff.mpr (by rw [r.length]; exact this)
      rw [List.filterMap_cons_none e, List.filterMap_cons_none e1]
      exact r.pick h is
    | some d =>
      obtain ⟨v, F', e1, q, sub⟩ := r.get e
      have : F' = [] := List.eq_nil_iff_forall_not_mem.mpr fun a ha => by
        have := sub a ha
        rw [h] at this
        exact nomatch this
      subst this
      rw [List.filterMap_cons_some e, List.filterMap_cons_some e1]
      exact .cons q (r.pick h is)
def tEvr (K : PySem.W.Frag) (te : TE) (tl : TO) : TE := fun σ H Q => te σ H fun x H1 => tl σ H1 fun o H2 => ∃ a xs, x = .ref a ∧ SqL K H2 a xs ∧ ∀ p, H2 p = none → Q (.ref p) (upd H2 p (.lst (pickE xs o)))
theorem pe_evr {e : Expr} {lo : Option Expr} {te : TE} {tl : TO} {k : Nat} {p1 p3 pos : Pos} (he : PE X e te) (hl : PO X lo tl) : PE X (.Subscript e (.Slice lo none (some (.Constant (.int 2) k p1)) p3) pos) (tEvr X.K te tl) := by
  refine ⟨fun pins s σ H Q I h => ?_⟩
  refine Subscript_ (thn (he.run pins s σ H _ I h) fun v s1 ⟨x, H1, I1, r1, q1⟩ => ?_)
  have two : PO X (some (.Constant (.int 2) k p1)) (tPart (tC (.int 2))) := po_some pe_int
  refine wpAny_Slice (thn (hl.run pins s1 σ H1 _ I1 q1) fun vl s2 ⟨l, H2, I2, pl, q2⟩ => ?_)
  refine thn (po_none.run pins s2 σ H2 (fun o H3 => o = none ∧ H3 = H2) I2 ⟨rfl, rfl⟩) fun vu s3 ⟨u, H3, I3, pu, eu, e3⟩ => ?_
  subst eu e3
  refine thn (two.run pins s3 σ H3 (fun o H4 => o = some 2 ∧ H4 = H3) I3 ⟨2, rfl, rfl, rfl⟩) fun vs s4 ⟨o, H4, I4, ps, eo, e4⟩ => ?_
  subst eo e4
  obtain ⟨a, xs, ex, hx, q⟩ := q2
  subst ex
  cases r1
  have I5 : Inv X pins σ H4 { s4 with heap := s4.heap.push { cls := .type "slice", data := .fields #[vl, vu, vs] } } := I4.kept (t' := s4.toks) fun b ob q => Heap.get?_push_of_some _ q
  obtain ⟨its, r, ht, hz⟩ := I5.list hx
  have len := Vals.length r
  show wpAny (model X.prog X.w) X.A (subscriptTail e (.Slice lo none (some (.Constant (.int 2) k p1)) p3) (.ref a) (.ref s4.heap.objs.size)) (EP X pins σ Q) X.xe { s4 with heap := s4.heap.push { cls := .type "slice", data := .fields #[vl, vu, vs] } }
  refine tail_any (ops := [.ref a, .ref s4.heap.objs.size]) ht.isList.typeIs (PySem.slot_list_getitem.lookup) ?_ (by with_unfolding_all rfl)
  refine wpAny_getItem_list_slice ht.isList (Heap.IsSliceOf.new _ vl vu vs) pl pu ps (by decide) ?_ (by rw [List.size_toArray]; omega)
  have e5 : slicePick its.toArray l none (some 2) = ((evIx xs.length l).filterMap (its[·]?)).toArray := by
    unfold slicePick evIx
    rw [List.size_toArray, ← len]
    congr 2
    funext i
    rw [List.getElem?_toArray]
  have small : (pickE xs l).length ≤ sizeLine := by
    have h1 := slicePick_size_le its.toArray l none (some 2)
    rw [e5, List.size_toArray, List.size_toArray] at h1
    have h2 := Vals.length (vals_pick r (evIx xs.length l))
    unfold pickE
    omega
  rw [e5]
  refine ⟨.ref _, _, I5.laid (t' := s4.toks) (o := .lst (pickE xs l)) (fun b ob q => Heap.get?_push_of_some _ q) (Nat.le_refl _) ?_, rfl, q _ (I5.hok.fresh (Nat.le_refl _))⟩
  exact ⟨small, _, 0, vals_pick r _, Heap.get?_push_size _ rfl⟩
def tRevT (K : PySem.W.Frag) (te : TE) : TE := fun σ H Q => te σ H fun x H1 => ∃ a xs, x = .ref a ∧ SqT K H1 a xs ∧ ∀ p, H1 p = none → Q (.ref p) (upd H1 p (.tup xs.reverse))
theorem pe_revT {e : Expr} {te : TE} {k : Nat} {p1 p2 p3 pos : Pos} (he : PE X e te) : PE X (.Subscript e (.Slice none none (some (.UnaryOp .USub (.Constant (.int 1) k p1) p2)) p3) pos) (tRevT X.K te) := by
  refine ⟨fun pins s σ H Q I h => ?_⟩
  refine Subscript_ (thn (he.run pins s σ H _ I h) fun v s1 ⟨x, H1, I1, r1, a, xs, ex, hx, q⟩ => ?_)
  subst ex
  cases r1
  have back : PO X (some (.UnaryOp .USub (.Constant (.int 1) k p1) p2)) (tPart (tUn (rU fun i => .int (-i)) (tC (.int 1)))) := po_some (pe_un un_neg pe_int)
  refine wpAny_Slice (thn (po_none.run pins s1 σ H1 (fun o H2 => o = none ∧ H2 = H1) I1 ⟨rfl, rfl⟩) fun vl s2 ⟨l, H2, I2, pl, el, e2⟩ => ?_)
  subst el e2
  refine thn (po_none.run pins s2 σ H2 (fun o H3 => o = none ∧ H3 = H2) I2 ⟨rfl, rfl⟩) fun vu s3 ⟨u, H3, I3, pu, eu, e3⟩ => ?_
  subst eu e3
  refine thn (back.run pins s3 σ H3 (fun o H4 => o = some (-1) ∧ H4 = H3) I3 ⟨1, rfl, -1, rfl, rfl, rfl⟩) fun vs s4 ⟨o, H4, I4, ps, eo, e4⟩ => ?_
  subst eo e4
  have I5 : Inv X pins σ H4 { s4 with heap := s4.heap.push { cls := .type "slice", data := .fields #[vl, vu, vs] } } := I4.kept (t' := s4.toks) fun b ob q => Heap.get?_push_of_some _ q
  obtain ⟨its, r, ht, hz⟩ := I5.tuple hx
  have len := Vals.length r
  show wpAny (model X.prog X.w) X.A (subscriptTail e (.Slice none none (some (.UnaryOp .USub (.Constant (.int 1) k p1) p2)) p3) (.ref a) (.ref s4.heap.objs.size)) (EP X pins σ Q) X.xe { s4 with heap := s4.heap.push { cls := .type "slice", data := .fields #[vl, vu, vs] } }
  refine tail_any (ops := [.ref a, .ref s4.heap.objs.size]) ht.typeIs PyProof.Rows.slot_tuple_getitem.lookup ?_ (by with_unfolding_all rfl)
  refine getItem_tuple_rev ht (Heap.IsSliceOf.new _ vl vu vs) pl pu ps ?_ (by rw [List.size_toArray]; omega)
  refine ⟨.ref _, _, I5.laid (t' := s4.toks) (o := .tup xs.reverse) (fun b ob q => Heap.get?_push_of_some _ q) (Nat.le_refl _) ?_, rfl, q _ (I5.hok.fresh (Nat.le_refl _))⟩
  exact ⟨by rw [List.length_reverse]; omega, _, r.reverse, IsTup.new _ _⟩
end
/-! ### sorted(set(t)) -/
theorem insU_mem {x z : Int} : ∀ {l : List Int}, z ∈ insU x l ↔ z = x ∨ z ∈ l
  | [] => by simp [insU]
  | y :: r => by
    unfold insU
    by_cases h : x < y
    · rw [if_pos h, List.mem_cons]
    · rw [if_neg h]
      by_cases e : x = y
      · rw [if_pos e, e, List.mem_cons]
        constructor
        · exact .inr
        · rintro (h | h)
          · exact .inl h
          · exact h
      · rw [if_neg e, List.mem_cons, insU_mem, List.mem_cons]
        constructor
        · rintro (h | h | h)
          · exact .inr (.inl h)
          · exact .inl h
          · exact .inr (.inr h)
        · rintro (h | h | h)
          · exact .inr (.inl h)
          · exact .inl h
          · exact .inr (.inr h)
theorem insU_pw {x : Int} : ∀ {l : List Int}, l.Pairwise (· < ·) → (insU x l).Pairwise (· < ·)
  | [], _ => by simp [insU]
  | y :: r, h => by
    obtain ⟨h1, h2⟩ := List.pairwise_cons.mp h
    unfold insU
    by_cases q : x < y
    · rw [if_pos q]
      refine List.pairwise_cons.mpr ⟨fun z hz => ?_, h⟩
      rcases List.mem_cons.mp hz with rfl | hz
      · exact q
      · exact Int.lt_trans q (h1 z hz)
    · rw [if_neg q]
      by_cases e : x = y
      · rw [if_pos e]
        exact h
      · rw [if_neg e]
        refine List.pairwise_cons.mpr ⟨fun z hz => ?_, insU_pw h2⟩
        rcases insU_mem.mp hz with rfl | hz
        · omega
        · exact h1 z hz
theorem sortU_mem {z : Int} : ∀ {l : List Int}, z ∈ sortU l ↔ z ∈ l
  | [] => by simp [sortU]
  | y :: r => by
    show z ∈ insU y (sortU r) ↔ _
    rw [insU_mem, sortU_mem, List.mem_cons]
theorem sortU_pw : ∀ {l : List Int}, (sortU l).Pairwise (· < ·)
  | [] => List.Pairwise.nil
  | y :: r => insU_pw (sortU_pw (l := r))
theorem rising_uniq : ∀ {a b : List Int}, a.Pairwise (· < ·) → b.Pairwise (· < ·) → (∀ z, z ∈ a ↔ z ∈ b) → a = b
  | [], [], _, _, _ => rfl
  | [], y :: b, _, _, h => nomatch (h y).mpr (List.mem_cons_self ..)
  | x :: a, [], _, _, h => nomatch (h x).mp (List.mem_cons_self ..)
  | x :: a, y :: b, p, q, h => by
    obtain ⟨p1, p2⟩ := List.pairwise_cons.mp p
    obtain ⟨q1, q2⟩ := List.pairwise_cons.mp q
    have e : x = y := by
      have h1 := (h x).mp (List.mem_cons_self ..)
      have h2 := (h y).mpr (List.mem_cons_self ..)
      rcases List.mem_cons.mp h1 with e | h1
      · exact e
      · rcases List.mem_cons.mp h2 with e | h2
        · exact e.symm
        · have := q1 x h1
          have := p1 y h2
          omega
    subst e
    rw [rising_uniq p2 q2 fun z => ?_]
    constructor
    · intro hz
      rcases List.mem_cons.mp ((h z).mp (List.mem_cons_of_mem _ hz)) with e | hz'
      · have := p1 z hz
        omega
      · exact hz'
    · intro hz
      rcases List.mem_cons.mp ((h z).mpr (List.mem_cons_of_mem _ hz)) with e | hz'
      · have := q1 z hz
        omega
      · exact hz'
section
variable {X : Cx}
def rSetTI (K : PySem.W.Frag) (w : World) : List V → Hp → VK → Prop := fun vs H Q => ∃ (a : Addr) (ns : List Int), vs = [.ref a] ∧ SqT K H a (ns.map V.int) ∧ ns.length < 60 ∧ ∀ p c, H p = none → c ≤ ns.length → Q (.ref p) (upd H p (SetO w p (fun j => decide (j ∈ ns)) c))
theorem cr_setTI (hc : X.calm = true) : CallR X (.type "set") (rSetTI X.K X.w) := by
  intro pins s σ H xs us Q I r h
  obtain ⟨a, ns, rfl, hs, hz, q⟩ := h
  obtain rfl := Vals.ref1 r
  obtain ⟨its, rv, tu, _⟩ := I.tuple hs
  have room : ns.length + 1 < scanBound := by
    have : (1000 : Nat) < scanBound := by decide
    omega
  exact call_set_tupI (items := its.toArray) ns (I.ok.hd hc) tu rv.ints room fun h' tk c R hc' kp =>
    ⟨.ref _, upd H s.heap.objs.size (SetO X.w s.heap.objs.size (fun j => decide (j ∈ ns)) c), I.laid (t' := tk) kp (Nat.le_refl _) (setO_new R), rfl, q _ c (I.hok.fresh (Nat.le_refl _)) hc'⟩
end
end Ev

/-! Part W: set(a list of ints), with the order it is walked in. -/
namespace Ev
open PySem PySem.Spec PyProof.Rows L2
/-- a set just made -/
abbrev nSet (w : World) : Obj := ⟨.type "set", none, .set #[] 0 (.fresh 0 0 (!w.params.followText "set-order")), #[]⟩
section
variable {P : Program} {w : World} {A : Around} {E : Value → Shared → Prop} {s : Shared}
/-- what the walk over the list leaves -/
def SetDone (w : World) (s : Shared) (ns : List Int) : Value → Shared → Prop := fun r z => r = .none ∧ ∃ h' tk c, z = { s with heap := h', toks := tk } ∧ SetR w h' s.heap.objs.size (fun j => decide (j ∈ ns)) c ∧ c ≤ ns.length ∧ ∀ b o, s.heap.get? b = some o → h'.get? b = some o
theorem call_setLI {l : Addr} {items : Array Value} (ns : List Int) {Q : Value → Shared → Prop} (hh : A.handled = none) (hl : s.heap.IsList l items) (hit : IntsAre items.toList ns) (hb : ns.length + 1 < scanBound)
    (h : ∀ (h' : Heap) (tk c : Nat), SetR w h' s.heap.objs.size (fun j => decide (j ∈ ns)) c → c ≤ ns.length → (∀ b o, s.heap.get? b = some o → h'.get? b = some o) → Q (.ref s.heap.objs.size) { s with heap := h', toks := tk }) :
    wpAny (model P w) A (call (.type "set") [.ref l]) Q E s := by
  have sz : items.size = ns.length := (Array.length_toList (xs := items)).symm.trans (IntsAre.length hit)
  obtain ⟨c0, tl, m0⟩ := PySem.F.called_set.mro
  have m1 := PySem.F.called_set.made
  have m2 := PySem.F.called_set.sub
  have m3 := PySem.F.called_set.notType
  have m4 := PySem.F.called_set.canCreate
  have m5 := PySem.F.typeCall_set_1 (.ref l)
  refine wpAny_call (codeAny_of_tree (show wpAny _ _ (callAny (.type "set") _) _ _ _ from wpAny_pure ⟨Code.quiet_builtin _ (by decide +kernel), codeAny_builtin PySem.F.entry_type_call ?_⟩))
  rw [Around.under_plain (weight_type_call_type "set" [.ref l] []) rfl]
  repeat (any_goals (first
    | assumption
    | wp_step))
  refine codeAny_mono (code_set_led1 (.ref l) (E := E) (Q₁ := fun obj z => obj = .ref s.heap.objs.size ∧ z = { s with heap := s.heap.push (nSet w) }) ⟨rfl, rfl⟩) fun r z hr => ?_
  rcases r with e | fl
  · exact hr
  · cases fl with
    | ret obj =>
      obtain ⟨e1, e2⟩ := hr
      subst e1
      subst e2
      have g0 : (s.heap.push (nSet w)).get? s.heap.objs.size = some (nSet w) := Heap.get?_push_size _ rfl
      have gT : Shared.TypeIs { s with heap := s.heap.push (nSet w) } (.ref s.heap.objs.size) "set" := ⟨_, g0, rfl⟩
      have n1 := PySem.F.called_set.init.lookup
      have n2 := PySem.F.called_set.init.bind (.ref s.heap.objs.size)
      repeat (any_goals (first
        | assumption
        | wp_step))
      refine codeAny_mono (codeAny_call_builtin (R := wants (SetDone w s ns) E) PySem.F.called_set.init.plain PySem.F.entry_set_init (check_set_init_1 gT ?_)) fun r z hr => ?_
      · obtain ⟨⟨oc, od, oo, os⟩, ho, c1, k, d1⟩ := hl
        simp only at c1 d1
        subst c1
        subst d1
        have gl : (s.heap.push (nSet w)).get? l = some ⟨.type "list", od, .seq items k, os⟩ := Heap.get?_push_of_some _ ho
        have gL : (s.heap.push (nSet w)).IsList l items := ⟨_, gl, rfl, k, rfl⟩
        have q1 := PySem.F.sub_list_set
        have q2 := PySem.F.sub_list_frozenset
        have q3 : (Value.type "list" == Value.type "dict") = false := by decide
        unfold Builtin.«set.__init__» noKeywords Builtin.Frozenset.updateFrom
        generalize hPI : pyIter = PI
        wp_walk
        subst hPI
        refine wpAny_pyIter_list gL (wpAny_bind (wpAny_runValue ?_))
        have ll : l < s.heap.objs.size := Heap.lt_size ho
        have hi : A.in1.in1.in1.handled = none := by simp [hh]
        have nI : l ≠ (s.heap.push (nSet w)).objs.size := by
          rw [Heap.size_push]
          exact Nat.ne_of_lt (Nat.lt_succ_of_lt ll)
        have nF : s.heap.objs.size ∉ [(s.heap.push (nSet w)).objs.size, l] := by
          rw [Heap.size_push]
          intro hm
          rcases List.mem_cons.mp hm with e | hm
          · exact absurd e (Nat.ne_of_lt (Nat.lt_succ_self _))
          · exact absurd (List.mem_singleton.mp hm) (Nat.ne_of_gt ll)
        have each : ∀ (i : Nat) (v : Value), items[i]? = some v → ∃ k t, ns[i]? = some k ∧ v = .int k t := fun i v hv => by
          have li : i < ns.length := by
            rw [← sz]
            exact (Array.getElem?_eq_some_iff.mp hv).1
          obtain ⟨t, e⟩ := IntsAre.int_at hit i v (by rw [Array.getElem?_toList]; exact hv)
          rw [List.getD_eq_getElem?_getD, List.getElem?_eq_getElem li] at e
          exact ⟨ns[i], t, List.getElem?_eq_getElem li, e⟩
        refine set_update_ints ((Walks.list hi _ l nI items).toS) s.heap.objs.size nF ns sz hb each (items.size - 0) 0 _ (by omega) (Nat.zero_le _) ⟨⟨_, Heap.get?_push_size _ rfl, rfl, rfl⟩, gL.push _⟩ ⟨0, Nat.le_refl 0, setR_new_at (Heap.get?_push_of_some _ g0)⟩ ?_
        intro z c hm hc hS
        obtain ⟨h', g2, d2, t2, o2⟩ := z
        obtain rfl : g2 = s.gens := hm.gens
        obtain rfl : d2 = s.drawn := hm.drawn
        obtain rfl : o2 = s.os := hm.os
        show wpAny _ _ _ _ _ _
        refine wpAny_pure ?_
        show wpAny _ _ (ret Value.none) _ _ _
        rw [sz] at hc
        refine wpAny_pure ⟨rfl, h', t2, c, rfl, hS, hc, fun b o e => ?_⟩
        have lb : b < s.heap.objs.size := Heap.lt_size e
        refine hm.heap b o (fun hb => ?_) (Heap.get?_push_of_some _ (Heap.get?_push_of_some _ e))
        rcases List.mem_cons.mp hb with e | hb
        · exact absurd e (Nat.ne_of_lt lb)
        · have e := List.mem_singleton.mp hb
          rw [Heap.size_push] at e
          exact absurd e (Nat.ne_of_lt (Nat.lt_succ_of_lt lb))
      · rcases r with e | fl
        · exact hr
        · cases fl with
          | ret u =>
            obtain ⟨e1, h', tk, c, e2, hS, hc, hk⟩ := hr
            subst e1
            subst e2
            have hf := h h' tk c hS hc hk
            repeat (any_goals (first
              | assumption
              | wp_step))
          | _ => exact hr.elim
    | _ => exact hr.elim
end
section
variable {X : Cx}
/-- set() of a list's or a tuple's ints -/
def rSetI (K : PySem.W.Frag) (w : World) : List V → Hp → VK → Prop := fun vs H Q => ∃ (a : Addr) (ns : List Int), vs = [.ref a] ∧ (SqT K H a (ns.map V.int) ∨ SqL K H a (ns.map V.int)) ∧ ns.length < 60 ∧ ∀ p c, H p = none → c ≤ ns.length → Q (.ref p) (upd H p (SetO w p (fun j => decide (j ∈ ns)) c))
theorem cr_setI (hc : X.calm = true) : CallR X (.type "set") (rSetI X.K X.w) := by
  intro pins s σ H xs us Q I r h
  obtain ⟨a, ns, e, hs, hz, q⟩ := h
  rcases hs with hs | hs
  · exact cr_setTI hc pins s σ H xs us Q I r ⟨a, ns, e, hs, hz, q⟩
  · subst e
    obtain rfl := Vals.ref1 r
    obtain ⟨its, rv, tu, _⟩ := I.list hs
    have big : (1000 : Nat) < scanBound := by decide
    exact call_setLI (items := its.toArray) ns (I.ok.hd hc) tu.isList rv.ints (by omega) fun h' tk c R hc' kp =>
      ⟨.ref _, upd H s.heap.objs.size (SetO X.w s.heap.objs.size (fun j => decide (j ∈ ns)) c), I.laid (t' := tk) kp (Nat.le_refl _) (setO_new R), rfl, q _ c (I.hok.fresh (Nat.le_refl _)) hc'⟩
end
end Ev

/-! Part K: dicts whose keys are tuples, nested ones too. -/
namespace Ev
open PySem PySem.Spec PyProof.Rows L2
/-! ### keys -/
theorem nkT_of {d : D} {k : NestedKey} (h : nkT d = some k) : ∃ xs ks, d = .tup xs ∧ nksOf xs = some ks ∧ k = .tup ks ∧ k.depth ≤ 8 := by
  unfold nkT at h
  split at h
  · rename_i xs
    split at h
    · rename_i ks e
      split at h
      · rename_i z
        cases h
        exact ⟨xs, ks, rfl, e, rfl, z⟩
      · cases h
    · cases h
  · cases h
mutual
theorem nkOf_pure : ∀ (d : D) {k : NestedKey}, nkOf d = some k → d.pure = true
  | .non, _, _ => rfl
  | .bl _, _, _ => rfl
  | .int _, _, _ => rfl
  | .str _, _, _ => rfl
  | .tup xs, _, h => by
    rw [nkOf] at h
    cases e : nksOf xs with
    | none => rw [e] at h; cases h
    | some ks => exact nksOf_pure xs e
  | .lst _, _, h => by rw [nkOf] at h; cases h; all_goals (intro z; intros; first | contradiction | (cases z))
  | .dct _, _, h => by rw [nkOf] at h; cases h; all_goals (intro z; intros; first | contradiction | (cases z))
  | .ins _, _, _ => rfl
  | .scr _, _, h => by rw [nkOf] at h; cases h; all_goals (intro z; intros; first | contradiction | (cases z))
  | .dcn _, _, h => by rw [nkOf] at h; cases h; all_goals (intro z; intros; first | contradiction | (cases z))
theorem nksOf_pure : ∀ (xs : List D) {ks : List NestedKey}, nksOf xs = some ks → pureAll xs = true
  | [], _, _ => rfl
  | x :: r, ks, h => by
    rw [nksOf] at h
    cases e1 : nkOf x with
    | none => rw [e1] at h; cases h
    | some k =>
      cases e2 : nksOf r with
      | none => rw [e1, e2] at h; cases h
      | some ks => rw [pureAll, nkOf_pure x e1, nksOf_pure r e2]; rfl
end
theorem nkT_pure {d : D} {k : NestedKey} (h : nkT d = some k) : d.pure = true := by
  obtain ⟨xs, ks, rfl, e, _⟩ := nkT_of h
  exact nksOf_pure xs e
mutual
theorem nk_is {G : GC} {H : Hp} {h : Heap} (hok : HOk G.P G.w H h) (KX : G.K.In h) : ∀ {v : V} {d : D} {F : List Addr}, Rep G H v d F → ∀ {k : NestedKey}, nkOf d = some k → ∀ {u : Value}, RelV v u → NestedIs h k u
  | _, _, _, .non, k, e, u, r => by
    rw [nkOf] at e
    cases e
    cases r
    exact .none
  | _, _, _, .bl b, k, e, u, r => by
    rw [nkOf] at e
    cases e
    cases r
    exact .bool rfl
  | _, _, _, .int i, k, e, u, r => by
    rw [nkOf] at e
    cases e
    obtain ⟨t, rfl⟩ := r
    exact .int _ _
  | _, _, _, .str s, k, e, u, r => by
    rw [nkOf] at e
    cases e
    obtain ⟨t, rfl⟩ := r
    exact .text _ _
  | _, _, _, .tup (ds := ds) s q, k, e, u, r => by
    rw [nkOf] at e
    cases e1 : nksOf ds with
    | none => rw [e1] at e; cases e
    | some ks =>
      rw [e1] at e
      cases e
      cases r
      obtain ⟨its, o, n, hv, ho, hc, hd⟩ := sqT_at hok KX s
      exact .tup ho hc hd (by simpa using nks_is hok KX q e1 hv)
  | _, _, _, .lst _ _, k, e, u, r => by simp [nkOf] at e
  | _, _, _, .dct _ _ _, k, e, u, r => by simp [nkOf] at e
  | _, _, _, .scr _, k, e, u, r => by simp [nkOf] at e
  | _, _, _, .ins _, k, e, u, r => by simp [nkOf] at e
  | _, _, _, .dcn _ _ _ _, k, e, u, r => by simp [nkOf] at e
theorem nks_is {G : GC} {H : Hp} {h : Heap} (hok : HOk G.P G.w H h) (KX : G.K.In h) : ∀ {vs : List V} {ds : List D} {F : List Addr}, Reps G H vs ds F → ∀ {ks : List NestedKey}, nksOf ds = some ks → ∀ {us : List Value}, Vals vs us → NestedAll h ks us
  | _, _, _, .nil, ks, e, us, r => by
    rw [nksOf] at e
    cases e
    cases r
    exact .nil
  | _, _, _, .cons (d := d) (ds := ds) q qs, ks, e, us, r => by
    rw [nksOf] at e
    cases e1 : nkOf d with
    | none => rw [e1] at e; cases e
    | some k =>
      cases e2 : nksOf ds with
      | none => rw [e1, e2] at e; cases e
      | some ks =>
        rw [e1, e2] at e
        cases e
        cases r with
        | cons r1 r2 => exact .cons (nk_is hok KX q e1 r1) (nks_is hok KX qs e2 r2)
end
/-- b is the key k, wherever the heap is so -/
def NkA (P : Program) (w : World) (K : PySem.W.Frag) (H : Hp) (b : Addr) (k : NestedKey) : Prop := ∀ h, HOk P w H h → K.In h → (nestedKind P w).is h k b
theorem nk_rep {G : GC} {H : Hp} {v : V} {d : D} {F : List Addr} {k : NestedKey} (r : Rep G H v d F) (h : nkT d = some k) : ∃ b, v = .ref b ∧ NkA G.P G.w G.K H b k ∧ F = [] := by
  have e := r.pure_nil (nkT_pure h)
  obtain ⟨xs, ks, rfl, e1, rfl, hd⟩ := nkT_of h
  have r0 := r
  cases r with
  | tup s q =>
  rename_i a vs
  refine ⟨a, rfl, fun hp hok KX => ⟨nk_is hok KX r0 (show nkOf (.tup xs) = some (.tup ks) by rw [nkOf, e1]; rfl) rfl, hd⟩, e⟩
/-! ### what stands at a key -/
def valX (k : NestedKey) : List (NestedKey × Addr × V) → Option V
  | [] => none
  | x :: r => if x.1 = k then some x.2.2 else valX k r
def putX (xs : List (NestedKey × Addr × V)) (k : NestedKey) (b : Addr) (v : V) : List (NestedKey × Addr × V) :=
  if (xs.any fun x => decide (x.1 = k)) = true then xs.map (fun x => if x.1 = k then (x.1, x.2.1, v) else x) else xs ++ [(k, b, v)]
theorem putX_len (xs : List (NestedKey × Addr × V)) (k : NestedKey) (b : Addr) (v : V) : (putX xs k b v).length ≤ xs.length + 1 := by
  unfold putX
  split
  · rw [List.length_map]
    omega
  · rw [List.length_append]
    exact Nat.le_refl _
theorem KN.val {xs : List (NestedKey × Addr × V)} {ys : List (NestedKey × Addr × Value)} (r : KN xs ys) (k : NestedKey) : RelO (valX k xs) ((atKey ys k).map (·.2)) := by
  induction r with
  | nil => exact True.intro
  | @cons p q ps qs h t ih =>
    obtain ⟨h1, _, h2⟩ := h
    unfold valX
    by_cases e : p.1 = k
    · have e' : q.1 = k := h1.symm.trans e
      have b : atKey (q :: qs) k = some q.2 := by simp [atKey, List.find?_cons, e']
      rw [if_pos e, b]
      exact h2
    · have e' : ¬ q.1 = k := fun z => e (h1.trans z)
      have b : atKey (q :: qs) k = atKey qs k := by simp [atKey, List.find?_cons, e']
      rw [if_neg e, b]
      exact ih
theorem valX_any (xs : List (NestedKey × Addr × V)) (k : NestedKey) : (xs.any fun x => decide (x.1 = k)) = (valX k xs).isSome := by
  induction xs with
  | nil => rfl
  | cons x xs ih =>
    rw [List.any_cons, valX, ih]
    by_cases e : x.1 = k
    · rw [if_pos e, decide_eq_true e]
      rfl
    · rw [if_neg e, decide_eq_false e]
      rfl
theorem KN.put {xs : List (NestedKey × Addr × V)} {ys : List (NestedKey × Addr × Value)} (r : KN xs ys) (k : NestedKey) {b : Addr} {v : V} {u : Value} (rv : RelV v u) : KN (putX xs k b v) (storedH ys k b u) := by
  have e : (xs.any fun x => decide (x.1 = k)) = (atKey ys k).isSome := by
    rw [valX_any, (r.val k).isSome_eq, Option.isSome_map]
  unfold putX storedH
  rw [e]
  by_cases q : (atKey ys k).isSome = true
  · rw [if_pos q, if_pos q]
    clear e q
    induction r with
    | nil => exact .nil
    | @cons p q ps qs h t ih =>
      rw [List.map_cons, List.map_cons]
      refine .cons ?_ ih
      obtain ⟨h1, h2, h3⟩ := h
      unfold putAt
      by_cases e : p.1 = k
      · rw [if_pos e, if_pos (h1.symm.trans e)]
        exact ⟨h1, h2, rv⟩
      · rw [if_neg e, if_neg (fun z => e (h1.trans z))]
        exact ⟨h1, h2, h3⟩
  · rw [if_neg q, if_neg q]
    exact Paired.snoc r ⟨rfl, rfl, rv⟩
/-! ### the dict at a -/
/-- at a: a dict with the keys and values xs (the empty one may still be of the other kind) -/
def NDict (P : Program) (w : World) (K : PySem.W.Frag) (H : Hp) (a : Addr) (xs : List (NestedKey × Addr × V)) : Prop :=
  ((∃ o, H a = some (.ext (DnOk P w a o xs))) ∨ (xs = [] ∧ H a = some (.dK []))) ∧ ∀ x ∈ xs, NkA P w K H x.2.1 x.1
def NGet (P : Program) (w : World) (K : PySem.W.Frag) (H : Hp) (a : Addr) (y : V) (r : Option V) : Prop :=
  ∃ xs k b, NDict P w K H a xs ∧ y = .ref b ∧ NkA P w K H b k ∧ r = valX k xs
section
variable {X : Cx} {pins : List (Addr × Obj)} {σ : L2.St} {H : Hp} {s : Shared} {a : Addr} {xs : List (NestedKey × Addr × V)} {y v d : V} {u r : Value} {o : Option V} {A : Around} {E : Value → Shared → Prop}
theorem nd_at (I : L2.Inv X pins σ H s) (h : NDict X.prog X.w X.K H a xs) : xs.length ≤ sizeLine ∧ (a == sysModules) = false ∧ ∃ ys, KN xs ys ∧ s.heap.DictOfH (nestedKind X.prog X.w) a ys := by
  obtain ⟨h, hk⟩ := h
  rcases h with ⟨o, h⟩ | ⟨rfl, h⟩
  · obtain ⟨⟨e1, z, y, ys, r, es, ep, e2, e3, e4, e5⟩, _⟩ := (show ObjOk X.prog X.w H s.heap a (.ext (DnOk X.prog X.w a o xs)) from I.hok a _ h)
    refine ⟨z, y, ys, r, o, es, ep, e1, e2, e3, e4, fun q hq => ?_, e5⟩
    have all : ∀ {l : List (NestedKey × Addr × V)} {m : List (NestedKey × Addr × Value)}, KN l m → (∀ x ∈ l, NkA X.prog X.w X.K H x.2.1 x.1) → ∀ q ∈ m, (nestedKind X.prog X.w).is s.heap q.1 q.2.1 := by
      intro l m rr
      induction rr with
      | nil => exact fun _ q hq => nomatch hq
      | @cons p q ps qs g t ih =>
        intro al c hc
        rcases List.mem_cons.mp hc with e | hc
        · subst e
          have := al p (List.mem_cons_self ..) s.heap I.hok I.kIn
          rw [g.1, g.2.1] at this
          exact this
        · exact ih (fun x hx => al x (List.mem_cons_of_mem _ hx)) c hc
    exact all r hk q hq
  · obtain ⟨z, hd, vs, rel, o, es, ep, e1, e2, e3, e4, e5, e6⟩ := dk_of I.hok h
    have ev : vs = [] := by
      cases rel
      rfl
    subst ev
    have l := e5.length
    have e7 : es.toList = [] := List.length_eq_zero_iff.mp l
    exact ⟨Nat.zero_le _, hd, [], .nil, o, es, ep, e1, e2, e3, e7, (fun x hx => nomatch hx), List.nodup_nil⟩
theorem nd_is (I : L2.Inv X pins σ H s) (h : NDict X.prog X.w X.K H a xs) : s.TypeIs (.ref a) "dict" ∧ ∀ b, Value.ref a = .ref b → ∃ ob, s.heap.get? b = some ob ∧ ob.dict = none := by
  obtain ⟨z, hd, ys, r, dd⟩ := nd_at I h
  refine ⟨dd.typeIs, fun b e => ?_⟩
  cases e
  obtain ⟨o, es, ep, e1, e2, _⟩ := dd
  exact ⟨o, e1, e2.2.1⟩
theorem nroom {A : Around} (hu : A.units + 9 < cLine) : (nestedKind X.prog X.w).room A.in1 := by
  show A.in1.units + 8 < cLine
  rw [Around.in1_units]
  omega
/-- d[y], there -/
theorem n_getItem {Q : Value → Shared → Prop} (hu : A.units + 9 < cLine) (I : L2.Inv X pins σ H s) (g : NGet X.prog X.w X.K H a y (some v)) (ry : RelV y u) (h : ∀ w' s', L2.Inv X pins σ H s' → RelV v w' → Q w' s') :
    wpAny (model X.prog X.w) A (getItem (.ref a) u) Q E s := by
  obtain ⟨xs, k, b, hn, rfl, hk, l⟩ := g
  cases (show u = Value.ref b from ry)
  obtain ⟨z, hd, ys, rel, dd⟩ := nd_at I hn
  obtain ⟨w', hw, rw'⟩ := RelO.some_of (v := v) (o := (atKey ys k).map (·.2)) (by rw [l]; exact rel.val k)
  obtain ⟨p, hp, hp2⟩ := Option.map_eq_some_iff.mp hw
  refine wpAny_getItem_heap (nroom hu) (hk _ I.hok I.kIn) dd hp ?_
  rw [hp2]
  exact h w' _ (I.tok _) rw'
theorem n_in {Q : Value → Shared → Prop} (hu : A.units + 9 < cLine) (I : L2.Inv X pins σ H s) (g : NGet X.prog X.w X.K H a y o) (ry : RelV y u) (h : ∀ s', L2.Inv X pins σ H s' → Q (.bool o.isSome) s') :
    wpAny (model X.prog X.w) A (compareOp .In u (.ref a)) Q E s := by
  obtain ⟨xs, k, b, hn, rfl, hk, l⟩ := g
  cases (show u = Value.ref b from ry)
  obtain ⟨z, hd, ys, rel, dd⟩ := nd_at I hn
  refine wpAny_in_heap (nroom hu) (hk _ I.hok I.kIn) hd dd ?_
  have q := (rel.val k).isSome_eq
  rw [Option.isSome_map] at q
  rw [← q, ← l]
  exact h _ (I.tok _)
theorem n_notIn {Q : Value → Shared → Prop} (hu : A.units + 9 < cLine) (I : L2.Inv X pins σ H s) (g : NGet X.prog X.w X.K H a y o) (ry : RelV y u) (h : ∀ s', L2.Inv X pins σ H s' → Q (.bool (!o.isSome)) s') :
    wpAny (model X.prog X.w) A (compareOp .NotIn u (.ref a)) Q E s := by
  obtain ⟨xs, k, b, hn, rfl, hk, l⟩ := g
  cases (show u = Value.ref b from ry)
  obtain ⟨z, hd, ys, rel, dd⟩ := nd_at I hn
  refine wpAny_notIn_heap (nroom hu) (hk _ I.hok I.kIn) hd dd ?_
  have q := (rel.val k).isSome_eq
  rw [Option.isSome_map] at q
  rw [← q, ← l]
  exact h _ (I.tok _)
/-- d.get(y, x) -/
theorem n_get2 {Q : Value → Shared → Prop} (hu : A.units + 9 < cLine) (I : L2.Inv X pins σ H s) (g : NGet X.prog X.w X.K H a y o) (ry : RelV y u) (rd : RelV d r) (h : ∀ w' s', L2.Inv X pins σ H s' → RelV (o.getD d) w' → Q w' s') :
    wpAny (model X.prog X.w) A (call (.builtin "dict.get") [.ref a, u, r]) Q E s := by
  obtain ⟨xs, k, b, hn, rfl, hk, l⟩ := g
  cases (show u = Value.ref b from ry)
  obtain ⟨z, hd, ys, rel, dd⟩ := nd_at I hn
  refine call_meetsIn PySem.F.slot_dict_get dd.typeIs PySem.F.entry_dict_get (PySem.F.args_dict_get_3 _ _ _) (meetsH_dict_get_default (nestedKind X.prog X.w) a b hd r) ⟨nroom hu, k, ys, hk _ I.hok I.kIn, dd, h _ _ (I.tok _) ?_⟩
  rw [l]
  exact (rel.val k).getD rd
theorem nd_mut (h : NDict X.prog X.w X.K H a xs) : Mut (H a) := by
  rcases h.1 with ⟨_, h⟩ | ⟨_, h⟩
  · rw [h]
    exact True.intro
  · rw [h]
    exact True.intro
theorem nd_new {h' : Heap} {ys : List (NestedKey × Addr × Value)} (z : xs.length ≤ sizeLine) (hd : (a == sysModules) = false) (rel : KN xs ys) (dd : h'.DictOfH (nestedKind X.prog X.w) a ys) : ∃ o, h'.get? a = some o ∧ ∀ H', ObjOk X.prog X.w H' h' a (.ext (DnOk X.prog X.w a o xs)) := by
  obtain ⟨o, es, ep, e1, e2, e3, e4, _, e5⟩ := dd
  exact ⟨o, e1, fun H' => dn_ok ⟨e1, z, hd, ys, rel, es, ep, e2, e3, e4, e5⟩⟩
/-- d[y] = v -/
theorem n_setItem {k : NestedKey} {b : Addr} {Q : Unit → Shared → Prop} (hu : A.units + 9 < cLine) (I : L2.Inv X pins σ H s) (hn : NDict X.prog X.w X.K H a xs) (hk : NkA X.prog X.w X.K H b k) (l : xs.length < sizeLine) (rv : RelV v r)
    (h : ∀ o s', L2.Inv X pins σ (upd H a (.ext (DnOk X.prog X.w a o (putX xs k b v)))) s' → Q () s') : wpAny (model X.prog X.w) A (setItem (.ref a) (.ref b) r) Q E s := by
  obtain ⟨z, hd, ys, rel, dd⟩ := nd_at I hn
  have hz : ys.length ≤ sizeLine := by rw [← Paired.length rel]; exact z
  have hl : (putX xs k b v).length ≤ sizeLine := by have := putX_len xs k b v; omega
  refine wpAny_setItem_heap (hsz := hz) (nroom hu) (hk _ I.hok I.kIn) dd fun h' dd' hs => ?_
  obtain ⟨o, he, new⟩ := nd_new hl hd (rel.put k rv) dd'
  exact h o _ (d_write I (nd_mut hn) hs ⟨o, he⟩ (new _))
end
/-! ### the rules -/
def rInN (P : Program) (w : World) (K : PySem.W.Frag) : R2 := fun x y H Q => ∃ a o, y = .ref a ∧ NGet P w K H a x o ∧ Q (.bl o.isSome) H
def rNotInN (P : Program) (w : World) (K : PySem.W.Frag) : R2 := fun x y H Q => ∃ a o, y = .ref a ∧ NGet P w K H a x o ∧ Q (.bl (!o.isSome)) H
section
variable {X : Cx}
theorem op_inN (hu : X.A.units + 9 < cLine) : OpR X (compareOp .In) (rInN X.prog X.w X.K) := fun pins s σ H x y v u Q I rx ry h => by
  obtain ⟨a, o, rfl, g, q⟩ := h
  cases ry
  exact n_in hu I g rx fun s' I' => ⟨.bl _, H, I', rfl, q⟩
theorem op_notInN (hu : X.A.units + 9 < cLine) : OpR X (compareOp .NotIn) (rNotInN X.prog X.w X.K) := fun pins s σ H x y v u Q I rx ry h => by
  obtain ⟨a, o, rfl, g, q⟩ := h
  cases ry
  exact n_notIn hu I g rx fun s' I' => ⟨.bl _, H, I', rfl, q⟩
/-- d[y] -/
def tNGet (X : Cx) (td ty : TE) : TE := fun σ H Q => td σ H fun x H1 => ty σ H1 fun y H2 => ∃ a v, x = .ref a ∧ NGet X.prog X.w X.K H2 a y (some v) ∧ Q v H2
theorem pe_nget {o i : Expr} {pos : Pos} {td ty : TE} (hu : X.A.units + 9 < cLine) (ho : PE X o td) (hi : PE X i ty) (hs : NoSl i) : PE X (.Subscript o i pos) (tNGet X td ty) := by
  refine ⟨fun pins s σ H Q I h => ?_⟩
  refine subD_of PySem.F.slot_dict_getitem.lookup hs (thn (ho.run pins s σ H _ I h) fun u s1 ⟨x, H1, I1, rx, q1⟩ => thn (hi.run pins s1 σ H1 _ I1 q1) fun iv s2 ⟨y, H2, I2, ry, a, v, ex, g, q2⟩ => ?_)
  subst ex
  obtain rfl : u = Value.ref a := rx
  obtain ⟨xs, k, b, hn, e1, hk, l⟩ := id g
  exact ⟨(nd_is I2 hn).1, n_getItem hu I2 g ry fun w' s3 I3 rw' => ⟨v, H2, I3, rw', q2⟩⟩
/-- d[y] = v -/
def rSetN (P : Program) (w : World) (K : PySem.W.Frag) : TSet := fun o i v H Q => ∃ a xs b k, o = .ref a ∧ i = .ref b ∧ NDict P w K H a xs ∧ NkA P w K H b k ∧ xs.length < sizeLine ∧ ∀ o, Q (upd H a (.ext (DnOk P w a o (putX xs k b v))))
theorem set_nested (hu : X.A.units + 9 < cLine) : PSet X (rSetN X.prog X.w X.K) := by
  intro pins s σ H o i v ov iv u Q I ro ri rv h
  obtain ⟨a, xs, b, k, rfl, rfl, hn, hk, l, q⟩ := h
  cases ro
  cases ri
  exact n_setItem hu I hn hk l rv fun o s' I' => ⟨_, I', q o⟩
/-- a is a dict, of whatever keys -/
def IsDN (X : Cx) (H : Hp) (a : Addr) : Prop := IsD H a ∨ ∃ xs, NDict X.prog X.w X.K H a xs
theorem isDN_at {pins : List (Addr × Obj)} {σ : L2.St} {H : Hp} {s : Shared} {a : Addr} (I : L2.Inv X pins σ H s) (d : IsDN X H a) : s.TypeIs (.ref a) "dict" ∧ ∀ b, Value.ref a = .ref b → ∃ ob, s.heap.get? b = some ob ∧ ob.dict = none := by
  rcases d with d | ⟨xs, d⟩
  · obtain ⟨h1, h2, _⟩ := isD_at I d
    exact ⟨h1, h2⟩
  · exact nd_is I d
/-- d.get(y, x) -/
def tNGet2 (X : Cx) (td ty tx : TE) : TE := fun σ H Q => td σ H fun x H1 => ∃ a, x = .ref a ∧ IsDN X H1 a ∧ ty σ H1 fun y H2 => tx σ H2 fun z H3 => ∃ o, (DGet H3 a y o ∨ NGet X.prog X.w X.K H3 a y o) ∧ Q (o.getD z) H3
theorem pe_nget2 {o e f : Expr} {apos cpos : Pos} {td ty tx : TE} (hu : X.A.units + 9 < cLine) (ho : PE X o td) (he : PE X e ty) (hf : PE X f tx) (m : M2 X o "get" apos e f cpos) : PE X (.Call (.Attribute o "get" apos) [e, f] [] cpos) (tNGet2 X td ty tx) := by
  refine ⟨fun pins s σ H Q I h => ?_⟩
  refine wpAny_Call_method m.base m.few m.line PySem.F.plainAttrs_dict PySem.F.slot_dict_get PySem.F.type_dict_get (thn (ho.run pins s σ H _ I h) fun u s1 ⟨x, H1, I1, rx, a, ex, d, q1⟩ => ?_)
  subst ex
  obtain rfl : u = Value.ref a := rx
  obtain ⟨t1, t2⟩ := isDN_at I1 d
  refine ⟨t1, t2, ?_⟩
  rw [m.trees]
  refine Calls.callWith_builtin rfl (Calls.evalArgs_plain (Calls.spliced_cons (thn (he.run pins s1 σ H1 _ I1 q1) fun iv s2 ⟨y, H2, I2, ry, q2⟩ =>
    Calls.spliced_cons (thn (hf.run pins s2 σ H2 _ I2 q2) fun fv s3 ⟨z, H3, I3, rz, ov, g, q3⟩ => Calls.spliced_nil ?_))))
  rcases g with g | g
  · exact d_get2 (by omega) I3 g ry rz fun w' s4 I4 rw' => ⟨_, H3, I4, rw', q3⟩
  · exact n_get2 hu I3 g ry rz fun w' s4 I4 rw' => ⟨_, H3, I4, rw', q3⟩
/-- d.setdefault(y, x) -/
def Std (X : Cx) (H : Hp) (a : Addr) (y z : V) (Q : VK) : Prop :=
  (∃ kvs k, H a = some (.dK kvs) ∧ y = kV k ∧ kvs.length < sizeLine ∧ (∀ u, valV kvs k = some u → Q u H) ∧ (valV kvs k = none → Q z (upd H a (.dK (putK kvs k z))))) ∨
  ∃ xs k b, NDict X.prog X.w X.K H a xs ∧ y = .ref b ∧ NkA X.prog X.w X.K H b k ∧ xs.length < sizeLine ∧ (∀ u, valX k xs = some u → Q u H) ∧ (valX k xs = none → ∀ o, Q z (upd H a (.ext (DnOk X.prog X.w a o (putX xs k b z)))))
def tStd (X : Cx) (td ty tx : TE) : TE := fun σ H Q => td σ H fun x H1 => ∃ a, x = .ref a ∧ IsDN X H1 a ∧ ty σ H1 fun y H2 => tx σ H2 fun z H3 => Std X H3 a y z Q
theorem pe_std {o e f : Expr} {apos cpos : Pos} {td ty tx : TE} (hu : X.A.units + 9 < cLine) (ho : PE X o td) (he : PE X e ty) (hf : PE X f tx) (m : M2 X o "setdefault" apos e f cpos) : PE X (.Call (.Attribute o "setdefault" apos) [e, f] [] cpos) (tStd X td ty tx) := by
  refine ⟨fun pins s σ H Q I h => ?_⟩
  refine wpAny_Call_method m.base m.few m.line PySem.F.plainAttrs_dict PySem.F.slot_dict_setdefault PySem.F.type_dict_setdefault (thn (ho.run pins s σ H _ I h) fun u s1 ⟨x, H1, I1, rx, a, ex, d, q1⟩ => ?_)
  subst ex
  obtain rfl : u = Value.ref a := rx
  obtain ⟨t1, t2⟩ := isDN_at I1 d
  refine ⟨t1, t2, ?_⟩
  rw [m.trees]
  refine Calls.callWith_builtin rfl (Calls.evalArgs_plain (Calls.spliced_cons (thn (he.run pins s1 σ H1 _ I1 q1) fun iv s2 ⟨y, H2, I2, ry, q2⟩ =>
    Calls.spliced_cons (thn (hf.run pins s2 σ H2 _ I2 q2) fun fv s3 ⟨z, H3, I3, rz, g⟩ => Calls.spliced_nil ?_))))
  rcases g with ⟨kvs, k, ea, rfl, l, w1, w2⟩ | ⟨xs, k, b, hn, rfl, hk, l, w1, w2⟩
  · obtain ⟨zz, hd, vs0, rel, dd⟩ := dk_of I3.hok ea
    have hz : vs0.length ≤ sizeLine := by rw [← rel.length]; exact zz
    refine call_meetsIn PySem.F.slot_dict_setdefault dd.typeIs PySem.F.entry_dict_setdefault (PySem.F.args_dict_setdefault_3 _ _ _) (kt_meets_setdefault (mixKind X.prog X.w) a (kV_is ry) hd fv) ⟨vs0, dd, hz, fun u hu => ?_, fun hn h' dd' hs => ?_⟩
    · have rr := rel.val k
      rw [hu] at rr
      cases hv : valV kvs k with
      | none => rw [hv] at rr; exact False.elim rr
      | some x0 =>
        rw [hv] at rr
        exact (⟨x0, H3, I3.tok _, rr, w1 x0 hv⟩ : EP X pins σ Q u _)
    · have rr := rel.val k
      rw [hn] at rr
      cases hv : valV kvs k with
      | some x0 => rw [hv] at rr; exact False.elim rr
      | none =>
        have hl2 : (putK kvs k z).length ≤ sizeLine := by have := length_putK kvs k z; omega
        exact (⟨z, _, d_write I3 (by rw [ea]; exact True.intro) hs (let ⟨q, _, _, hq, _⟩ := dd'; ⟨q, hq⟩) (dk_new hl2 hd (rel.put k rz) dd'), rz, w2 hv⟩ : EP X pins σ Q _ _)
  · cases (show iv = Value.ref b from ry)
    obtain ⟨zz, hd, ys, rel, dd⟩ := nd_at I3 hn
    have hz : ys.length ≤ sizeLine := by rw [← Paired.length rel]; exact zz
    refine call_setdefault_heap (hsz := hz) (nroom hu) (hk _ I3.hok I3.kIn) hd dd (fun p hp => ?_) fun hno h' dd' hs => ?_
    · have rr := rel.val k
      rw [hp] at rr
      cases hv : valX k xs with
      | none => rw [hv] at rr; exact False.elim rr
      | some x0 =>
        rw [hv] at rr
        exact (⟨x0, H3, I3.tok _, rr, w1 x0 hv⟩ : EP X pins σ Q _ _)
    · have rr := rel.val k
      rw [hno] at rr
      cases hv : valX k xs with
      | some x0 => rw [hv] at rr; exact False.elim rr
      | none =>
        have hl2 : (putX xs k b z).length ≤ sizeLine := by have := putX_len xs k b z; omega
        obtain ⟨oo, he, new⟩ := nd_new hl2 hd (rel.put k rz) dd'
        exact (⟨z, _, d_write I3 (nd_mut hn) hs ⟨oo, he⟩ (new _), rz, w2 hv oo⟩ : EP X pins σ Q _ _)
/-- len(d) -/
def rLenN (P : Program) (w : World) (K : PySem.W.Frag) : List V → Hp → VK → Prop := fun xs H Q => ∃ (p : Addr) (l : List (NestedKey × Addr × V)), xs = [.ref p] ∧ NDict P w K H p l ∧ Q (.int ((l.length : Nat) : Int)) H
theorem call_len_nd : CallR X (.builtin "len") (rLenN X.prog X.w X.K) := by
  intro pins s σ H xs us Q I r h
  obtain ⟨p, l, rfl, hp, q⟩ := h
  obtain ⟨u, rfl, rx⟩ := vals1 r
  obtain rfl : u = .ref p := rx
  obtain ⟨z, hd, ys, rel, dd⟩ := nd_at I hp
  have hl : l.length = ys.length := Paired.length rel
  refine call_len_dictH hd dd (by rw [← hl]; rw [sizeLine_eq] at z; omega) ?_
  rw [← hl]
  exact ⟨.int ((l.length : Nat) : Int), H, I.tok _, ⟨_, rfl⟩, q⟩
def rLenK : List V → Hp → VK → Prop := fun xs H Q => ∃ (p : Addr) (kvs : List (Key × V)), xs = [.ref p] ∧ H p = some (.dK kvs) ∧ Q (.int ((kvs.length : Nat) : Int)) H
theorem call_len_dk : CallR X (.builtin "len") rLenK := by
  intro pins s σ H xs us Q I r h
  obtain ⟨p, l, rfl, hp, q⟩ := h
  obtain ⟨u, rfl, rx⟩ := vals1 r
  obtain rfl : u = .ref p := rx
  exact d_len I (.inl hp) fun t s' I' => ⟨.int l.length, H, I', ⟨t, rfl⟩, q⟩
end
/-! ### for k, v in d.items() -/
/-- the pairs, each a new tuple -/
def ItN (P : Program) (w : World) (d : Addr) (o : Obj) (xs : List (NestedKey × Addr × V)) : It where
  go i H := H d = some (.ext (DnOk P w d o xs)) ∧ i < xs.length
  yld i H x H' := ∃ T k b v, xs[i]? = some (k, b, v) ∧ x = .ref T ∧ H T = none ∧ H' = upd H T (.tup [.ref b, v])
  stop i H := H d = some (.ext (DnOk P w d o xs)) ∧ xs.length ≤ i
theorem kn_get {xs : List (NestedKey × Addr × V)} {ys : List (NestedKey × Addr × Value)} (h : KN xs ys) {i : Nat} {k : NestedKey} {b : Addr} {v : V} (e : xs[i]? = some (k, b, v)) : ∃ u, ys[i]? = some (k, b, u) ∧ RelV v u := by
  obtain ⟨⟨k', b', u⟩, h1, h2, h3, h4⟩ := paired_get h e
  cases h2
  cases h3
  exact ⟨u, h1, h4⟩
section
variable {X : Cx} {pins : List (Addr × Obj)} {σ : L2.St} {H : Hp} {s : Shared} {d : Addr} {o : Obj}
theorem ext_raw {xs : List (NestedKey × Addr × V)} (I : L2.Inv X pins σ H s) (h : H d = some (.ext (DnOk X.prog X.w d o xs))) : (d == sysModules) = false ∧ s.heap.get? d = some o ∧ o.ExactDict ∧ ∃ (es : Array DictEntry) (ep : Nat), o.data = .dict es ep ∧ es.size = xs.length ∧
    ∀ (i : Nat) (k : NestedKey) (b : Addr) (v : V), xs[i]? = some (k, b, v) → ∃ en, es[i]? = some en ∧ en.key = .ref b ∧ RelV v en.val := by
  obtain ⟨⟨e1, z, y, ys, r, es, ep, e2, e3, e4, e5⟩, _⟩ := (show ObjOk X.prog X.w H s.heap d (.ext (DnOk X.prog X.w d o xs)) from I.hok d _ h)
  refine ⟨y, e1, e2, es, ep, e3, by rw [size_of_entries e4, Paired.length r], fun i k b v hx => ?_⟩
  obtain ⟨u, h1, h2⟩ := kn_get r hx
  have q := entry_at e4 i
  rw [h1] at q
  exact ⟨_, q, rfl, h2⟩
end
theorem turn_itemsN {P : Program} {w : World} {K : PySem.W.Frag} {elts : List Expr} {kk : Nat} {tpos : Pos} {xs : List (NestedKey × Addr × V)} {o : Obj} {es : Array DictEntry} {ep : Nat} (it d : Addr) (hod : o.data = .dict es ep) :
    Turn P w K (.Tuple elts kk tpos) (ItN P w d o xs) [it] it (fun i h => ∃ ok ov, IsItemIter h it d i xs.length ep ok ov) where
  mem := by simp
  obj := fun i h st b hb => by
    have e : b = it := by simpa using hb
    subst e
    obtain ⟨ok, ov, e⟩ := st
    exact ⟨_, e, fun v z => nomatch z⟩
  keep := fun i h h' st k => let ⟨ok, ov, e⟩ := st; ⟨ok, ov, k it (by simp) _ e⟩
  item := by
    intro X hP hw hK hc i pins s σ H E I hf st hg
    subst hP hw hK
    obtain ⟨hd, hi⟩ := hg
    obtain ⟨hs, hgd, hx, es', ep', hdt, hsz, ent⟩ := ext_raw I hd
    obtain ⟨rfl, rfl⟩ := dict_ep hod hdt
    obtain ⟨⟨k, b, v⟩, hkv⟩ : ∃ p, xs[i]? = some p := ⟨xs[i], List.getElem?_eq_getElem hi⟩
    obtain ⟨en, he1, he2, ru⟩ := ent i k b v hkv
    obtain ⟨ok, ov, he⟩ := st
    rw [← hsz] at he
    have hlt : it < s.heap.objs.size := Heap.lt_size he
    have hi' : i < es'.size := by rw [hsz]; exact hi
    have een : es'[i] = en := by
      rw [Array.getElem?_eq_getElem hi'] at he1
      exact Option.some.inj he1
    refine DT.nextI he ⟨o, hgd, hx, hdt⟩ hi' fun h' ho hT hz hk => ?_
    rw [een, he2] at ho hT
    refine ⟨_, rfl, wpAny_letOwnedTupleGo_items (s := { s with heap := h' }) ho fun h'' he' sb => ?_⟩
    have hT2 : h''.get? s.heap.objs.size = some { cls := .type "tuple", data := .seq #[.ref b, en.val] } := (sb.2 _ (Nat.ne_of_gt hlt)).trans hT
    have new : ObjOk X.prog X.w (upd H s.heap.objs.size (.tup [.ref b, v])) h'' s.heap.objs.size (.tup [.ref b, v]) :=
      ⟨by show 2 ≤ sizeLine; decide, [.ref b, en.val], .cons rfl (.cons ru .nil), ⟨_, hT2, rfl, _, rfl⟩⟩
    have I1 : L2.Inv X pins σ (upd H s.heap.objs.size (.tup [.ref b, v])) { s with heap := h'' } :=
      I.turnedNew (t' := s.toks) (ch := [it]) (fun b ob hb e => (sb.2 b (by simpa using hb)).trans (hk b ob (by simpa using hb) e)) hf (Nat.le_refl _) new
    refine ⟨.ref s.heap.objs.size, _, I1, rfl, ⟨_, k, b, v, hkv, rfl, I.hok.fresh (Nat.le_refl _), rfl⟩, ⟨.ref b, en.val, ?_⟩, fun c hb => ?_⟩
    · rw [← hsz]; exact he'
    · have e : c = it := by simpa using hb
      rw [e, upd_ne (Nat.ne_of_lt hlt)]
      exact (hf it (by simp)).1
  done := by
    intro X hP hw hK hc i pins s σ H E I hf st hg
    subst hP hw hK
    obtain ⟨hd, hi⟩ := hg
    obtain ⟨f0, f1, f2, f3, f4, f5⟩ := hf it (by simp)
    obtain ⟨hs, hgd, hx, es', ep', hdt, hsz, ent⟩ := ext_raw I hd
    obtain ⟨rfl, rfl⟩ := dict_ep hod hdt
    obtain ⟨ok, ov, he⟩ := st
    rw [← hsz] at he
    exact DT.endI (I.ok.hd hc) he ⟨o, hgd, hx, hdt⟩ (by omega) fun h' eb => ⟨rfl, I.turned (t' := s.toks) (fun b ob hb e => eb b ob hb e) f0 f1 f3 f4 f5⟩
  self := fun A i s Q E st h => let ⟨_, _, e⟩ := st; PySem.W.kcp_self e h
def iItemsN (X : Cx) (td : TE) : TI := fun σ H R => td σ H fun x H1 => ∃ d o xs, x = .ref d ∧ H1 d = some (.ext (DnOk X.prog X.w d o xs)) ∧ R (ItN X.prog X.w d o xs) H1
theorem pi_itemsN {X : Cx} {e : Expr} {td : TE} {apos cpos : Pos} {elts : List Expr} {kk : Nat} {tpos : Pos} (he : PE X e td) (hbase : attributeBase e "items" X.env (eval e X.env) = eval e X.env) (hline : (apos.endLine == cpos.line) = true) :
    PI X (.Tuple elts kk tpos) (.Call (.Attribute e "items" apos) [] [] cpos) (iItemsN X td) := by
  refine ⟨fun pins s σ H R I h => ?_⟩
  refine wpAny_Call_method (T := "dict") (id := "dict.items") hbase rfl hline PySem.F.plainAttrs_dict PySem.F.slot_dict_items PySem.F.type_dict_items (thn (he.run pins s σ H _ I h) fun u s1 ⟨x, H1, I1, rx, d, o, xs, ex, hd, q⟩ => ?_)
  subst ex
  obtain rfl : u = Value.ref d := rx
  obtain ⟨hs, hgd, hx, es, ep, hdt, hsz, ent⟩ := ext_raw I1 hd
  have hR : DT.Raw s1.heap d es ep := ⟨o, hgd, hx, hdt⟩
  refine ⟨hR.typeIs, fun b eb => by cases eb; exact ⟨o, hgd, hx.2.1⟩, ?_⟩
  have I2 : L2.Inv X pins σ H1 { s1 with heap := s1.heap.push { cls := .type "dict_items", data := .fields #[.ref d] } } := I1.kept (t' := s1.toks) fun b ob q => Heap.get?_push_of_some _ q
  have fin : wpAny (model X.prog X.w) X.A (pyIter (.ref s1.heap.objs.size)) (PIE X pins σ (.Tuple elts kk tpos) R) X.xe { s1 with heap := s1.heap.push { cls := .type "dict_items", data := .fields #[.ref d] } } := by
    refine DT.iterI (d := d) ⟨_, Heap.get?_push_size _ rfl, rfl, rfl⟩ (hR.push _) (pi_one (tk := s1.toks) I2 _ (turn_itemsN _ d hdt) ⟨.none, .none, ?_⟩ q)
    rw [← hsz]
    exact Heap.get?_push_size _ rfl
  show wpAny _ _ (callWith cpos (.builtin "dict.items") [.ref d] [] []) _ X.xe s1
  exact method_meetsIn PySem.F.slot_dict_items PySem.F.entry_dict_items rfl (PySem.evalArgs_none ⟨rfl, hR.typeIs, PySem.F.args_dict_items_1 _, _, DT.meetsItems (es := es) (ep := ep) hs, ⟨hR, fin⟩⟩)
/-! ### plain dicts and theirs -/
section
variable {G : GC} {H : Hp}
theorem nkeys : ∀ {kds : List (D × D)} {xs : List (NestedKey × Addr × V)}, kds.map (fun p => nkT p.1) = xs.map (fun x => some x.1) → Reps G H (xs.map fun x => V.ref x.2.1) (kds.map Prod.fst) [] → ∀ x ∈ xs, NkA G.P G.w G.K H x.2.1 x.1
  | [], [], _, _ => fun x hx => nomatch hx
  | [], x :: xs, m, _ => by simp at m
  | p :: kds, [], m, _ => by simp at m
  | p :: kds, x :: xs, m, r => by
    have m1 : nkT p.1 = some x.1 := (List.cons.inj m).1
    have m2 : kds.map (fun p => nkT p.1) = xs.map (fun x => some x.1) := (List.cons.inj m).2
    rw [List.map_cons, List.map_cons] at r
    generalize hF : ([] : List Addr) = F0 at r
    cases r with
    | cons r rs =>
    obtain ⟨e1, e2⟩ := List.append_eq_nil_iff.mp hF.symm
    subst e1
    subst e2
    intro y hy
    rcases List.mem_cons.mp hy with z | z
    · subst z
      obtain ⟨b, e, hk, _⟩ := nk_rep r m1
      cases e
      exact hk
    · exact nkeys m2 rs y z
theorem dcn_nd {a : Addr} {kds : List (D × D)} {F : List Addr} (r : Rep G H (.ref a) (.dcn kds) F) : ∃ xs F', F = a :: F' ∧ NDict G.P G.w G.K H a xs ∧ kds.map (fun p => nkT p.1) = xs.map (fun x => some x.1) ∧ Reps G H (xs.map fun x => V.ref x.2.1) (kds.map Prod.fst) [] ∧ Reps G H (xs.map fun x => x.2.2) (kds.map Prod.snd) F' := by
  cases r with
  | dcn e m r1 r2 => exact ⟨_, _, rfl, ⟨.inl ⟨_, e⟩, nkeys m r1⟩, m, r1, r2⟩
theorem dct_nd {a : Addr} {F : List Addr} (r : Rep G H (.ref a) (.dct []) F) : F = [a] ∧ H a = some (.dK []) ∧ NDict G.P G.w G.K H a [] := by
  cases r with
  | dct e m r1 =>
  rename_i kvs F0
  have e1 : kvs = [] := List.length_eq_zero_iff.mp (by simpa using congrArg List.length m)
  subst e1
  cases r1
  exact ⟨rfl, e, .inr ⟨rfl, e⟩, fun x hx => nomatch hx⟩
theorem valN_rep {q : NestedKey} {d : D} : ∀ {kds : List (D × D)} {xs : List (NestedKey × Addr × V)} {F : List Addr}, kds.map (fun p => nkT p.1) = xs.map (fun x => some x.1) → Reps G H (xs.map fun x => x.2.2) (kds.map Prod.snd) F → valN q kds = some d → ∃ v F', valX q xs = some v ∧ Rep G H v d F' ∧ ∀ a ∈ F', a ∈ F
  | [], xs, F, _, _, h => by cases h
  | p :: kds, [], F, m, _, h => by simp at m
  | p :: kds, x :: xs, F, m, r, h => by
    have m1 : nkT p.1 = some x.1 := (List.cons.inj m).1
    have m2 : kds.map (fun p => nkT p.1) = xs.map (fun x => some x.1) := (List.cons.inj m).2
    cases r with
    | cons r rs =>
    unfold valN at h
    unfold valX
    by_cases e1 : x.1 = q
    · rw [m1, if_pos (congrArg some e1)] at h
      rw [if_pos e1]
      cases h
      exact ⟨_, _, rfl, r, fun a ha => List.mem_append_left _ ha⟩
    · rw [m1, if_neg (fun z => e1 (Option.some.inj z))] at h
      rw [if_neg e1]
      obtain ⟨v, F', h1, h2, h3⟩ := valN_rep m2 rs h
      exact ⟨v, F', h1, h2, fun a ha => List.mem_append_right _ (h3 a ha)⟩
theorem valN_none {q : NestedKey} : ∀ {kds : List (D × D)} {xs : List (NestedKey × Addr × V)}, kds.map (fun p => nkT p.1) = xs.map (fun x => some x.1) → (valX q xs).isSome = (valN q kds).isSome
  | [], [], _ => rfl
  | [], x :: xs, m => by simp at m
  | p :: kds, [], m => by simp at m
  | p :: kds, x :: xs, m => by
    have m1 : nkT p.1 = some x.1 := (List.cons.inj m).1
    have m2 : kds.map (fun p => nkT p.1) = xs.map (fun x => some x.1) := (List.cons.inj m).2
    unfold valN valX
    rw [m1]
    by_cases e1 : x.1 = q
    · rw [if_pos e1, if_pos (congrArg some e1)]
      rfl
    · rw [if_neg e1, if_neg (fun z => e1 (Option.some.inj z))]
      exact valN_none m2
theorem hasN_any {q : NestedKey} : ∀ {kds : List (D × D)} {xs : List (NestedKey × Addr × V)}, kds.map (fun p => nkT p.1) = xs.map (fun x => some x.1) → (xs.any fun x => decide (x.1 = q)) = hasN q kds
  | [], [], _ => rfl
  | [], x :: xs, m => by simp at m
  | p :: kds, [], m => by simp at m
  | p :: kds, x :: xs, m => by
    have m1 : nkT p.1 = some x.1 := (List.cons.inj m).1
    have m2 : kds.map (fun p => nkT p.1) = xs.map (fun x => some x.1) := (List.cons.inj m).2
    have ih := hasN_any (q := q) m2
    unfold hasN at ih ⊢
    rw [List.any_cons, List.any_cons, ih, m1]
    congr 1
    by_cases e1 : x.1 = q
    · rw [decide_eq_true e1, decide_eq_true (congrArg some e1)]
    · rw [decide_eq_false e1, decide_eq_false (fun z => e1 (Option.some.inj z))]
theorem mapN_put {v : V} {d : D} {q : NestedKey} {F1 : List Addr} (r1 : Rep G H v d F1) : ∀ {kds : List (D × D)} {xs : List (NestedKey × Addr × V)} {F : List Addr}, kds.map (fun p => nkT p.1) = xs.map (fun x => some x.1) → Reps G H (xs.map fun x => V.ref x.2.1) (kds.map Prod.fst) [] → Reps G H (xs.map fun x => x.2.2) (kds.map Prod.snd) F →
    (kds.map (fun p => if nkT p.1 = some q then (p.1, d) else p)).map (fun p => nkT p.1) = (xs.map fun x => if x.1 = q then (x.1, x.2.1, v) else x).map (fun x => some x.1) ∧
    Reps G H ((xs.map fun x => if x.1 = q then (x.1, x.2.1, v) else x).map fun x => V.ref x.2.1) ((kds.map (fun p => if nkT p.1 = some q then (p.1, d) else p)).map Prod.fst) [] ∧
    ∃ F', Reps G H ((xs.map fun x => if x.1 = q then (x.1, x.2.1, v) else x).map fun x => x.2.2) ((kds.map (fun p => if nkT p.1 = some q then (p.1, d) else p)).map Prod.snd) F' ∧ (∀ a ∈ F', a ∈ F ∨ a ∈ F1) ∧ (F1 = [] → List.Sublist F' F)
  | [], [], F, _, k, r => ⟨rfl, k, F, r, fun a h => .inl h, fun _ => List.Sublist.refl _⟩
  | [], x :: xs, F, m, _, _ => by simp at m
  | p :: kds, [], F, m, _, _ => by simp at m
  | p :: kds, x :: xs, F, m, k, r => by
    have m1 : nkT p.1 = some x.1 := (List.cons.inj m).1
    have m2 : kds.map (fun p => nkT p.1) = xs.map (fun x => some x.1) := (List.cons.inj m).2
    rw [List.map_cons, List.map_cons] at k
    generalize hF : ([] : List Addr) = F0 at k
    cases k with
    | cons k ks =>
    obtain ⟨e1, e2⟩ := List.append_eq_nil_iff.mp hF.symm
    subst e1
    subst e2
    cases r with
    | cons r rs =>
    rename_i Fa Fb
    obtain ⟨h1, h0, F', h2, h3, h4⟩ := mapN_put (q := q) r1 m2 ks rs
    by_cases e1 : x.1 = q
    · have e2 : nkT p.1 = some q := m1.trans (congrArg some e1)
      refine ⟨?_, ?_, F1 ++ F', ?_, fun a ha => ?_, fun e => by subst e; exact (h4 rfl).trans (List.sublist_append_right _ _)⟩
      · rw [List.map_cons, List.map_cons, List.map_cons, List.map_cons, if_pos e1, if_pos e2, h1]
        congr 1
      · rw [List.map_cons, List.map_cons, List.map_cons, List.map_cons, if_pos e1, if_pos e2]
        exact Reps.cons (F := []) (Fs := []) k h0
      · rw [List.map_cons, List.map_cons, List.map_cons, List.map_cons, if_pos e1, if_pos e2]
        exact .cons r1 h2
      · rcases List.mem_append.mp ha with z | z
        · exact .inr z
        · exact (h3 a z).imp (List.mem_append_right _) id
    · have e2 : ¬ nkT p.1 = some q := fun z => e1 (Option.some.inj (m1.symm.trans z))
      refine ⟨?_, ?_, Fa ++ F', ?_, fun a ha => ?_, fun e => List.Sublist.append_left (h4 e) _⟩
      · rw [List.map_cons, List.map_cons, List.map_cons, List.map_cons, if_neg e1, if_neg e2, h1]
        congr 1
      · rw [List.map_cons, List.map_cons, List.map_cons, List.map_cons, if_neg e1, if_neg e2]
        exact Reps.cons (F := []) (Fs := []) k h0
      · rw [List.map_cons, List.map_cons, List.map_cons, List.map_cons, if_neg e1, if_neg e2]
        exact .cons r h2
      · rcases List.mem_append.mp ha with z | z
        · exact .inl (List.mem_append_left _ z)
        · exact (h3 a z).imp (List.mem_append_right _) id
theorem putN_rep {v : V} {d : D} {q : NestedKey} {F1 : List Addr} (r1 : Rep G H v d F1) {kd : D} {b : Addr} (hq : nkT kd = some q) (rk : Rep G H (.ref b) kd []) {kds : List (D × D)} {xs : List (NestedKey × Addr × V)} {F : List Addr}
    (m : kds.map (fun p => nkT p.1) = xs.map (fun x => some x.1)) (k : Reps G H (xs.map fun x => V.ref x.2.1) (kds.map Prod.fst) []) (r : Reps G H (xs.map fun x => x.2.2) (kds.map Prod.snd) F) :
    (putN kds kd q d).map (fun p => nkT p.1) = (putX xs q b v).map (fun x => some x.1) ∧ Reps G H ((putX xs q b v).map fun x => V.ref x.2.1) ((putN kds kd q d).map Prod.fst) [] ∧
    ∃ F', Reps G H ((putX xs q b v).map fun x => x.2.2) ((putN kds kd q d).map Prod.snd) F' ∧ (∀ a ∈ F', a ∈ F ∨ a ∈ F1) ∧ (F1 = [] → List.Sublist F' (F ++ F1)) := by
  unfold putN putX
  rw [hasN_any m]
  split
  · obtain ⟨h1, h0, F', h2, h3, h4⟩ := mapN_put (q := q) r1 m k r
    exact ⟨h1, h0, F', h2, h3, fun e => (h4 e).trans (List.sublist_append_left _ _)⟩
  · refine ⟨by rw [List.map_append, List.map_append, m]; exact congrArg (_ ++ [·]) hq, ?_, F ++ (F1 ++ []), ?_, fun a ha => ?_, fun _ => by rw [List.append_nil]; exact List.Sublist.refl _⟩
    · rw [List.map_append, List.map_append]
      exact Reps.append k (Reps.cons (F := []) (Fs := []) rk .nil)
    · rw [List.map_append, List.map_append]
      exact Reps.append r (.cons r1 .nil)
    · rw [List.append_nil] at ha
      exact List.mem_append.mp ha
theorem pureN_eq : ∀ {kds : List (D × D)}, pureN kds = pureAll (kds.map Prod.snd)
  | [] => rfl
  | (x, d) :: r => by
    rw [pureN, pureN_eq]
    rfl
theorem keyOf_nk {d : D} {q : Key} (h : keyOf d = some q) : nkT d = none := by
  cases d <;> simp [keyOf] at h <;> rfl
end
end Ev

/-! Part B2: what is seen of an expression ahead of its run: its kind, whether it is new, what it may share; the operators. -/
namespace Ev
open PySem PySem.Spec PyProof.Rows L2

structure Sig where
  ps : List Nat
  ty : Nat
  fr : Nat
  deriving DecidableEq
abbrev Al := List Nat × List Nat
def Al.un (a b : Al) : Al := (a.1 ++ b.1, a.2 ++ b.2)
def Al.minus (a : Al) (is : List Nat) : Al := (a.1.filter fun k => !is.contains k, a.2.filter fun k => !is.contains k)
def tgs : Tg → List Nat
  | .one i => [i]
  | .many is => is
def kdT (kd : Nat → Nat) (tg : Tg) (t : Nat) : Nat → Nat := fun j => if (tgs tg).contains j then t else kd j
section
variable (sg : Nat → Sig) (ms : Nat → Sig)
mutual
/-- 0: no list within; 1: none but the outermost; 2: anything -/
def tyE : IE → (Nat → Nat) → Nat
  | .var i, kd => kd i
  | .bin .Add a b, kd => max (tyE a kd) (tyE b kd)
  | .bin .Mult a b, kd => max (tyE a kd) (tyE b kd)
  | .bo _ a b, kd => max (tyE a kd) (tyE b kd)
  | .ife _ a b, kd => max (tyE a kd) (tyE b kd)
  | .tup es, kd => if all0 es kd then 0 else 2
  | .lst es, kd => if all0 es kd then 1 else 2
  | .idx a _, kd => if tyE a kd ≤ 1 then 0 else 2
  | .slc a _ _, kd => tyE a kd
  | .rev a, kd => tyE a kd
  | .evr _ _, _ => 1
  | .srs _, _ => 1
  | .lsp _, _ => 1
  | .comp elt tg it _, kd => if tyE elt (kdT kd tg (tyI it kd)) = 0 then 1 else 2
  | .call f _, _ => (sg f).ty
  | .calld f _ _, _ => (sg f).ty
  | .bi .list es, kd => if all1 es kd then 1 else 2
  | .bi .tuple es, kd => if all1 es kd then 0 else 2
  | .bi .sorted _, _ => 1
  | .bi _ _, _ => 0
  | .omt m _ _, _ => (ms m).ty
  | .mth .get o _, kd => if tyE o kd ≤ 1 then 0 else 2
  | .mth .getd o es, kd => if tyE o kd ≤ 1 then (if all0 es kd then 0 else 2) else 2
  | .mth .index _ _, _ => 0
  | .mth .upper _ _, _ => 0
  | .mth _ _ _, _ => 2
  | .dsp _, _ => 1
  | .dsl _ v, kd => if tyE v kd = 0 then 1 else 2
  | .dct ks _, _ => match ks with
    | .nil => 1
    | _ => 2
  | .lrg _, _ => 1
  | _, _ => 0
def all0 : IEs → (Nat → Nat) → Bool
  | .nil, _ => true
  | .cons e es, kd => decide (tyE e kd = 0) && all0 es kd
def all1 : IEs → (Nat → Nat) → Bool
  | .nil, _ => true
  | .cons e es, kd => decide (tyE e kd ≤ 1) && all1 es kd
def tyI : II → (Nat → Nat) → Nat
  | .el e, kd => if tyE e kd ≤ 1 then 0 else 2
  | .enu a, kd => if tyE a kd ≤ 1 then 0 else 2
  | .zip a b, kd => if tyE a kd ≤ 1 then (if tyE b kd ≤ 1 then 0 else 2) else 2
  | .rvs a, kd => if tyE a kd ≤ 1 then 0 else 2
  | .itms e, kd => if tyE e kd ≤ 1 then 0 else 2
  | _, _ => 0
end
def fr0 (t r : Nat) : Nat := if t = 0 then 1 else r
def fr1 (t : Nat) : Nat := if t ≤ 1 then 1 else 2
mutual
/-- 1: all new, nothing twice; 2: the outermost list new; 3: nothing of this -/
def frE : IE → (Nat → Nat) → Nat
  | .var i, kd => fr0 (kd i) 3
  | .bin op a b, kd => fr1 (tyE sg ms (.bin op a b) kd)
  | .bo o a b, kd => fr0 (tyE sg ms (.bo o a b) kd) (max (frE a kd) (frE b kd))
  | .ife c a b, kd => fr0 (tyE sg ms (.ife c a b) kd) (max (frE a kd) (frE b kd))
  | .tup es, kd => if frs1 es kd then 1 else 2
  | .lst es, kd => if frs1 es kd then 1 else 2
  | .idx a b, kd => fr0 (tyE sg ms (.idx a b) kd) 3
  | .slc a l h, kd => fr1 (tyE sg ms (.slc a l h) kd)
  | .rev a, kd => fr1 (tyE sg ms (.rev a) kd)
  | .comp elt tg it c, kd => if frE elt (kdT kd tg (tyI sg ms it kd)) ≤ 1 then 1 else 2
  | .call f _, _ => fr0 (sg f).ty (sg f).fr
  | .calld f _ _, _ => fr0 (sg f).ty (sg f).fr
  | .bi .list es, kd => fr1 (tyE sg ms (.bi .list es) kd)
  | .bi .tuple es, kd => fr0 (tyE sg ms (.bi .tuple es) kd) (if frs1 es kd then 1 else 2)
  | .bi _ _, _ => 1
  | .omt m _ _, _ => fr0 (ms m).ty (ms m).fr
  | .mth m o es, kd => fr0 (tyE sg ms (.mth m o es) kd) 3
  | .dsl _ v, kd => if frE v kd ≤ 1 then 1 else 2
  | .dct ks _, _ => match ks with
    | .nil => 1
    | _ => 3
  | _, _ => 1
termination_by structural e => e
def frs1 : IEs → (Nat → Nat) → Bool
  | .nil, _ => true
  | .cons e es, kd => decide (frE e kd ≤ 1) && frs1 es kd
termination_by structural e => e
end
def al0 (f : Nat) (a : Al) : Al := if f ≤ 1 then ([], []) else a
def two (a : Al) : Al × Al := (a, a)
mutual
/-- the slots whose things a value may share: whole, or what lies within; the same of what lies within the value -/
def alP : IE → (Nat → Nat) → Al × Al
  | .var i, kd => (al0 (fr0 (kd i) 3) ([i], []), al0 (fr0 (kd i) 3) ([], [i]))
  | .bin op a b, kd => two (al0 (frE sg ms (.bin op a b) kd) ((alP a kd).2.un (alP b kd).2))
  | .bo o a b, kd => two (al0 (frE sg ms (.bo o a b) kd) ((alP a kd).1.un (alP b kd).1))
  | .ife c a b, kd => two (al0 (frE sg ms (.ife c a b) kd) ((alP a kd).1.un (alP b kd).1))
  | .tup es, kd => two (al0 (frE sg ms (.tup es) kd) (als es kd).1)
  | .lst es, kd => two (al0 (frE sg ms (.lst es) kd) (als es kd).1)
  | .idx a b, kd => two (al0 (frE sg ms (.idx a b) kd) (alP a kd).2)
  | .slc a l h, kd => two (al0 (frE sg ms (.slc a l h) kd) (alP a kd).2)
  | .rev a, kd => two (al0 (frE sg ms (.rev a) kd) (alP a kd).2)
  | .comp elt tg it c, kd => two (al0 (frE sg ms (.comp elt tg it c) kd) (((alP elt (kdT kd tg (tyI sg ms it kd))).1.minus (tgs tg)).un (alI it kd)))
  | .call f es, kd => two (al0 (frE sg ms (.call f es) kd) (als es kd).1)
  | .calld f m es, kd => two (al0 (frE sg ms (.calld f m es) kd) (als es kd).1)
  | .bi b es, kd => two (al0 (frE sg ms (.bi b es) kd) (als es kd).2)
  | .omt m o es, kd => two (al0 (frE sg ms (.omt m o es) kd) (als es kd).1)
  | .dsl k v, kd => two (al0 (frE sg ms (.dsl k v) kd) (alP v kd).1)
  | .mth m o es, kd => two (al0 (frE sg ms (.mth m o es) kd) ((alP o kd).2.un (als es kd).1))
  | .dct ks vs, kd => match ks with
    | .nil => two ([], [])
    | _ => two (als vs kd).1
  | _, _ => two ([], [])
termination_by structural e => e
def als : IEs → (Nat → Nat) → Al × Al
  | .nil, _ => two ([], [])
  | .cons e es, kd => ((alP e kd).1.un (als es kd).1, (alP e kd).2.un (als es kd).2)
termination_by structural e => e
def alI : II → (Nat → Nat) → Al
  | .el e, kd => (alP e kd).2
  | .enu a, kd => (alP a kd).2
  | .zip a b, kd => (alP a kd).2.un (alP b kd).2
  | .rvs a, kd => (alP a kd).2
  | .itms a, kd => (alP a kd).2
  | _, _ => ([], [])
termination_by structural e => e
end
end
/-! ### what is known of an expression's value -/
def TyOk : Nat → D → Prop
  | 0, d => d.pure = true
  | 1, d => d.ep = true
  | _, _ => True
theorem ep_of_pure {d : D} (h : d.pure = true) : d.ep = true := by
  cases d <;> simp [D.pure, D.ep] at h ⊢
  exact h
theorem TyOk.pure {d : D} (h : d.pure = true) : ∀ n, TyOk n d
  | 0 => h
  | 1 => ep_of_pure h
  | _ + 2 => trivial
theorem TyOk.mono {d : D} : ∀ {n m : Nat}, n ≤ m → TyOk n d → TyOk m d
  | 0, m, _, h => TyOk.pure h m
  | 1, 1, _, h => h
  | 1, m + 2, _, _ => trivial
  | _ + 2, m + 2, _, _ => trivial
  | _ + 2, 1, h, _ => by omega
  | _ + 2, 0, h, _ => by omega
  | 1, 0, h, _ => by omega
def innF (d : D) (F : List Addr) : List Addr := if d.isL then F.tail else F
theorem innF_sub {d : D} {F : List Addr} {a : Addr} (h : a ∈ innF d F) : a ∈ F := by
  unfold innF at h
  split at h
  · exact List.mem_of_mem_tail h
  · exact h
def inn (σ : Sg) (Fs : Nat → List Addr) (k : Nat) : List Addr := match σ[k]? with
  | some (some d) => innF d (Fs k)
  | _ => Fs k
def InAl (σ : Sg) (Fs : Nat → List Addr) (al : Al) (a : Addr) : Prop := (∃ k ∈ al.1, a ∈ Fs k) ∨ ∃ k ∈ al.2, a ∈ inn σ Fs k
theorem InAl.left {σ : Sg} {Fs : Nat → List Addr} {x y : Al} {a : Addr} (h : InAl σ Fs x a) : InAl σ Fs (x.un y) a := by
  rcases h with ⟨k, hk, h⟩ | ⟨k, hk, h⟩
  · exact .inl ⟨k, List.mem_append_left _ hk, h⟩
  · exact .inr ⟨k, List.mem_append_left _ hk, h⟩
theorem InAl.right {σ : Sg} {Fs : Nat → List Addr} {x y : Al} {a : Addr} (h : InAl σ Fs y a) : InAl σ Fs (x.un y) a := by
  rcases h with ⟨k, hk, h⟩ | ⟨k, hk, h⟩
  · exact .inl ⟨k, List.mem_append_right _ hk, h⟩
  · exact .inr ⟨k, List.mem_append_right _ hk, h⟩
/-- how new a value's things are, the heap ahead of it being H -/
def FrOk (k : Nat) (H : Hp) (v : V) (d : D) (F : List Addr) : Prop :=
  (k ≤ 1 → F.Nodup ∧ ∀ a ∈ F, H a = none) ∧ (k ≤ 2 → d.isL = true → ∃ a F', v = .ref a ∧ F = a :: F' ∧ H a = none ∧ a ∉ F')
theorem FrOk.three {k : Nat} {H : Hp} {v : V} {d : D} {F : List Addr} (h : 3 ≤ k) : FrOk k H v d F := ⟨fun e => by omega, fun e => by omega⟩
theorem FrOk.noL {H : Hp} {v : V} {d : D} {F : List Addr} (k : Nat) (h : d.isL = false) (h1 : k ≤ 1 → F.Nodup ∧ ∀ a ∈ F, H a = none) : FrOk k H v d F := ⟨h1, fun _ e => by rw [h] at e; cases e⟩
theorem not_isL {d : D} (h : d.pure = true) : d.isL = false := by cases d <;> simp [D.pure, D.isL] at h ⊢
theorem FrOk.pure {k : Nat} {H : Hp} {v : V} {d : D} {F : List Addr} (h : d.pure = true) (e : F = []) : FrOk k H v d F := by
  subst e
  exact FrOk.noL k (not_isL h) fun _ => ⟨List.nodup_nil, fun a ha => nomatch ha⟩
/-- what is known of a value, its run behind it -/
structure Rs (G : GC) (ty fr : Nat) (q : Al × Al) (σ : Sg) (Fs : Nat → List Addr) (H : Hp) (v : V) (d : D) (F : List Addr) (H' : Hp) : Prop where
  same : Same H H'
  rep : Rep G H' v d F
  ty : TyOk ty d
  fr : FrOk fr H v d F
  al : ∀ a ∈ F, H a = none ∨ InAl σ Fs q.1 a
  an : ∀ a ∈ innF d F, H a = none ∨ InAl σ Fs q.2 a
theorem Rs.pure {G : GC} {ty fr : Nat} {al : Al × Al} {σ : Sg} {Fs : Nat → List Addr} {H H' : Hp} {v : V} {d : D} {F : List Addr} (s : Same H H') (r : Rep G H' v d F) (h : d.pure = true) : Rs G ty fr al σ Fs H v d F H' := by
  have e := r.pure_nil h
  subst e
  exact ⟨s, r, TyOk.pure h _, FrOk.pure h rfl, fun a ha => (nomatch ha), fun a ha => nomatch (innF_sub ha)⟩
/-- the slots hold what they should -/
structure RelE (G : GC) (kd : Nat → Nat) (σ : Sg) (σc : L2.St) (H : Hp) (Fs : Nat → List Addr) : Prop where
  rep : ∀ (i : Nat) (d : D), σ[i]? = some (some d) → ∃ v, σc[i]? = some (some v) ∧ Rep G H v d (Fs i)
  ty : ∀ (i : Nat) (d : D), σ[i]? = some (some d) → TyOk (kd i) d
  len : σc.length = σ.length
  tr : ∀ (i : Nat) (a : Addr), a ∈ Fs i → ∃ o, H a = some o
theorem RelE.same {G : GC} {kd : Nat → Nat} {σ : Sg} {σc : L2.St} {H H' : Hp} {Fs : Nat → List Addr} (r : RelE G kd σ σc H Fs) (s : Same H H') : RelE G kd σ σc H' Fs :=
  ⟨fun i d e => by
    obtain ⟨v, e', q⟩ := r.rep i d e
    exact ⟨v, e', q.same s⟩, r.ty, r.len, fun i a ha => by
    obtain ⟨o, e⟩ := r.tr i a ha
    exact ⟨o, s a o e⟩⟩
theorem PE.imp {X : Cx} {e : Expr} {t t' : TE} (h : PE X e t) (w : ∀ σ H Q, t' σ H Q → t σ H Q) : PE X e t' := ⟨fun pins s σ H Q I q => h.run pins s σ H Q I (w _ _ _ q)⟩
theorem PT.imp {X : Cx} {e : Expr} {t t' : TT} (h : PT X e t) (w : ∀ σ H Q, t' σ H Q → t σ H Q) : PT X e t' := ⟨fun pins s σ H Q I q => h.run pins s σ H Q I (w _ _ _ q)⟩
theorem PA.imp {X : Cx} {e : List Expr} {t t' : TA} (h : PA X e t) (w : ∀ σ H Q, t' σ H Q → t σ H Q) : PA X e t' := ⟨fun p pins s σ H Q I q => h.run p pins s σ H Q I (w _ _ _ q)⟩
theorem PE.or {X : Cx} {e : Expr} {t u : TE} (h : PE X e t) (h' : PE X e u) : PE X e (fun σ H Q => t σ H Q ∨ u σ H Q) :=
  ⟨fun pins s σ H Q I q => q.elim (h.run pins s σ H Q I) (h'.run pins s σ H Q I)⟩
/-! ### the operators, by what stands there -/
section
variable {X : Cx}
def rNoOp : R2 := fun _ _ _ _ => False
theorem op_no {f : Value → Value → Sem Value} : OpR X f rNoOp := fun _ _ _ _ _ _ _ _ _ _ _ _ h => h.elim
def rBin (K : PySem.W.Frag) : Operator → R2
  | .Add => fun x y H Q => rI0 (fun i j => .int (i + j)) x y H Q ∨ rCatA K x y H Q ∨ rCat x y H Q ∨ ∃ i j, x = .str i ∧ y = .str j ∧ i.length + j.length ≤ sizeLine ∧ Q (.str (i ++ j)) H
  | .Sub => rI0 fun i j => .int (i - j)
  | .Mult => fun x y H Q => rI CMulW (fun i j => .int (i * j)) x y H Q ∨ rRep x y H Q ∨ rRepT K x y H Q
  | .FloorDiv => rI CDivW fun i j => .int (i / j)
  | .Mod => rI (fun _ j => 0 < j) fun i j => .int (i % j)
  | .Pow => rI CPow fun i j => .int (i ^ j.toNat)
  | .LShift => rI CPow fun i j => .int (i * 2 ^ j.toNat)
  | .RShift => rI (fun _ j => 0 ≤ j) fun i j => .int (i / 2 ^ j.toNat)
  | .BitAnd => rI0 fun i j => .int (Builtin.bitAnd i j)
  | .BitOr => rI0 fun i j => .int (Builtin.bitOr i j)
  | .BitXor => rI0 fun i j => .int (Builtin.bitXor i j)
  | _ => rNoOp
theorem op_bin : ∀ op, OpR X (binaryOp op) (rBin X.K op)
  | .Add => OpR.or op_add (OpR.or op_catA (OpR.or op_cat op_add_str))
  | .Sub => op_sub
  | .Mult => OpR.or op_mulW (OpR.or op_rep op_repT)
  | .FloorDiv => op_fdivW
  | .Mod => op_mod
  | .Pow => op_pow
  | .LShift => op_shl
  | .RShift => op_shr
  | .BitAnd => op_and
  | .BitOr => op_or
  | .BitXor => op_xor
  | .MatMult => op_no
  | .Div => op_no
def rEqX (K : PySem.W.Frag) : R2 := rEqD K
def rInK : R2 := fun x y H Q => ∃ a o, y = .ref a ∧ DGet H a x o ∧ Q (.bl o.isSome) H
def rNotInK : R2 := fun x y H Q => ∃ a o, y = .ref a ∧ DGet H a x o ∧ Q (.bl (!o.isSome)) H
theorem op_inK (hu : X.A.units + 1 < cLine) : OpR X (compareOp .In) rInK := fun pins s σ H x y v u Q I rx ry h => by
  obtain ⟨a, o, rfl, g, q⟩ := h
  cases ry
  exact d_in hu I g rx fun s' I' => ⟨.bl _, H, I', rfl, q⟩
theorem op_notInK (hu : X.A.units + 1 < cLine) : OpR X (compareOp .NotIn) rNotInK := fun pins s σ H x y v u Q I rx ry h => by
  obtain ⟨a, o, rfl, g, q⟩ := h
  cases ry
  exact d_notIn hu I g rx fun s' I' => ⟨.bl _, H, I', rfl, q⟩
def rCmp (P : Program) (w : World) (K : PySem.W.Frag) : CmpOp → R2
  | .Eq => rEqD K
  | .NotEq => rNeD K
  | .Lt => fun x y H Q => rI0 (fun i j => .bl (decide (i < j))) x y H Q ∨ rLtT K x y H Q ∨ (∃ i j, x = .str i ∧ y = .str j ∧ Q (.bl (decide (i.cps.toList < j.cps.toList))) H) ∨ rLtA K x y H Q
  | .LtE => rI0 fun i j => .bl (decide (i ≤ j))
  | .Gt => rI0 fun i j => .bl (decide (j < i))
  | .GtE => rI0 fun i j => .bl (decide (j ≤ i))
  | .In => fun x y H Q => rInN P w K x y H Q ∨ rInK x y H Q ∨ rInD K x y H Q ∨ rIn K false x y H Q ∨ ∃ i j, x = .str i ∧ y = .str j ∧ Q (.bl (!(Builtin.Str.occurrences j i 0 j.length 1).isEmpty)) H
  | .NotIn => fun x y H Q => rNotInN P w K x y H Q ∨ rNotInK x y H Q ∨ rNotInD K x y H Q ∨ rIn K true x y H Q ∨ ∃ i j, x = .str i ∧ y = .str j ∧ Q (.bl (!(!(Builtin.Str.occurrences j i 0 j.length 1).isEmpty))) H
  | .Is => fun x y H Q => (y = .non ∧ Q (.bl (decide (x = .non))) H) ∨ rIsB x y H Q
  | .IsNot => fun x y H Q => (y = .non ∧ Q (.bl (!decide (x = .non))) H) ∨ rNotB x y H Q
theorem op_cmp (hu : X.A.units + 65 < cLine) : ∀ op, OpR X (compareOp op) (rCmp X.prog X.w X.K op)
  | .Eq => op_eqD (by omega)
  | .NotEq => op_neD (by omega)
  | .Lt => OpR.or op_lt (OpR.or (op_ltT (by omega)) (OpR.or op_lt_str (op_ltA hu)))
  | .LtE => op_le
  | .Gt => op_gt
  | .GtE => op_ge
  | .In => OpR.or (op_inN (by omega)) <| OpR.or (op_inK (by omega)) <| OpR.or (op_inD hu) (OpR.or op_in_seq op_in_str)
  | .NotIn => OpR.or (op_notInN (by omega)) <| OpR.or (op_notInK (by omega)) <| OpR.or (op_notInD hu) (OpR.or op_notIn_seq op_notIn_str)
  | .Is => OpR.or op_isN op_isBl
  | .IsNot => OpR.or op_notN op_notBl
end
end Ev

/-! Part B3: the operators' readings from the plain reckoning. -/
namespace Ev
open PySem PySem.Spec PyProof.Rows L2
section
variable {G : GC} {H H' : Hp} {v : V} {d : D} {F : List Addr}
/-- the outermost list, if it is one, is new -/
def TopNew (H : Hp) (v : V) (d : D) (F : List Addr) : Prop := d.isL = true → ∃ a F', v = .ref a ∧ F = a :: F' ∧ H a = none ∧ a ∉ F'
theorem pureV_eq : ∀ {kds : List (Key × D)}, pureV kds = pureAll (kds.map Prod.snd)
  | [] => rfl
  | (x, d) :: r => by
    rw [pureV, pureV_eq]
    rfl
theorem Rep.ep_inner (r : Rep G H' v d F) (h : d.ep = true) : innF d F = [] := by
  cases r with
  | lst e rs =>
    have := rs.pure_nil (by simpa [D.ep] using h)
    subst this
    rfl
  | tup s rs =>
    have := rs.pure_nil (by simpa [D.ep, D.pure] using h)
    subst this
    rfl
  | dct e m rs =>
    have := rs.pure_nil (by rw [← pureV_eq]; simpa [D.ep] using h)
    subst this
    rfl
  | dcn e m ks rs =>
    have := rs.pure_nil (by rw [← pureN_eq]; simpa [D.ep] using h)
    subst this
    rfl
  | _ => rfl
theorem FrOk.one (r : Rep G H' v d F) (h : d.ep = true) (t : TopNew H v d F) : FrOk 1 H v d F := by
  cases hL : d.isL with
  | false =>
    have e : F = [] := by
      have := r.ep_inner h
      unfold innF at this
      rw [hL] at this
      simpa using this
    subst e
    exact FrOk.noL 1 hL fun _ => ⟨List.nodup_nil, fun a ha => nomatch ha⟩
  | true =>
    obtain ⟨a, F', e1, e2, e3, e4⟩ := t hL
    have e : F' = [] := by
      have := r.ep_inner h
      unfold innF at this
      rw [hL, e2] at this
      simpa using this
    subst e
    subst e2
    exact ⟨fun _ => ⟨by simp, fun b hb => by
      rw [List.mem_singleton] at hb
      rw [hb]
      exact e3⟩, fun _ _ => ⟨a, [], e1, rfl, e3, e4⟩⟩
theorem FrOk.of_fr1 {t : Nat} (r : Rep G H' v d F) (ht : TyOk t d) (tn : TopNew H v d F) : FrOk (fr1 t) H v d F := by
  unfold fr1
  split
  · rename_i h
    exact FrOk.one r (by
      have := TyOk.mono h ht
      exact this) tn
  · exact ⟨fun e => (by omega), fun _ => tn⟩
theorem Rs.mk0 {ty fr : Nat} {a1 a2 : Al} {σ : Sg} {Fs : Nat → List Addr} (s : Same H H') (r : Rep G H' v d F) (ht : TyOk ty d) (hf : FrOk fr H v d F)
    (h1 : ¬ fr ≤ 1 → ∀ a ∈ F, H a = none ∨ InAl σ Fs a1 a) (h2 : ¬ fr ≤ 1 → ∀ a ∈ innF d F, H a = none ∨ InAl σ Fs a2 a) : Rs G ty fr (al0 fr a1, al0 fr a2) σ Fs H v d F H' := by
  refine ⟨s, r, ht, hf, ?_, ?_⟩
  · by_cases e : fr ≤ 1
    · exact fun a ha => .inl ((hf.1 e).2 a ha)
    · intro a ha
      have := h1 e a ha
      show H a = none ∨ InAl σ Fs (al0 fr a1) a
      rw [al0, if_neg e]
      exact this
  · by_cases e : fr ≤ 1
    · exact fun a ha => .inl ((hf.1 e).2 a (innF_sub ha))
    · intro a ha
      have := h2 e a ha
      show H a = none ∨ InAl σ Fs (al0 fr a2) a
      rw [al0, if_neg e]
      exact this
theorem FrOk.back {k : Nat} {H1 : Hp} (s : Same H H1) (h : FrOk k H1 v d F) : FrOk k H v d F :=
  ⟨fun e => ⟨(h.1 e).1, fun a ha => s.free ((h.1 e).2 a ha)⟩, fun e e' => by
    obtain ⟨a, F', e1, e2, e3, e4⟩ := h.2 e e'
    exact ⟨a, F', e1, e2, s.free e3, e4⟩⟩
theorem TopNew.back {H1 : Hp} (s : Same H H1) (h : TopNew H1 v d F) : TopNew H v d F := fun e' => by
    obtain ⟨a, F', e1, e2, e3, e4⟩ := h e'
    exact ⟨a, F', e1, e2, s.free e3, e4⟩
theorem same_laid {p : Addr} {o : HO} (h : H p = none) : Same H (upd H p o) := fun b x e => by
  rw [upd_ne (ne_of_none e h)]
  exact e
theorem Reps.laid {vs : List V} {ds : List D} {p : Addr} {o : HO} (r : Reps G H vs ds F) (h : H p = none) : Reps G (upd H p o) vs ds F := r.same (same_laid h)
theorem Rep.laid {p : Addr} {o : HO} (r : Rep G H v d F) (h : H p = none) : Rep G (upd H p o) v d F := r.same (same_laid h)
theorem notin_none {p : Addr} {vs : List V} {ds : List D} (r : Reps G H vs ds F) (h : H p = none) : p ∉ F := fun m => by
  obtain ⟨o, e⟩ := r.there p m
  rw [h] at e
  cases e
end
section
variable {G : GC} {H : Hp} {x y : V} {da db d : D} {Fa Fb : List Addr} {Q : VK}
/-- what an operator hands on -/
def BinPost (G : GC) (H : Hp) (da db d : D) (Fa Fb : List Addr) (Q : VK) : Prop :=
  ∀ v H' F, Same H H' → Rep G H' v d F → TopNew H v d F → (∀ a ∈ F, H a = none ∨ a ∈ innF da Fa ∨ a ∈ innF db Fb) → Q v H'
theorem BinPost.pure {v : V} (q : BinPost G H da db d Fa Fb Q) (r : Rep G H v d []) (h : d.isL = false) : Q v H :=
  q v H [] (Same.refl H) r (fun e => by rw [h] at e; cases e) fun a ha => nomatch ha
theorem cmulW {i j : Int} (h : mulOk i j = true) : CMulW i j := by
  unfold CMulW
  exact of_decide_eq_true h
theorem cdivW {i j : Int} (h : divOk j = true) : CDivW i j := by
  unfold divOk at h
  rw [Bool.and_eq_true] at h
  exact ⟨of_decide_eq_true h.1, of_decide_eq_true h.2⟩
theorem cpow {i j : Int} (h : powOk i j = true) : CPow i j := by
  unfold powOk at h
  rw [Bool.and_eq_true, Bool.and_eq_true] at h
  exact ⟨of_decide_eq_true h.1.1, of_decide_eq_true h.1.2, of_decide_eq_true h.2⟩
theorem inn_tup {ds : List D} : innF (.tup ds) F = F := rfl
theorem inn_lst {ds : List D} {a : Addr} {F : List Addr} : innF (.lst ds) (a :: F) = F := rfl
theorem Reps.nil_iff {vs : List V} {ds : List D} {F : List Addr} (r : Reps G H vs ds F) : vs = [] ↔ ds = [] := by
  have := r.length
  constructor
  · intro e
    subst e
    exact List.length_eq_zero_iff.mp (by simpa using this.symm)
  · intro e
    subst e
    exact List.length_eq_zero_iff.mp (by simpa using this)
theorem Reps.rep {k : Nat} : ∀ {ds : List D} {vs : List V} {F : List Addr}, Reps G H vs ds F → pureAll ds = true → Reps G H (List.replicate k vs).flatten (List.replicate k ds).flatten [] := by
  intro ds vs F r h
  have e := r.pure_nil h
  subst e
  induction k with
  | zero => exact .nil
  | succ k ih =>
    rw [List.replicate_succ, List.replicate_succ, List.flatten_cons, List.flatten_cons]
    exact Reps.append r ih
theorem repOk_ok {xs : List D} {k : Int} (h : repOk xs k = true) : xs ≠ [] ∧ 2 ≤ k ∧ k ≤ 1000 ∧ xs.length ≤ 1000 ∧ pureAll xs = true := by
  unfold repOk at h
  rw [Bool.and_eq_true, Bool.and_eq_true, Bool.and_eq_true, Bool.and_eq_true] at h
  obtain ⟨h1, h2, h3, h4, h5⟩ := h
  refine ⟨fun e => ?_, of_decide_eq_true h2, of_decide_eq_true h3, of_decide_eq_true h4, h5⟩
  subst e
  cases h1
theorem bin_ok {op : Operator} (h : binD op da db = .ok d) (ra : Rep G H x da Fa) (rb : Rep G H y db Fb) (q : BinPost G H da db d Fa Fb Q) : rBin G.K op x y H Q := by
  unfold binD at h
  split at h
  · cases ra; cases rb; cases h
    exact .inl ⟨_, _, rfl, rfl, q.pure (.int _) rfl⟩
  · rename_i xs ys
    obtain ⟨_, hc, h⟩ := bind_ok h
    have hz := of_decide_eq_true (chk_ok hc)
    cases h
    cases ra with
    | tup sa qa =>
    cases rb with
    | tup sb qb =>
    refine .inr (.inl ⟨_, _, _, _, rfl, rfl, sa, sb, by rw [qa.length, qb.length]; exact hz, fun e => ?_, fun _ e => ?_, fun _ _ p hp => ?_⟩)
    · have e' := qa.nil_iff.mp e
      subst e'
      refine q _ _ Fb (Same.refl H) (.tup sb qb) (fun e => nomatch e) fun a ha => .inr (.inr ha)
    · have e' := qb.nil_iff.mp e
      subst e'
      rw [List.append_nil] at q
      refine q _ _ Fa (Same.refl H) (.tup sa qa) (fun e => nomatch e) fun a ha => .inr (.inl ha)
    · refine q _ _ (Fa ++ Fb) (same_laid hp) (.tup (SqT.of upd_same) (Reps.append (qa.laid hp) (qb.laid hp))) (fun e => nomatch e) fun a ha => ?_
      rcases List.mem_append.mp ha with ha | ha
      · exact .inr (.inl ha)
      · exact .inr (.inr ha)
  · obtain ⟨_, hc, h⟩ := bind_ok h
    have hz := of_decide_eq_true (chk_ok hc)
    cases h
    cases ra with
    | lst sa qa =>
    cases rb with
    | lst sb qb =>
    refine .inr (.inr (.inl ⟨_, _, _, _, rfl, rfl, sa, sb, by rw [qa.length, qb.length]; exact hz, fun p hp => ?_⟩))
    have qq := Reps.append qa qb
    refine q _ _ _ (same_laid hp) (.lst upd_same (qq.laid hp)) (fun _ => ⟨p, _, rfl, rfl, hp, notin_none qq hp⟩) fun a ha => ?_
    rcases List.mem_cons.mp ha with rfl | ha
    · exact .inl hp
    · rcases List.mem_append.mp ha with ha | ha
      · exact .inr (.inl ha)
      · exact .inr (.inr ha)
  · obtain ⟨_, hc, h⟩ := bind_ok h
    have hz := of_decide_eq_true (chk_ok hc)
    cases ra; cases rb; cases h
    exact .inr (.inr (.inr ⟨_, _, rfl, rfl, hz, q.pure (.str _) rfl⟩))
  · cases ra; cases rb; cases h
    exact ⟨_, _, rfl, rfl, q.pure (.int _) rfl⟩
  · obtain ⟨_, hc, h⟩ := bind_ok h
    cases ra; cases rb; cases h
    exact .inl ⟨_, _, rfl, rfl, cmulW (chk_ok hc), q.pure (.int _) rfl⟩
  · obtain ⟨_, hc, h⟩ := bind_ok h
    cases ra; cases rb; cases h
    exact ⟨_, _, rfl, rfl, cdivW (chk_ok hc), q.pure (.int _) rfl⟩
  · obtain ⟨_, hc, h⟩ := bind_ok h
    cases ra; cases rb; cases h
    exact ⟨_, _, rfl, rfl, of_decide_eq_true (chk_ok hc), q.pure (.int _) rfl⟩
  · obtain ⟨_, hc, h⟩ := bind_ok h
    cases ra; cases rb; cases h
    exact ⟨_, _, rfl, rfl, cpow (chk_ok hc), q.pure (.int _) rfl⟩
  · obtain ⟨_, hc, h⟩ := bind_ok h
    cases ra; cases rb; cases h
    exact ⟨_, _, rfl, rfl, cpow (chk_ok hc), q.pure (.int _) rfl⟩
  · obtain ⟨_, hc, h⟩ := bind_ok h
    cases ra; cases rb; cases h
    exact ⟨_, _, rfl, rfl, of_decide_eq_true (chk_ok hc), q.pure (.int _) rfl⟩
  · cases ra; cases rb; cases h
    exact ⟨_, _, rfl, rfl, q.pure (.int _) rfl⟩
  · cases ra; cases rb; cases h
    exact ⟨_, _, rfl, rfl, q.pure (.int _) rfl⟩
  · cases ra; cases rb; cases h
    exact ⟨_, _, rfl, rfl, q.pure (.int _) rfl⟩
  · rename_i xs k
    obtain ⟨_, hc, h⟩ := bind_ok h
    have hz := chk_ok hc
    rw [Bool.and_eq_true, Bool.and_eq_true, Bool.and_eq_true] at hz
    obtain ⟨⟨⟨h1, h2⟩, h3⟩, h4⟩ := hz
    cases h
    cases rb
    cases ra with
    | lst sa qa =>
    refine .inr (.inl ⟨_, _, _, rfl, rfl, sa, of_decide_eq_true h1, of_decide_eq_true h2, by rw [qa.length]; exact of_decide_eq_true h3, fun p hp => ?_⟩)
    have qq := Reps.rep (k := k.toNat) qa h4
    refine q _ _ _ (same_laid hp) (.lst upd_same (qq.laid hp)) (fun _ => ⟨p, _, rfl, rfl, hp, notin_none qq hp⟩) fun a ha => ?_
    rcases List.mem_cons.mp ha with rfl | ha
    · exact .inl hp
    · exact nomatch ha
  · rename_i xs k
    obtain ⟨_, hc, h⟩ := bind_ok h
    obtain ⟨h1, h2, h3, h4, h5⟩ := repOk_ok (chk_ok hc)
    cases h
    cases rb
    cases ra with
    | tup sa qa =>
    refine .inr (.inr ⟨_, _, _, rfl, rfl, sa, fun e => h1 (qa.nil_iff.mp e), h2, h3, by rw [qa.length]; exact h4, fun p hp => ?_⟩)
    have qq := Reps.rep (k := k.toNat) qa h5
    exact q _ _ _ (same_laid hp) (.tup (SqT.of upd_same) (qq.laid hp)) (fun e => nomatch e) fun a ha => nomatch ha
  · cases h
theorem pureAll_append : ∀ {xs ys : List D}, pureAll (xs ++ ys) = (pureAll xs && pureAll ys)
  | [], ys => by simp [pureAll]
  | x :: xs, ys => by simp [pureAll, pureAll_append, Bool.and_assoc]
theorem pureAll_rep {xs : List D} (h : pureAll xs = true) : ∀ k, pureAll (List.replicate k xs).flatten = true
  | 0 => rfl
  | k + 1 => by
    rw [List.replicate_succ, List.flatten_cons, pureAll_append, h, pureAll_rep h k]
    rfl
/-- its kind -/
theorem bin_ty {sg ms : Nat → Sig} {kd : Nat → Nat} {op : Operator} {a b : IE} (h : binD op da db = .ok d) (ta : TyOk (tyE sg ms a kd) da) (tb : TyOk (tyE sg ms b kd) db) : TyOk (tyE sg ms (.bin op a b) kd) d := by
  unfold binD at h
  split at h
  · cases h; exact TyOk.pure rfl _
  · obtain ⟨_, hc, h⟩ := bind_ok h
    cases h
    have t1 := TyOk.mono (Nat.le_max_left _ (tyE sg ms b kd)) ta
    have t2 := TyOk.mono (Nat.le_max_right (tyE sg ms a kd) _) tb
    show TyOk (max (tyE sg ms a kd) (tyE sg ms b kd)) _
    generalize max (tyE sg ms a kd) (tyE sg ms b kd) = n at t1 t2
    match n with
    | 0 => simp [TyOk, D.pure] at t1 t2 ⊢; simp [pureAll_append, t1, t2]
    | 1 => simp [TyOk, D.ep, D.pure] at t1 t2 ⊢; simp [pureAll_append, t1, t2]
    | _ + 2 => trivial
  · obtain ⟨_, hc, h⟩ := bind_ok h
    cases h
    have t1 := TyOk.mono (Nat.le_max_left _ (tyE sg ms b kd)) ta
    have t2 := TyOk.mono (Nat.le_max_right (tyE sg ms a kd) _) tb
    show TyOk (max (tyE sg ms a kd) (tyE sg ms b kd)) _
    generalize max (tyE sg ms a kd) (tyE sg ms b kd) = n at t1 t2
    match n with
    | 0 => simp [TyOk, D.pure] at t1
    | 1 => simp [TyOk, D.ep, D.pure] at t1 t2 ⊢; simp [pureAll_append, t1, t2]
    | _ + 2 => trivial
  · obtain ⟨_, hc, h⟩ := bind_ok h
    cases h; exact TyOk.pure rfl _
  · cases h; exact TyOk.pure rfl _
  · obtain ⟨_, hc, h⟩ := bind_ok h
    cases h; exact TyOk.pure rfl _
  · obtain ⟨_, hc, h⟩ := bind_ok h
    cases h; exact TyOk.pure rfl _
  · obtain ⟨_, hc, h⟩ := bind_ok h
    cases h; exact TyOk.pure rfl _
  · obtain ⟨_, hc, h⟩ := bind_ok h
    cases h; exact TyOk.pure rfl _
  · obtain ⟨_, hc, h⟩ := bind_ok h
    cases h; exact TyOk.pure rfl _
  · obtain ⟨_, hc, h⟩ := bind_ok h
    cases h; exact TyOk.pure rfl _
  · cases h; exact TyOk.pure rfl _
  · cases h; exact TyOk.pure rfl _
  · cases h; exact TyOk.pure rfl _
  · obtain ⟨_, hc, h⟩ := bind_ok h
    have hz := chk_ok hc
    rw [Bool.and_eq_true] at hz
    cases h
    have t1 := TyOk.mono (Nat.le_max_left _ (tyE sg ms b kd)) ta
    show TyOk (max (tyE sg ms a kd) (tyE sg ms b kd)) _
    generalize max (tyE sg ms a kd) (tyE sg ms b kd) = n at t1
    match n with
    | 0 => simp [TyOk, D.pure] at t1
    | 1 => simp [TyOk, D.ep]; exact pureAll_rep hz.2 _
    | _ + 2 => trivial
  · obtain ⟨_, hc, h⟩ := bind_ok h
    have hz := (repOk_ok (chk_ok hc)).2.2.2.2
    cases h
    exact TyOk.pure (d := .tup _) (pureAll_rep hz _) _
  · cases h
/-! ### comparisons -/
theorem flat_eqv {u w : V} {a b : D} {F1 F2 : List Addr} (r1 : Rep G H u a F1) (r2 : Rep G H w b F2) (h1 : flatD a = true) (h2 : flatD b = true) : eqV u w = a.eqv b ∧ flatV u = true := by
  cases r1 <;> simp [flatD] at h1 <;> cases r2 <;> simp [flatD] at h2 <;> simp [eqV, D.eqv, D.toP, PyData.eqv, flatV]
theorem flat_any {w : V} {b : D} {F2 : List Addr} (r2 : Rep G H w b F2) (h2 : flatD b = true) : ∀ {vs : List V} {ds : List D} {F : List Addr}, Reps G H vs ds F → ds.all flatD = true → inV w vs = anyEqv b ds ∧ vs.all flatV = true
  | _, _, _, .nil, _ => ⟨rfl, rfl⟩
  | _, _, _, .cons r rs, h => by
    rw [List.all_cons, Bool.and_eq_true] at h
    obtain ⟨e1, e2⟩ := flat_any r2 h2 rs h.2
    obtain ⟨e3, e4⟩ := flat_eqv r r2 h.1 h2
    refine ⟨?_, ?_⟩
    · show (eqV _ w || inV w _) = (PyData.eqv _ b.toP || anyEqv b _)
      rw [e1, e3]
    · rw [List.all_cons, e4, e2]
      rfl
theorem lt_ok {k : Bool} (h : ltD da db = .ok k) (ra : Rep G H x da Fa) (rb : Rep G H y db Fb) (q : Q (.bl k) H) : rCmp G.P G.w G.K .Lt x y H Q := by
  unfold ltD at h
  split at h
  · cases ra; cases rb; cases h
    exact .inl ⟨_, _, rfl, rfl, q⟩
  · split at h
    · rename_i h1 h2
      cases h
      cases ra with
      | tup sa qa =>
      cases rb with
      | tup sb qb =>
      obtain ⟨e1, _⟩ := qa.ints h1
      obtain ⟨e2, _⟩ := qb.ints h2
      subst e1
      subst e2
      exact .inr (.inl ⟨_, _, _, _, rfl, rfl, sa, sb, q⟩)
    · obtain ⟨_, hc, h⟩ := bind_ok h
      have hz := chk_ok hc
      rw [Bool.and_eq_true, Bool.and_eq_true] at hz
      cases h
      exact .inr (.inr (.inr ⟨_, _, ra.dps hz.1, rb.dps hz.2.1, hz.1, hz.2.2, (fun e => by cases e), q⟩))
  · cases ra; cases rb; cases h
    exact .inr (.inr (.inl ⟨_, _, rfl, rfl, q⟩))
  · cases h
theorem in_ok {k : Bool} (h : inD da db = .ok k) (ra : Rep G H x da Fa) (rb : Rep G H y db Fb) :
    (Q (.bl k) H → rCmp G.P G.w G.K .In x y H Q) ∧ (Q (.bl (!k)) H → rCmp G.P G.w G.K .NotIn x y H Q) := by
  unfold inD at h
  split at h
  · rename_i ys
    obtain ⟨_, hc, h⟩ := bind_ok h
    have hz := chk_ok hc
    rw [Bool.and_eq_true] at hz
    cases h
    have d1 := ra.dps hz.1
    have d2 := rb.dps hz.2
    exact ⟨fun q => .inr (.inr (.inl ⟨_, _, d1, d2, hz.1, hz.2, q⟩)), fun q => .inr (.inr (.inl ⟨_, _, d1, d2, hz.1, hz.2, q⟩))⟩
  · rename_i ys
    obtain ⟨_, hc, h⟩ := bind_ok h
    have hz := chk_ok hc
    rw [Bool.and_eq_true] at hz
    cases h
    cases rb with
    | tup sb qb =>
    obtain ⟨e1, e2⟩ := flat_any ra hz.1 qb hz.2
    have e3 := (flat_eqv ra ra hz.1 hz.1).2
    rw [← e1]
    exact ⟨fun q => .inr (.inr (.inr (.inl ⟨_, _, rfl, .inr sb, e3, e2, q⟩))), fun q => .inr (.inr (.inr (.inl ⟨_, _, rfl, .inr sb, e3, e2, q⟩)))⟩
  · split at h
    · cases ra; cases rb; cases h
      exact ⟨fun q => .inr (.inr (.inr (.inr ⟨_, _, rfl, rfl, q⟩))), fun q => .inr (.inr (.inr (.inr ⟨_, _, rfl, rfl, q⟩)))⟩
    · cases h
  · split at h
    · rename_i kds q hq
      cases h
      cases rb with
      | dct e m r =>
      obtain ⟨e1, _⟩ := key_rep ra hq
      subst e1
      rw [← val_none m]
      exact ⟨fun q => .inr (.inl ⟨_, _, rfl, DGet.k e, q⟩), fun q => .inr (.inl ⟨_, _, rfl, DGet.k e, q⟩)⟩
    · obtain ⟨_, hc, h⟩ := bind_ok h
      have hz := chk_ok hc
      rw [Bool.and_eq_true] at hz
      cases h
      obtain ⟨q, hq⟩ := Option.isSome_iff_exists.mp hz.2
      obtain ⟨b, e1, hk, _⟩ := nk_rep ra hq
      subst e1
      have e0 := List.isEmpty_iff.mp hz.1
      subst e0
      cases rb with
      | dct e m r =>
      obtain ⟨_, _, nd⟩ := dct_nd (Rep.dct e m r)
      exact ⟨fun q => .inl ⟨_, none, rfl, ⟨_, _, _, nd, rfl, hk, rfl⟩, q⟩, fun q => .inl ⟨_, none, rfl, ⟨_, _, _, nd, rfl, hk, rfl⟩, q⟩⟩
  · split at h
    · rename_i kds q hq
      cases h
      obtain ⟨b, e1, hk, _⟩ := nk_rep ra hq
      subst e1
      cases rb with
      | dcn e m ks r =>
      obtain ⟨xs, F', _, nd, m2, _, _⟩ := dcn_nd (Rep.dcn e m ks r)
      rw [← valN_none m2]
      exact ⟨fun q => .inl ⟨_, _, rfl, ⟨_, _, _, nd, rfl, hk, rfl⟩, q⟩, fun q => .inl ⟨_, _, rfl, ⟨_, _, _, nd, rfl, hk, rfl⟩, q⟩⟩
    · cases h
  · cases h
theorem is_ok {k : Bool} (h : isD da db = .ok k) (ra : Rep G H x da Fa) (rb : Rep G H y db Fb) :
    (Q (.bl k) H → rCmp G.P G.w G.K .Is x y H Q) ∧ (Q (.bl (!k)) H → rCmp G.P G.w G.K .IsNot x y H Q) := by
  unfold isD at h
  split at h
  · cases ra; cases rb; cases h
    exact ⟨fun q => .inl ⟨rfl, q⟩, fun q => .inl ⟨rfl, q⟩⟩
  · rename_i hn
    cases rb; cases h
    have e : decide (x = V.non) = false := decide_eq_false fun e => by
      subst e
      cases ra
      exact hn rfl
    exact ⟨fun q => .inl ⟨rfl, by rw [e]; exact q⟩, fun q => .inl ⟨rfl, by rw [e]; exact q⟩⟩
  · cases ra; cases rb; cases h
    exact ⟨fun q => .inr ⟨_, _, rfl, rfl, q⟩, fun q => .inr ⟨_, _, rfl, rfl, q⟩⟩
  · cases h
theorem cmp_ok {op : CmpOp} {k : Bool} (h : cmpD op da db = .ok k) (ra : Rep G H x da Fa) (rb : Rep G H y db Fb) (q : Q (.bl k) H) : rCmp G.P G.w G.K op x y H Q := by
  unfold cmpD at h
  split at h
  · obtain ⟨_, hc, h⟩ := bind_ok h
    have hz := chk_ok hc
    rw [Bool.and_eq_true] at hz
    cases h
    exact ⟨_, _, ra.dps hz.1, rb.dps hz.2, hz.1, hz.2, q⟩
  · obtain ⟨_, hc, h⟩ := bind_ok h
    have hz := chk_ok hc
    rw [Bool.and_eq_true] at hz
    cases h
    exact ⟨_, _, ra.dps hz.1, rb.dps hz.2, hz.1, hz.2, q⟩
  · exact lt_ok h ra rb q
  · cases ra; cases rb; cases h
    exact ⟨_, _, rfl, rfl, q⟩
  · cases ra; cases rb; cases h
    exact ⟨_, _, rfl, rfl, q⟩
  · cases ra; cases rb; cases h
    exact ⟨_, _, rfl, rfl, q⟩
  · exact (in_ok h ra rb).1 q
  · obtain ⟨k', h1, h2⟩ := bind_ok h
    cases h2
    exact (in_ok h1 ra rb).2 q
  · exact (is_ok h ra rb).1 q
  · obtain ⟨k', h1, h2⟩ := bind_ok h
    cases h2
    exact (is_ok h1 ra rb).2 q
  · cases h
theorem isEmpty_len {α β : Type} {xs : List α} {ys : List β} (h : xs.length = ys.length) : xs.isEmpty = ys.isEmpty := by
  cases xs <;> cases ys <;> simp at h ⊢
theorem truth_ok {k : Bool} (h : truth d = .ok k) (r : Rep G H x d Fa) : TruV G.K x H k := by
  cases r with
  | non => cases h; rfl
  | bl b => cases h; rfl
  | int i => cases h; rfl
  | str s =>
    obtain ⟨_, hc, h⟩ := bind_ok h
    cases h
    exact ⟨of_decide_eq_true (chk_ok hc), rfl⟩
  | tup s q =>
    cases h
    refine .inr (.inl ⟨_, s, ?_⟩)
    rw [isEmpty_len q.length]
  | lst e q =>
    cases h
    refine .inl ⟨_, SqL.of e, ?_⟩
    rw [isEmpty_len q.length]
  | dct e m r =>
    cases h
    refine .inr (.inr ⟨_, e, ?_⟩)
    rw [isEmpty_len (by simpa using (congrArg List.length m).symm)]
  | scr s =>
    cases h
    refine .inl ⟨_, s.sql, ?_⟩
    rw [isEmpty_len (List.length_map ..)]
  | ins e => cases h
  | dcn e m ks r => cases h
end
end Ev

/-! Part B4: subscripts, slices, built-ins, what is walked. -/
namespace Ev
open PySem PySem.Spec PyProof.Rows L2
section
variable {G : GC} {H : Hp} {x y : V} {da db d : D} {Fa Fb : List Addr} {Q : VK}
theorem atI_of {α : Type} {xs : List α} {i : Int} {v : α} (h : getAt xs i = .ok v) : atI xs i = some v := by
  unfold getAt at h
  split at h
  · rename_i e
    cases h
    exact e
  · cases h
theorem ixN_len {α β : Type} {xs : List α} {ys : List β} (h : xs.length = ys.length) {i : Int} {d : β} (e : atI ys i = some d) : ∃ (j : Nat), ys[j]? = some d ∧ ∀ v, xs[j]? = some v → atI xs i = some v := by
  unfold atI at e ⊢
  rw [h]
  cases q : ixN ys.length i with
  | none => rw [q] at e; cases e
  | some j =>
    rw [q] at e
    exact ⟨j, e, fun v hv => hv⟩
theorem Reps.at {vs : List V} {ds : List D} {F : List Addr} (r : Reps G H vs ds F) {i : Int} {d : D} (e : atI ds i = some d) : ∃ v F', atI vs i = some v ∧ Rep G H v d F' ∧ ∀ a ∈ F', a ∈ F := by
  obtain ⟨j, e1, e2⟩ := ixN_len r.length e
  obtain ⟨v, F', e3, r', s⟩ := r.get e1
  exact ⟨v, F', e2 v e3, r', s⟩
theorem idx_ok (h : idxD da db = .ok d) (ra : Rep G H x da Fa) (rb : Rep G H y db Fb)
    (hk : ∀ kvs, da ≠ .dct kvs) (hk2 : ∀ kvs, da ≠ .dcn kvs) (q : ∀ v F, Rep G H v d F → (∀ a ∈ F, a ∈ innF da Fa) → Q v H) : rIx G.K x y H Q := by
  unfold idxD at h
  split at h
  · cases rb
    cases ra with
    | lst e r =>
      obtain ⟨v, F', e1, r', s⟩ := r.at (atI_of h)
      exact .inl ⟨_, _, _, v, rfl, rfl, SqL.of e, e1, q v F' r' s⟩
  · cases rb
    cases ra with
    | tup e r =>
      obtain ⟨v, F', e1, r', s⟩ := r.at (atI_of h)
      exact .inr (.inl ⟨_, _, _, v, rfl, rfl, e, e1, q v F' r' s⟩)
  · cases rb
    obtain ⟨n, h1, h2⟩ := bind_ok h
    cases h2
    cases ra with
    | scr s =>
      have e := atI_of h1
      obtain ⟨j, e1, e2⟩ := ixN_len (xs := List.map V.int _) (List.length_map ..) e
      refine .inl ⟨_, _, _, .int n, rfl, rfl, s.sql, e2 _ ?_, q _ [] (.int n) fun a ha => nomatch ha⟩
      rw [List.getElem?_map, e1]
      rfl
  · cases rb
    obtain ⟨_, hc, h⟩ := bind_ok h
    obtain ⟨c, h1, h2⟩ := bind_ok h
    cases h2
    cases ra
    exact .inr (.inr ⟨_, _, c, rfl, rfl, of_decide_eq_true (chk_ok hc), atI_of h1, q _ [] (.str _) fun a ha => nomatch ha⟩)
  · exact absurd rfl (hk _)
  · exact absurd rfl (hk2 _)
  · cases h
theorem idx_dcn {kds : List (D × D)} (h : idxD (.dcn kds) db = .ok d) (ra : Rep G H x (.dcn kds) Fa) (rb : Rep G H y db Fb)
    (q : ∀ v F, Rep G H v d F → (∀ a ∈ F, a ∈ innF (.dcn kds) Fa) → Q v H) : ∃ a v, x = .ref a ∧ NGet G.P G.w G.K H a y (some v) ∧ Q v H := by
  have h : (match nkT db with
    | some q => match valN q kds with
      | some v => R.ok v
      | none => .bad
    | none => .bad) = .ok d := h
  split at h
  · rename_i k hk
    split at h
    · rename_i v' hv
      cases h
      have hp : ∃ a, x = .ref a := by
        cases ra with
        | dcn e m ks rr => exact ⟨_, rfl⟩
      obtain ⟨a, rfl⟩ := hp
      obtain ⟨xs, F', eF, nd, m2, _, r⟩ := dcn_nd ra
      subst eF
      obtain ⟨b, e1, hb, _⟩ := nk_rep rb hk
      subst e1
      obtain ⟨v, F2, g1, g2, g3⟩ := valN_rep m2 r hv
      exact ⟨a, v, rfl, ⟨xs, k, b, nd, rfl, hb, g1.symm⟩, q v F2 g2 g3⟩
    · cases h
  · cases h
theorem valN_mem {q : NestedKey} {d : D} : ∀ {kds : List (D × D)}, valN q kds = some d → d ∈ kds.map Prod.snd
  | (x, e) :: r, h => by
    unfold valN at h
    split at h
    · cases h
      exact List.mem_cons_self ..
    · exact List.mem_cons_of_mem _ (valN_mem h)
theorem idx_dct {kds : List (Key × D)} (h : idxD (.dct kds) db = .ok d) (ra : Rep G H x (.dct kds) Fa) (rb : Rep G H y db Fb)
    (q : ∀ v F, Rep G H v d F → (∀ a ∈ F, a ∈ innF (.dct kds) Fa) → Q v H) : ∃ a v, x = .ref a ∧ DGet H a y (some v) ∧ Q v H := by
  have h : (match keyOf db with
    | some q => match valD q kds with
      | some v => R.ok v
      | none => .bad
    | none => .bad) = .ok d := h
  split at h
  · rename_i k hk
    split at h
    · rename_i v' hv
      cases h
      cases ra with
      | dct e m r =>
      obtain ⟨e1, _⟩ := key_rep rb hk
      subst e1
      obtain ⟨v, F', g1, g2, g3⟩ := val_rep m r hv
      exact ⟨_, v, rfl, by rw [← g1]; exact DGet.k e, q v F' g2 g3⟩
    · cases h
  · cases h
theorem valD_mem {q : Key} {d : D} : ∀ {kds : List (Key × D)}, valD q kds = some d → d ∈ kds.map Prod.snd
  | (x, e) :: r, h => by
    unfold valD at h
    split at h
    · cases h
      exact List.mem_cons_self ..
    · exact List.mem_cons_of_mem _ (valD_mem h)
theorem mem_pureAll : ∀ {ds : List D} {d : D}, pureAll ds = true → d ∈ ds → d.pure = true
  | x :: xs, d, h, m => by
    have h' := by simpa [pureAll] using h
    rcases List.mem_cons.mp m with rfl | m
    · exact h'.1
    · exact mem_pureAll h'.2 m
theorem pureAll_mem : ∀ {ds : List D}, (∀ d ∈ ds, d.pure = true) → pureAll ds = true
  | [], _ => rfl
  | x :: xs, h => by
    rw [pureAll, h x (List.mem_cons_self ..), pureAll_mem fun d hd => h d (List.mem_cons_of_mem _ hd)]
    rfl
theorem getAt_mem {α : Type} {xs : List α} {i : Int} {v : α} (h : getAt xs i = .ok v) : v ∈ xs := by
  obtain ⟨j, _, e, _⟩ := atI_get (atI_of h)
  exact List.mem_of_getElem? e
theorem idx_ty {t : Nat} (h : idxD da db = .ok d) (ta : TyOk t da) : TyOk (if t ≤ 1 then 0 else 2) d := by
  split
  · rename_i ht
    have ta := TyOk.mono ht ta
    unfold idxD at h
    split at h
    · exact mem_pureAll (by simpa [TyOk, D.ep] using ta) (getAt_mem h)
    · exact mem_pureAll (by simpa [TyOk, D.ep, D.pure] using ta) (getAt_mem h)
    · obtain ⟨n, h1, h2⟩ := bind_ok h
      cases h2
      rfl
    · obtain ⟨_, hc, h⟩ := bind_ok h
      obtain ⟨c, h1, h2⟩ := bind_ok h
      cases h2
      rfl
    · split at h
      · split at h
        · rename_i hv
          cases h
          exact mem_pureAll (by rw [← pureV_eq]; simpa [TyOk, D.ep] using ta) (valD_mem hv)
        · cases h
      · cases h
    · split at h
      · split at h
        · rename_i hv
          cases h
          exact mem_pureAll (by rw [← pureN_eq]; simpa [TyOk, D.ep] using ta) (valN_mem hv)
        · cases h
      · cases h
    · cases h
  · trivial
/-! ### slices -/
theorem cut_eq {xs : List V} {lo hi : Option Int} : cutV xs lo hi = cutD xs lo hi := rfl
theorem Reps.cut {vs : List V} {ds : List D} {F : List Addr} (r : Reps G H vs ds F) (lo hi : Option Int) : ∃ F', Reps G H (cutD vs lo hi) (cutD ds lo hi) F' ∧ List.Sublist F' F := by
  obtain ⟨F1, r1, s1⟩ := r.drop (HT.sIx vs.length 0 lo)
  obtain ⟨F2, r2, s2⟩ := r1.take (HT.sIx vs.length vs.length hi - HT.sIx vs.length 0 lo)
  refine ⟨F2, ?_, s2.trans s1⟩
  unfold cutD
  rw [r.length] at r2 ⊢
  exact r2
theorem cut_whole {α : Type} {xs : List α} {lo hi : Option Int} (h : HT.sIx xs.length 0 lo = 0 ∧ HT.sIx xs.length xs.length hi = xs.length) : cutD xs lo hi = xs := by
  unfold cutD
  rw [h.1, h.2]
  simp
def rSl (K : PySem.W.Frag) : V → Option Int → Option Int → Hp → VK → Prop := fun x lo hi H Q => rSlL K x lo hi H Q ∨ rSlA K x lo hi H Q
theorem sl_any {X : Cx} : SlR X (rSl X.K) := SlR.or sl_list sl_tupA
theorem slc_ok {lo hi : Option Int} (h : slcD da lo hi = .ok d) (ra : Rep G H x da Fa)
    (q : ∀ v H' F, Same H H' → Rep G H' v d F → TopNew H v d F → (∀ a ∈ F, H a = none ∨ a ∈ innF da Fa) → Q v H') : rSl G.K x lo hi H Q := by
  unfold slcD at h
  split at h
  · cases h
    cases ra with
    | lst e r =>
    obtain ⟨F', r', s⟩ := r.cut lo hi
    refine .inl ⟨_, _, rfl, SqL.of e, fun p hp => ?_⟩
    refine q _ _ _ (same_laid hp) (.lst upd_same (r'.laid hp)) (fun _ => ⟨p, _, rfl, rfl, hp, notin_none r' hp⟩) fun a ha => ?_
    rcases List.mem_cons.mp ha with rfl | ha
    · exact .inl hp
    · exact .inr (s.subset ha)
  · cases h
    cases ra with
    | tup e r =>
    obtain ⟨F', r', s⟩ := r.cut lo hi
    refine .inr ⟨_, _, rfl, e, fun w => ?_, fun _ p hp => ?_⟩
    · have w' := w
      rw [r.length] at w'
      rw [cut_whole w'] at q
      exact q _ _ _ (Same.refl H) (.tup e r) (fun e => nomatch e) fun a ha => .inr ha
    · exact q _ _ _ (same_laid hp) (.tup (SqT.of upd_same) (r'.laid hp)) (fun e => nomatch e) fun a ha => .inr (s.subset ha)
  · rename_i ns
    cases h
    cases ra with
    | scr e =>
    refine .inl ⟨_, _, rfl, e.sql, fun p hp => ?_⟩
    have rr : Reps G (upd H p (.lst (cutV (ns.map V.int) lo hi))) (cutV (ns.map V.int) lo hi) ((cutD ns lo hi).map D.int) [] := by
      have e1 : cutV (ns.map V.int) lo hi = (cutD ns lo hi).map V.int := by
        rw [cut_eq]
        unfold cutD
        rw [List.length_map, ← List.map_drop, ← List.map_take]
      rw [e1]
      exact Reps.of_ints _
    refine q _ _ [p] (same_laid hp) (.lst upd_same rr) (fun _ => ⟨p, [], rfl, rfl, hp, by simp⟩) fun a ha => ?_
    rw [List.mem_singleton] at ha
    rw [ha]
    exact .inl hp
  · cases h
theorem pureAll_sub {xs ys : List D} (h : pureAll xs = true) (s : ∀ d ∈ ys, d ∈ xs) : pureAll ys = true := pureAll_mem fun d hd => mem_pureAll h (s d hd)
theorem cut_mem {α : Type} {xs : List α} {lo hi : Option Int} : ∀ d ∈ cutD xs lo hi, d ∈ xs := fun d hd => List.mem_of_mem_drop (List.mem_of_mem_take hd)
theorem slc_ty {t : Nat} {lo hi : Option Int} (h : slcD da lo hi = .ok d) (ta : TyOk t da) : TyOk t d := by
  unfold slcD at h
  split at h
  · cases h
    match t with
    | 0 => simp [TyOk, D.pure] at ta
    | 1 => simp [TyOk, D.ep] at ta ⊢; exact pureAll_sub ta cut_mem
    | _ + 2 => trivial
  · cases h
    match t with
    | 0 => simp [TyOk, D.pure] at ta ⊢; exact pureAll_sub ta cut_mem
    | 1 => simp [TyOk, D.ep, D.pure] at ta ⊢; exact pureAll_sub ta cut_mem
    | _ + 2 => trivial
  · cases h
    match t with
    | 0 => simp [TyOk, D.pure] at ta
    | 1 => exact (pureAll_mem fun d hd => (by
        obtain ⟨i, _, rfl⟩ := List.mem_map.mp hd
        rfl))
    | _ + 2 => trivial
  · cases h
/-! ### built-ins -/
def biName : BI → Str
  | .len => "len" | .list => "list" | .tuple => "tuple" | .sorted => "sorted" | .sum => "sum" | .min => "min" | .max => "max" | .int => "int" | .str => "str" | .all => "all"
def biVal : BI → Value
  | .len => .builtin "len" | .list => .type "list" | .tuple => .type "tuple" | .sorted => .builtin "sorted" | .sum => .builtin "sum" | .min => .builtin "min" | .max => .builtin "max" | .int => .type "int" | .str => .type "str" | .all => .builtin "all"
def rBi (P : Program) (w : World) (K : PySem.W.Frag) : BI → List V → Hp → VK → Prop
  | .len => fun xs H Q => (∃ x n, xs = [x] ∧ LenV K x H n ∧ Q (.int n) H) ∨ rLenK xs H Q ∨ rLenN P w K xs H Q
  | .list => fun xs H Q => ∃ p ys, xs = [.ref p] ∧ (SqL K H p ys ∨ SqT K H p ys) ∧ ∀ l, H l = none → Q (.ref l) (upd H l (.lst ys))
  | .tuple => fun xs H Q => ∃ p ys, xs = [.ref p] ∧ ((SqL K H p ys ∧ ∀ l, H l = none → Q (.ref l) (upd H l (.tup ys))) ∨ (SqT K H p ys ∧ Q (.ref p) H))
  | .sorted => fun xs H Q => rSortedI K xs H Q ∨ rSortedD K xs H Q
  | .sum => rSum K
  | .min => fun xs H Q => (∃ i j, xs = [.int i, .int j] ∧ Q (.int (if j < i then j else i)) H) ∨ rMmI K min xs H Q
  | .max => fun xs H Q => (∃ i j, xs = [.int i, .int j] ∧ Q (.int (if j > i then j else i)) H) ∨ rMmI K max xs H Q
  | .int => fun xs H Q => (∃ i, xs = [.int i] ∧ Q (.int i) H) ∨ ∃ k, xs = [.bl k] ∧ Q (.int (if k then 1 else 0)) H
  | .str => fun xs H Q => ∃ i, xs = [.int i] ∧ i.natAbs.log2 < 1920 ∧ Q (.str (toString i)) H
  | .all => rAll K
theorem call_bi {X : Cx} (hc : X.calm = true) (hu : X.A.units + 65 < cLine) : ∀ b, CallR X (biVal b) (rBi X.prog X.w X.K b)
  | .len => CallR.or call_len (CallR.or call_len_dk call_len_nd)
  | .list => call_list_of
  | .tuple => call_tuple_of
  | .sorted => CallR.or cr_sortedI (call_sortedD hu)
  | .sum => cr_sum hc
  | .min => CallR.or (call_min2 hc) (call_minI hc hu)
  | .max => CallR.or (call_max2 hc) (call_maxI hc hu)
  | .int => call_int1
  | .str => call_str_int
  | .all => cr_all hc
theorem boot_bi : ∀ b, bootBuiltins (biName b) = some (biVal b) := by
  intro b
  cases b <;> decide +kernel
theorem sortedInts_eq {is js : List Int} (h1 : js.Perm is) (h2 : js.Pairwise (· ≤ ·)) : js = is.mergeSort (fun a b => decide (a ≤ b)) := by
  have p := List.mergeSort_perm is (fun a b => decide (a ≤ b))
  have q := List.pairwise_mergeSort (le := fun (a b : Int) => decide (a ≤ b)) (fun a b c h h' => by simp at h h' ⊢; omega) (fun a b => by simp; omega) is
  refine List.Perm.eq_of_pairwise (le := fun (a b : Int) => a ≤ b) (fun a b _ _ h h' => by omega) h2 (q.imp fun h => by simpa using h) (h1.trans p.symm)
theorem innF_lst {a : Addr} {ds : List D} {F : List Addr} : innF (.lst ds) (a :: F) = F := rfl
theorem Reps.one {vs : List V} {d : D} {F : List Addr} (r : Reps G H vs [d] F) : ∃ v, vs = [v] ∧ Rep G H v d F := by
  cases r with
  | cons r rs =>
    cases rs
    rw [List.append_nil]
    exact ⟨_, rfl, r⟩
theorem Reps.two {vs : List V} {d e : D} {F : List Addr} (r : Reps G H vs [d, e] F) : ∃ v w F1 F2, vs = [v, w] ∧ F = F1 ++ F2 ∧ Rep G H v d F1 ∧ Rep G H w e F2 := by
  cases r with
  | cons r rs =>
    obtain ⟨w, rfl, q⟩ := rs.one
    exact ⟨_, w, _, _, rfl, rfl, r, q⟩
theorem sortable_pure {ds : List D} (h : sortable ds = true) : pureAll ds = true := by
  unfold sortable at h
  rw [Bool.and_eq_true] at h
  exact pureAll_mem fun d hd => (tup1_ok (List.all_eq_true.mp h.1 d hd)).2.1
theorem bi_ok {b : BI} {vs : List V} {ds : List D} {F : List Addr} (h : biD b ds = .ok d) (r : Reps G H vs ds F)
    (q : ∀ v H' F', Same H H' → Rep G H' v d F' → TopNew H v d F' → (∀ a ∈ F', H a = none ∨ ∃ e, ds = [e] ∧ a ∈ innF e F) → (b = .sorted → F'.Nodup ∧ ∀ a ∈ F', H a = none) → (b = .tuple → ∀ e, ds = [e] → F.Nodup → F'.Nodup) → Q v H') : rBi G.P G.w G.K b vs H Q := by
  have qp : ∀ v, b ≠ .sorted → Rep G H v d [] → d.isL = false → Q v H := fun v hb rv hl => q v H [] (Same.refl H) rv (fun e => by rw [hl] at e; cases e) (fun a ha => nomatch ha) (fun e => absurd e hb) fun _ _ _ _ => List.nodup_nil
  unfold biD at h
  split at h
  · obtain ⟨v, rfl, rv⟩ := r.one
    cases h
    cases rv with
    | lst e rr => exact .inl ⟨_, _, rfl, .inl ⟨_, SqL.of e, rr.length.symm⟩, qp _ (by decide) (.int _) rfl⟩
  · obtain ⟨v, rfl, rv⟩ := r.one
    cases h
    cases rv with
    | tup e rr => exact .inl ⟨_, _, rfl, .inr ⟨_, e, rr.length.symm⟩, qp _ (by decide) (.int _) rfl⟩
  · obtain ⟨v, rfl, rv⟩ := r.one
    cases h
    cases rv with
    | scr s => exact .inl ⟨_, _, rfl, .inl ⟨_, s.sql, (List.length_map ..).symm⟩, qp _ (by decide) (.int _) rfl⟩
  · obtain ⟨v, rfl, rv⟩ := r.one
    obtain ⟨_, hc, h⟩ := bind_ok h
    cases h
    cases rv
    exact .inl ⟨_, _, rfl, ⟨of_decide_eq_true (chk_ok hc), rfl⟩, qp _ (by decide) (.int _) rfl⟩
  · obtain ⟨v, rfl, rv⟩ := r.one
    cases h
    cases rv with
    | lst e rr =>
      refine ⟨_, _, rfl, .inl (SqL.of e), fun p hp => ?_⟩
      refine q _ _ _ (same_laid hp) (.lst upd_same (rr.laid hp)) (fun _ => ⟨p, _, rfl, rfl, hp, notin_none rr hp⟩) (fun a ha => ?_) (fun e => by cases e) fun e => by cases e
      rcases List.mem_cons.mp ha with rfl | ha
      · exact .inl hp
      · exact .inr ⟨_, rfl, ha⟩
  · obtain ⟨v, rfl, rv⟩ := r.one
    cases h
    cases rv with
    | tup e rr =>
      refine ⟨_, _, rfl, .inr e, fun p hp => ?_⟩
      refine q _ _ _ (same_laid hp) (.lst upd_same (rr.laid hp)) (fun _ => ⟨p, _, rfl, rfl, hp, notin_none rr hp⟩) (fun a ha => ?_) (fun e => by cases e) fun e => by cases e
      rcases List.mem_cons.mp ha with rfl | ha
      · exact .inl hp
      · exact .inr ⟨_, rfl, ha⟩
  · obtain ⟨v, rfl, rv⟩ := r.one
    cases h
    cases rv with
    | lst e rr =>
      refine ⟨_, _, rfl, .inl ⟨SqL.of e, fun p hp => ?_⟩⟩
      exact q _ _ _ (same_laid hp) (.tup (SqT.of upd_same) (rr.laid hp)) (fun e => nomatch e) (fun a ha => .inr ⟨_, rfl, ha⟩) (fun e => by cases e) fun _ _ _ nd => (List.nodup_cons.mp nd).2
  · obtain ⟨v, rfl, rv⟩ := r.one
    cases h
    cases rv with
    | tup e rr =>
      refine ⟨_, _, rfl, .inr ⟨e, ?_⟩⟩
      exact q _ _ _ (Same.refl H) (.tup e rr) (fun e => nomatch e) (fun a ha => .inr ⟨_, rfl, ha⟩) (fun e => by cases e) fun _ _ _ nd => nd
  · obtain ⟨v, rfl, rv⟩ := r.one
    split at h
    · rename_i is hi
      cases h
      cases rv with
      | lst e rr =>
        obtain ⟨e1, e2⟩ := rr.ints hi
        subst e1
        subst e2
        refine .inl ⟨_, is, rfl, SqL.of e, fun js p h1 h2 hp => ?_⟩
        have e3 := sortedInts_eq h1 h2
        subst e3
        refine q _ _ [p] (same_laid hp) (.lst upd_same (Reps.of_ints _)) (fun _ => ⟨p, [], rfl, rfl, hp, by simp⟩) (fun a ha => ?_) (fun _ => ⟨by simp, fun a ha => ?_⟩) fun e => by cases e
        · rw [List.mem_singleton] at ha
          subst ha
          exact .inl hp
        · rw [List.mem_singleton] at ha
          subst ha
          exact hp
    · rename_i hn
      obtain ⟨_, hc, h⟩ := bind_ok h
      have hz := chk_ok hc
      cases h
      cases rv with
      | lst e rr =>
        have hp0 := sortable_pure hz
        have e2 := rr.pure_nil hp0
        subst e2
        refine .inr ⟨G, _, _, _, rfl, rfl, SqL.of e, rr, hz, fun zs p hp rz => ?_⟩
        refine q _ _ [p] (same_laid hp) (.lst upd_same (rz.laid hp)) (fun _ => ⟨p, [], rfl, rfl, hp, by simp⟩) (fun a ha => ?_) (fun _ => ⟨by simp, fun a ha => ?_⟩) fun e => by cases e
        · rw [List.mem_singleton] at ha
          subst ha
          exact .inl hp
        · rw [List.mem_singleton] at ha
          subst ha
          exact hp
  · obtain ⟨v, rfl, rv⟩ := r.one
    split at h
    · rename_i is hi
      cases h
      cases rv with
      | lst e rr =>
        obtain ⟨e1, e2⟩ := rr.ints hi
        subst e1
        exact ⟨_, is, rfl, SqL.of e, qp _ (by decide) (.int _) rfl⟩
    · cases h
  · obtain ⟨v, w, F1, F2, rfl, _, r1, r2⟩ := r.two
    cases h
    cases r1; cases r2
    exact .inl ⟨_, _, rfl, qp _ (by decide) (.int _) rfl⟩
  · obtain ⟨v, w, F1, F2, rfl, _, r1, r2⟩ := r.two
    cases h
    cases r1; cases r2
    exact .inl ⟨_, _, rfl, qp _ (by decide) (.int _) rfl⟩
  · obtain ⟨v, rfl, rv⟩ := r.one
    split at h
    · rename_i n ns hi
      cases h
      cases rv with
      | lst e rr =>
        obtain ⟨e1, e2⟩ := rr.ints hi
        subst e1
        exact .inr ⟨_, n, ns, rfl, .inl (SqL.of e), qp _ (by decide) (.int _) rfl⟩
    · cases h
  · obtain ⟨v, rfl, rv⟩ := r.one
    split at h
    · rename_i n ns hi
      cases h
      cases rv with
      | lst e rr =>
        obtain ⟨e1, e2⟩ := rr.ints hi
        subst e1
        exact .inr ⟨_, n, ns, rfl, .inl (SqL.of e), qp _ (by decide) (.int _) rfl⟩
    · cases h
  · obtain ⟨v, rfl, rv⟩ := r.one
    split at h
    · rename_i n ns hi
      cases h
      cases rv with
      | tup e rr =>
        obtain ⟨e1, e2⟩ := rr.ints hi
        subst e1
        exact .inr ⟨_, n, ns, rfl, .inr e, qp _ (by decide) (.int _) rfl⟩
    · cases h
  · obtain ⟨v, rfl, rv⟩ := r.one
    split at h
    · rename_i n ns hi
      cases h
      cases rv with
      | tup e rr =>
        obtain ⟨e1, e2⟩ := rr.ints hi
        subst e1
        exact .inr ⟨_, n, ns, rfl, .inr e, qp _ (by decide) (.int _) rfl⟩
    · cases h
  · obtain ⟨v, rfl, rv⟩ := r.one
    cases h
    cases rv
    exact .inl ⟨_, rfl, qp _ (by decide) (.int _) rfl⟩
  · obtain ⟨v, rfl, rv⟩ := r.one
    cases h
    cases rv
    exact .inr ⟨_, rfl, qp _ (by decide) (.int _) rfl⟩
  · obtain ⟨v, rfl, rv⟩ := r.one
    obtain ⟨_, hc, h⟩ := bind_ok h
    cases h
    cases rv
    exact ⟨_, rfl, of_decide_eq_true (chk_ok hc), qp _ (by decide) (.str _) rfl⟩
  · obtain ⟨v, rfl, rv⟩ := r.one
    cases h
    cases rv with
    | dct e m rr =>
      refine .inr (.inl ⟨_, _, rfl, e, ?_⟩)
      have l := congrArg List.length m
      rw [List.length_map, List.length_map] at l
      rw [l]
      exact qp _ (by decide) (.int _) rfl
  · obtain ⟨v, rfl, rv⟩ := r.one
    cases h
    have hp : ∃ a, v = .ref a := by
      cases rv with
      | dcn e m ks rr => exact ⟨_, rfl⟩
    obtain ⟨a, rfl⟩ := hp
    obtain ⟨xs, F', _, nd, m2, _, _⟩ := dcn_nd rv
    refine .inr (.inr ⟨_, xs, rfl, nd, ?_⟩)
    rw [show xs.length = _ from by simpa using (congrArg List.length m2).symm]
    exact qp _ (by decide) (.int _) rfl
  · obtain ⟨v, rfl, rv⟩ := r.one
    split at h
    · rename_i bs hi
      cases h
      cases rv with
      | lst e rr =>
        obtain ⟨e1, e2⟩ := rr.bls hi
        subst e1
        exact ⟨_, bs, rfl, SqL.of e, qp _ (by decide) (.bl _) rfl⟩
    · cases h
  · cases h
end
end Ev

/-! Part B5: isinstance; what is walked. -/
namespace Ev
open PySem PySem.Spec PyProof.Rows L2
def tyName : Ty → String
  | .int => "int" | .bool => "bool" | .str => "str" | .tuple => "tuple" | .list => "list" | .dict => "dict" | .own _ => ""
def dTy : D → Option String
  | .non => some "NoneType" | .bl _ => some "bool" | .int _ => some "int" | .str _ => some "str" | .tup _ => some "tuple" | .lst _ => some "list" | .dct _ => some "dict" | _ => none
theorem ty_kit {d : D} {t : Ty} {b : Bool} (h : tyIs d t = some b) : ∃ n, dTy d = some n ∧ kitB n (tyName t) = some b := by
  cases d <;> cases t <;> simp [tyIs] at h <;> subst h <;> exact ⟨_, rfl, by decide +kernel⟩
theorem ty_rep {G : GC} {H : Hp} {v : V} {d : D} {F : List Addr} (r : Rep G H v d F) {n : String} (h : dTy d = some n) : TyX G.K H v (.type n) := by
  cases r with
  | non => cases h; exact .base .non
  | bl b => cases h; exact .base (.bl b)
  | int i => cases h; exact .base (.int i)
  | str s => cases h; exact .base (.str s)
  | tup s r =>
    cases h
    rcases s with (s | ⟨o, s⟩) | ⟨o, _, _, e, c, _⟩
    · exact .base (.tup s)
    · exact .fTuple s
    · exact .kTuple e c
  | lst e r => cases h; exact .base (.lst e)
  | dct e m r => cases h; exact .base (.dK e)
  | dcn e m k r => cases h
  | scr s => cases h
  | ins e => cases h
/-! ### what is walked -/
/-- J walks the values ds, while what P tells stays as in H0; A: where its items' things lie -/
structure WalkOk (G : GC) (J : It) (H0 : Hp) (ds : List D) (A P : Addr → Prop) : Prop where
  go : ∀ H, Imm H0 H → (∀ a, P a → H a = H0 a) → ∀ (i : Nat) d, ds[i]? = some d → J.go i H ∧ ∀ x H', J.yld i H x H' → Same H H' ∧ ∃ F, Rep G H' x d F ∧ ∀ a ∈ F, A a
  stop : ∀ H, Imm H0 H → (∀ a, P a → H a = H0 a) → J.stop ds.length H
section
variable {G : GC} {H0 : Hp}
theorem sql_inj {K : PySem.W.Frag} {H : Hp} {a : Addr} {xs ys : List V} (h : SqL K H a xs) (h' : H a = some (.lst ys)) (hK : K.lookup a = none) : xs = ys := by
  rcases h with (h | ⟨o, h⟩) | ⟨o, _, _, e, _⟩
  · rw [h] at h'
    cases h'
    rfl
  · rw [h] at h'
    cases h'
  · rw [hK] at e
    cases e
theorem walk_list {a : Addr} {xs : List V} {ds : List D} {F : List Addr} (h : SqL G.K H0 a xs) (hs : ∀ H, Imm H0 H → (H a = H0 a) → SqL G.K H a xs) (r : Reps G H0 xs ds F) : WalkOk G (Itl G.K a) H0 ds (fun b => b ∈ F) (fun b => b = a ∨ b ∈ F) where
  go := fun H hi hp i d e => by
    have s := hs H hi (hp a (.inl rfl))
    have r' := r.stay hi fun b hb => hp b (.inr hb)
    obtain ⟨v, F', e1, rv, sub⟩ := r'.get e
    exact ⟨⟨xs, v, s, e1⟩, fun x H' hy => by
      obtain ⟨rfl, hy⟩ := hy
      have e2 := hy xs s
      rw [e1] at e2
      cases e2
      exact ⟨Same.refl _, F', rv, sub⟩⟩
  stop := fun H hi hp => ⟨xs, hs H hi (hp a (.inl rfl)), by rw [r.length]; exact Nat.le_refl _⟩
theorem walk_tup {a : Addr} {xs : List V} {ds : List D} {F : List Addr} (h : SqT G.K H0 a xs) (r : Reps G H0 xs ds F) : WalkOk G (Itt G.K a) H0 ds (fun b => b ∈ F) (fun b => b ∈ F) where
  go := fun H hi hp i d e => by
    have s := sqt_imm hi h
    have r' := r.stay hi fun b hb => hp b hb
    obtain ⟨v, F', e1, rv, sub⟩ := r'.get e
    exact ⟨⟨xs, v, s, e1⟩, fun x H' hy => by
      obtain ⟨rfl, hy⟩ := hy
      have e2 := hy xs s
      rw [e1] at e2
      cases e2
      exact ⟨Same.refl _, F', rv, sub⟩⟩
  stop := fun H hi hp => ⟨xs, sqt_imm hi h, by rw [r.length]; exact Nat.le_refl _⟩
theorem rngD_get : ∀ (n : Nat) (a : Int) (i : Nat), i < n → (rngD a n)[i]? = some (.int (a + i))
  | n + 1, a, 0, _ => by simp [rngD]
  | n + 1, a, i + 1, h => by
    rw [rngD, List.getElem?_cons_succ, rngD_get n (a + 1) i (by omega)]
    congr 2
    omega
theorem rngD_len : ∀ (n : Nat) (a : Int), (rngD a n).length = n
  | 0, _ => rfl
  | n + 1, a => by rw [rngD, List.length_cons, rngD_len n]
theorem walk_range {lo : Int} {n : Nat} : WalkOk G (Itr lo n) H0 (rngD lo n) (fun _ => False) (fun _ => False) where
  go := fun H _ _ i d e => by
    have hi : i < n := by
      have := (List.getElem?_eq_some_iff.mp e).1
      rw [rngD_len] at this
      exact this
    rw [rngD_get n lo i hi] at e
    cases e
    exact ⟨hi, fun x H' hy => by
      obtain ⟨rfl, rfl⟩ := hy
      exact ⟨Same.refl _, [], .int _, fun a ha => nomatch ha⟩⟩
  stop := fun H _ _ => by
    rw [rngD_len]
    exact Nat.le_refl _
theorem rngC_get : ∀ (n : Nat) (a c : Int) (i : Nat), i < n → (rngC a c n)[i]? = some (.int (a + (i : Nat) * c))
  | n + 1, a, c, 0, _ => by simp [rngC]
  | n + 1, a, c, i + 1, h => by
    rw [rngC, List.getElem?_cons_succ, rngC_get n (a + c) c i (by omega)]
    congr 2
    have e : ((i + 1 : Nat) : Int) * c = (i : Nat) * c + c := by
      rw [Int.natCast_add, Int.add_mul]
      simp
    rw [e]
    omega
theorem rngC_len : ∀ (n : Nat) (a c : Int), (rngC a c n).length = n
  | 0, _, _ => rfl
  | n + 1, a, c => by rw [rngC, List.length_cons, rngC_len n]
theorem walk_rngC {lo c : Int} {n : Nat} : WalkOk G (Itc lo c n) H0 (rngC lo c n) (fun a => a ∈ ([] : List Addr)) (fun _ => False) where
  go := fun H _ _ i d e => by
    have hi : i < n := by
      have := (List.getElem?_eq_some_iff.mp e).1
      rw [rngC_len] at this
      exact this
    rw [rngC_get n lo c i hi] at e
    cases e
    exact ⟨hi, fun x H' hy => by
      obtain ⟨rfl, rfl⟩ := hy
      exact ⟨Same.refl _, [], .int _, fun a ha => nomatch ha⟩⟩
  stop := fun H _ _ => by
    rw [rngC_len]
    exact Nat.le_refl _
theorem enumD_len : ∀ (n : Nat) (ds : List D), (enumD n ds).length = ds.length
  | _, [] => rfl
  | n, d :: ds => by rw [enumD, List.length_cons, List.length_cons, enumD_len (n + 1) ds]
theorem enumD_get : ∀ (n : Nat) (ds : List D) (i : Nat), (enumD n ds)[i]? = ds[i]?.map fun d => .tup [.int ((n + i : Nat) : Int), d]
  | n, [], i => by simp [enumD]
  | n, d :: ds, 0 => by simp [enumD]
  | n, d :: ds, i + 1 => by
    rw [enumD, List.getElem?_cons_succ, List.getElem?_cons_succ, enumD_get (n + 1) ds i]
    have e : n + 1 + i = n + (i + 1) := by omega
    rw [e]
theorem zipD_get : ∀ (xs ys : List D) (i : Nat) (d : D), (zipD xs ys)[i]? = some d → ∃ x y, xs[i]? = some x ∧ ys[i]? = some y ∧ d = .tup [x, y]
  | [], _, i, d, h => by simp [zipD] at h
  | _ :: _, [], i, d, h => by simp [zipD] at h
  | x :: xs, y :: ys, 0, d, h => by
    simp [zipD] at h
    subst h
    exact ⟨x, y, by simp, by simp, rfl⟩
  | x :: xs, y :: ys, i + 1, d, h => by
    rw [zipD, List.getElem?_cons_succ] at h
    obtain ⟨u, w, e1, e2, e3⟩ := zipD_get xs ys i d h
    exact ⟨u, w, by simpa using e1, by simpa using e2, e3⟩
theorem zipD_len : ∀ (xs ys : List D), (zipD xs ys).length = min xs.length ys.length
  | [], _ => by simp [zipD]
  | _ :: _, [] => by simp [zipD]
  | x :: xs, y :: ys => by
    rw [zipD, List.length_cons, zipD_len xs ys, List.length_cons, List.length_cons]
    omega
theorem rev_get {α : Type} {xs : List α} {i : Nat} {v : α} (h : xs.reverse[i]? = some v) : i < xs.length ∧ xs[xs.length - 1 - i]? = some v := by
  have hi : i < xs.length := by
    have := (List.getElem?_eq_some_iff.mp h).1
    rwa [List.length_reverse] at this
  exact ⟨hi, by rw [List.getElem?_reverse hi] at h; exact h⟩
theorem walk_revL {a : Addr} {xs : List V} {ds : List D} {F : List Addr} (h : H0 a = some (.lst xs)) (r : Reps G H0 xs ds F) : WalkOk G (Itv G.K a xs.length) H0 ds.reverse (fun b => b ∈ F) (fun b => b = a ∨ b ∈ F) where
  go := fun H hi hp i d e => by
    have s : SqL G.K H a xs := SqL.of ((hp a (.inl rfl)).trans h)
    have r' := r.stay hi fun b hb => hp b (.inr hb)
    obtain ⟨hl, e⟩ := rev_get e
    obtain ⟨v, F', e1, rv, sub⟩ := r'.get e
    rw [← r.length] at e1 hl
    exact ⟨⟨hl, xs, v, s, e1⟩, fun x H' hy => by
      obtain ⟨rfl, hy⟩ := hy
      have e2 := hy xs s
      rw [e1] at e2
      cases e2
      exact ⟨Same.refl _, F', rv, sub⟩⟩
  stop := fun H hi hp => by
    show xs.length ≤ _
    rw [List.length_reverse, r.length]
    exact Nat.le_refl _
theorem walk_revT {a : Addr} {xs : List V} {ds : List D} {F : List Addr} (h : SqT G.K H0 a xs) (r : Reps G H0 xs ds F) : WalkOk G (RT.ItvT G.K a xs.length) H0 ds.reverse (fun b => b ∈ F) (fun b => b ∈ F) where
  go := fun H hi hp i d e => by
    have s := sqt_imm hi h
    have r' := r.stay hi fun b hb => hp b hb
    obtain ⟨hl, e⟩ := rev_get e
    obtain ⟨v, F', e1, rv, sub⟩ := r'.get e
    rw [← r.length] at e1 hl
    exact ⟨⟨hl, xs, v, s, e1⟩, fun x H' hy => by
      obtain ⟨rfl, hy⟩ := hy
      have e2 := hy xs s
      rw [e1] at e2
      cases e2
      exact ⟨Same.refl _, F', rv, sub⟩⟩
  stop := fun H hi hp => by
    show xs.length ≤ _
    rw [List.length_reverse, r.length]
    exact Nat.le_refl _
theorem walk_str {z : Str} : WalkOk G (Its z) H0 (chars z) (fun _ => False) (fun _ => False) where
  go := fun H _ _ i d e => by
    unfold chars at e
    rw [List.getElem?_map] at e
    cases q : z.cps.toList[i]? with
    | none => rw [q] at e; cases e
    | some c =>
      rw [q] at e
      cases e
      have q' : z.cps[i]? = some c := by
        rw [← q]
        simp
      have hi : i < z.cps.size := (Array.getElem?_eq_some_iff.mp q').1
      exact ⟨hi, fun x H' hy => by
        obtain ⟨rfl, c', h1, rfl⟩ := hy
        rw [q'] at h1
        cases h1
        exact ⟨Same.refl _, [], .str _, fun a ha => nomatch ha⟩⟩
  stop := fun H _ _ => by
    show z.cps.size ≤ _
    unfold chars
    simp
end
theorem PI.or {X : Cx} {tg e : Expr} {w u : TI} (h : PI X tg e w) (h' : PI X tg e u) : PI X tg e (fun σ H R => w σ H R ∨ u σ H R) :=
  ⟨fun pins s σ H R I q => q.elim (h.run pins s σ H R I) (h'.run pins s σ H R I)⟩
theorem PI.imp {X : Cx} {tg e : Expr} {w u : TI} (h : PI X tg e w) (k : ∀ σ H R, u σ H R → w σ H R) : PI X tg e u :=
  ⟨fun pins s σ H R I q => h.run pins s σ H R I (k _ _ _ q)⟩
end Ev

/-! Part B6: the context, the readings, targets. -/
namespace Ev
open PySem PySem.Spec PyProof.Rows L2
/-- the text's own things, by numbers -/
structure SX where
  fns : List Str
  cls : List Str
  mths : List Str
  sg : Nat → Sig
  ms : Nat → Sig
  Φ : Nat → List D → R D
  M : Nat → Nat → Option Nat
  ci : List (Str × Int) := []
  cs : List (Str × Str) := []
  df : Nat → Nat := fun _ => 0
/-- where a class stands -/
def clsOf (names : List Str) (mg : Str → Option Value) (c : Nat) : Addr := match names[c]? with
  | some n => match mg n with
    | some (.ref a) => a
    | _ => 0
  | none => 0
theorem clsOf_of {names : List Str} {mg : Str → Option Value} {c : Nat} {n : Str} {C : Addr} (h : names[c]? = some n) (hm : mg n = some (.ref C)) : clsOf names mg c = C := by
  unfold clsOf
  rw [h]
  dsimp only
  rw [hm]
/-- a class of the text that is made without more -/
structure MkC (K : PySem.W.Frag) (C : Addr) : Prop where
  makes : PySem.W.makesIn K C = true
  init : PySem.W.findIn K (.ref C) "__init__" = some (some (.builtin "object.__init__"))
  kp : PySem.W.keepIn K (.ref C) = true
abbrev gc (Y : SX) (X : Cx) : GC := ⟨X.prog, X.w, X.K, X.mg, X.base, clsOf Y.cls X.mg⟩
section
variable (Y : SX) (G : GC) (kd : Nat → Nat)
def tysOk : IEs → List D → Prop
  | .nil, _ => True
  | .cons e es, d :: ds => TyOk (tyE Y.sg Y.ms e kd) d ∧ tysOk es ds
  | .cons _ _, [] => True
structure Rss (es : IEs) (σ : Sg) (Fs : Nat → List Addr) (H : Hp) (vs : List V) (ds : List D) (F : List Addr) (H' : Hp) : Prop where
  same : Same H H'
  rep : Reps G H' vs ds F
  ty : tysOk Y kd es ds
  fr : frs1 Y.sg Y.ms es kd = true → F.Nodup ∧ ∀ a ∈ F, H a = none
  al : ∀ a ∈ F, H a = none ∨ InAl σ Fs (als Y.sg Y.ms es kd).1 a
  an : ∀ d, ds = [d] → ∀ a ∈ innF d F, H a = none ∨ InAl σ Fs (als Y.sg Y.ms es kd).2 a
def tE (ie : IE) : TE := fun σc H Q => ∃ σ Fs d, RelE G kd σ σc H Fs ∧ evE Y.Φ Y.M ie σ = .ok d ∧ ∀ v H' F, Rs G (tyE Y.sg Y.ms ie kd) (frE Y.sg Y.ms ie kd) (alP Y.sg Y.ms ie kd) σ Fs H v d F H' → Q v H'
def tT (ie : IE) : TT := fun σc H Q => ∃ σ Fs d k, RelE G kd σ σc H Fs ∧ evE Y.Φ Y.M ie σ = .ok d ∧ truth d = .ok k ∧ ∀ H', Same H H' → Q k H'
def tEs (es : IEs) : TA := fun σc H Q => ∃ σ Fs ds, RelE G kd σ σc H Fs ∧ evEs Y.Φ Y.M es σ = .ok ds ∧ ∀ vs H' F, Rss Y G kd es σ Fs H vs ds F H' → Q vs H'
def tPt (o : IEo) : TO := fun σc H Q => ∃ σ Fs r, RelE G kd σ σc H Fs ∧ evO Y.Φ Y.M o σ = .ok r ∧ ∀ H', Same H H' → Q r H'
def tIf (o : IEo) : TT := fun σc H Q => ∃ σ Fs k, RelE G kd σ σc H Fs ∧ evC Y.Φ Y.M o σ = .ok k ∧ ∀ H', Same H H' → Q k H'
def alIW : II → Al
  | .el e => (alP Y.sg Y.ms e kd).1
  | .enu a => (alP Y.sg Y.ms a kd).1
  | .zip a b => (alP Y.sg Y.ms a kd).1.un (alP Y.sg Y.ms b kd).1
  | .rvs a => (alP Y.sg Y.ms a kd).1
  | .itms a => (alP Y.sg Y.ms a kd).1
  | _ => ([], [])
structure Wk (it : II) (σ : Sg) (Fs : Nat → List Addr) (H : Hp) (ds : List D) (J : It) (H1 : Hp) (FA : List Addr) (P : Addr → Prop) : Prop where
  same : Same H H1
  walk : WalkOk G J H1 ds (fun a => a ∈ FA) P
  pt : ∀ a, P a → ∃ o, H1 a = some o
  ft : ∀ a ∈ FA, ∃ o, H1 a = some o
  al : ∀ a ∈ FA, H a = none ∨ InAl σ Fs (alI Y.sg Y.ms it kd) a
  alw : ∀ a, P a → H a = none ∨ InAl σ Fs (alIW Y kd it) a
  ty : ∀ d ∈ ds, TyOk (tyI Y.sg Y.ms it kd) d
def tIt (it : II) : TI := fun σc H R => ∃ σ Fs ds, RelE G kd σ σc H Fs ∧ evI Y.Φ Y.M it σ = .ok ds ∧ ∀ J H1 FA P, Wk Y G kd it σ Fs H ds J H1 FA P → R J H1
end
/-! ### names -/
def vis (sc : Scope) (x : Str) : Bool := match sc.names.lookup x with
  | some .local => true
  | some .cell => true
  | some .free => true
  | _ => false
def locB (sc : Scope) (x : Str) : Bool := match sc.names.lookup x with
  | some .local => true
  | some .cell => true
  | _ => false
def glb (sc : Scope) (x : Str) : Bool := match sc.names.lookup x with
  | some .globalImplicit => true
  | _ => false
def plainN (x : Str) : Bool := !(x == ("__debug__" : Str)) && !(x == ("__classdict__" : Str)) && !(decide (x = ("__name__" : Str))) && !(decide (x = ("" : Str)))
theorem plainN_ne {x : Str} (h : plainN x = true) : x ≠ ("" : Str) := by
  unfold plainN at h
  rw [Bool.and_eq_true] at h
  simpa using h.2
theorem vis_ok {sc : Scope} {x : Str} (h : vis sc x = true) : Vis sc x := by
  unfold vis at h
  split at h
  · rename_i e; exact .inl e
  · rename_i e; exact .inr (.inl e)
  · rename_i e; exact .inr (.inr e)
  · cases h
theorem locB_ok {sc : Scope} {x : Str} (h : locB sc x = true) : Loc sc x := by
  unfold locB at h
  split at h
  · rename_i e; exact .inl e
  · rename_i e; exact .inr e
  · cases h
theorem glb_ok {X : Cx} {x : Str} (h : glb X.env.scope x = true) : Gl X x := by
  unfold glb at h
  split at h
  · rename_i e; exact e
  · cases h
theorem plainN_ok {x : Str} (h : plainN x = true) : (x == ("__debug__" : Str)) = false ∧ (x == ("__classdict__" : Str)) = false ∧ x ≠ ("__name__" : Str) := by
  unfold plainN at h
  rw [Bool.and_eq_true, Bool.and_eq_true, Bool.and_eq_true] at h
  obtain ⟨⟨⟨h1, h2⟩, h3⟩, _⟩ := h
  refine ⟨by simpa using h1, by simpa using h2, by simpa using h3⟩
def slotOk (N : List Str) (sc : Scope) (i : Nat) (x : Str) : Bool := decide (N[i]? = some x) && vis sc x && plainN x
def plainE : Expr → Bool
  | .Starred .. => false
  | .Set .. => false
  | .Slice .. => false
  | _ => true
theorem star_cons {e : Expr} (h : plainE e = true) (es : List Expr) (env : Env) : starEach (e :: es) env = (false, eval e env) :: starEach es env := by
  cases e <;> first | rfl | (simp [plainE] at h)
theorem star_none : ∀ {es : List Expr}, es.all plainE = true → ∀ (pos : Pos) (env : Env), (backTo pos (starEach es env)).any (·.1) = false
  | [], _, _, _ => rfl
  | e :: es, h, pos, env => by
    rw [List.all_cons, Bool.and_eq_true] at h
    rw [star_cons h.1]
    exact star_none h.2 pos env
theorem folded_pure {e : Expr} (h : plainE e = true) (env : Env) (x : Value) : foldedSetIterable e env x = pure x := by
  cases e <;> first | rfl | (simp [plainE] at h)
theorem plainIx {e : Expr} (h : plainE e = true) : PlainIx e := by
  cases e <;> first | exact fun _ _ => rfl | (simp [plainE] at h)
def argsOk : List Nat → List D → Prop
  | n :: ns, d :: ds => TyOk n d ∧ argsOk ns ds
  | [], [] => True
  | _, _ => False
/-- what a def promises: what is reckoned of its arguments -/
def spE (Y : SX) (G : GC) (j : Nat) (np : Nat) : Sp := fun vs H Q _ => ∃ ds Fa d, vs.length = np ∧ Reps G H vs ds Fa ∧ argsOk (Y.sg j).ps ds ∧ Y.Φ j ds = .ok d ∧
      ∀ v H' F, Same H H' → Rep G H' v d F → TyOk (Y.sg j).ty d → FrOk (fr0 (Y.sg j).ty (Y.sg j).fr) H v d F → (∀ a ∈ F, H a = none ∨ a ∈ Fa) → Q v H'
def bnames : List String := ["len", "list", "tuple", "sorted", "sum", "min", "max", "int", "str", "all", "range", "enumerate", "zip", "reversed", "isinstance", "bool", "dict", "set"]
/-- where a piece of a def stands -/
structure Ctx (Y : SX) (N : List Str) (X : Cx) : Prop where
  N : X.N = N
  nd : X.N.Nodup
  calm : X.calm = true
  hu : X.A.units + 65 < cLine
  bn : ∀ x ∈ bnames, X.mg (Str.ofString x) = none
  ci : ∀ x n, Y.ci.lookup x = some n → ∃ t, X.mg x = some (.int n t)
  cs : ∀ x n, Y.cs.lookup x = some n → ∃ t, X.mg x = some (.str n t)
  fn : ∀ (j : Nat) (x : Str), Y.fns[j]? = some x → x ≠ ("" : Str) → ∃ f fd ps lv, FnOk X.prog X.w X.K X.mg X.base CX0 lv f fd ps (spE Y (gc Y X) j ps.length) ∧ Room lv X.A ∧ X.mg x = some (.ref f) ∧ PySem.W.keepIn X.K (.ref f) = true ∧ (∀ m, m ≤ Y.df j → ∃ us, Vals (List.replicate m V.non) us ∧ Binds X.K fd ps us) ∧ (Y.sg j).ps.length = ps.length
  cl : ∀ (c : Nat) (n : Str), Y.cls[c]? = some n → ∃ C, X.mg n = some (.ref C) ∧ MkC X.K C
  mt : ∀ (c m j : Nat) (ds : List D) (d : D), Y.M c m = some j → Y.Φ j ds = .ok d → ∃ f fd ps lv mn, Y.mths[m]? = some mn ∧ FnOk X.prog X.w X.K X.mg X.base CX0 lv f fd ps (spE Y (gc Y X) j ps.length) ∧ Room lv X.A ∧ Binds X.K fd ps [] ∧
    (Y.sg j).ps.length = ps.length ∧ Cls X.K (clsOf Y.cls X.mg c) ∧ Meth X.K (clsOf Y.cls X.mg c) mn f ∧ (Y.sg j).ps = 0 :: (Y.ms m).ps ∧ (Y.sg j).ty = (Y.ms m).ty ∧ (Y.sg j).fr = (Y.ms m).fr
/-! ### targets -/
section
variable {X : Cx}
def gsT : List Nat → TGs
  | [] => gNil
  | i :: is => gCons (gName i) (gsT is)
def gT (K : PySem.W.Frag) : Tg → TG
  | .one i => gName i
  | .many is => fun v σ H Q => gTup K is.length (gsT is) v σ H Q ∨ gUnl K is.length (gsT is) v σ H Q
def mNs (N : List Str) (sc : Scope) : List Nat → List Expr → Bool
  | [], [] => true
  | i :: is, .Name x _ :: es => decide (N[i]? = some x) && locB sc x && mNs N sc is es
  | _, _ => false
def mT (N : List Str) (sc : Scope) : Tg → Expr → Bool
  | .one i, .Name x _ => decide (N[i]? = some x) && locB sc x
  | .many is, .Tuple es _ _ => mNs N sc is es
  | _, _ => false
theorem pgs_ok {N : List Str} {sc : Scope} (hN : X.N = N) (nd : X.N.Nodup) (hl : ∀ x, locB sc x = true → Loc X.env.scope x ∧ (X.fn x = true ∨ X.env.scope.names.lookup x = some .local)) :
    ∀ {is : List Nat} {es : List Expr}, mNs N sc is es = true → PGs X es (gsT is) ∧ (assignEach es X.env).length = is.length ∧ (assignEach es X.env).findIdx? (·.1) = none
  | [], [], _ => ⟨pgs_nil, rfl, rfl⟩
  | i :: is, .Name x p :: es, h => by
    rw [mNs, Bool.and_eq_true, Bool.and_eq_true] at h
    obtain ⟨⟨h1, h2⟩, h3⟩ := h
    obtain ⟨g, e1, e2⟩ := pgs_ok hN nd hl h3
    obtain ⟨l1, l2⟩ := hl x h2
    refine ⟨pgs_cons (pg_name nd (by rw [hN]; exact of_decide_eq_true h1) l1 l2) g, ?_, ?_⟩
    · show (assignEach es X.env).length + 1 = _
      rw [e1]
      rfl
    · show List.findIdx? (fun (x : Bool × (Value → Sem Unit)) => x.1) ((false, assign (.Name x p) X.env) :: assignEach es X.env) = none
      rw [List.findIdx?_cons]
      simp [e2]
  | [], e :: es, h => by cases h
  | i :: is, [], h => by cases h
  | i :: is, .BoolOp .. :: es, h => by cases h
  | i :: is, .NamedExpr .. :: es, h => by cases h
  | i :: is, .BinOp .. :: es, h => by cases h
  | i :: is, .UnaryOp .. :: es, h => by cases h
  | i :: is, .Lambda .. :: es, h => by cases h
  | i :: is, .IfExp .. :: es, h => by cases h
  | i :: is, .Dict .. :: es, h => by cases h
  | i :: is, .Set .. :: es, h => by cases h
  | i :: is, .ListComp .. :: es, h => by cases h
  | i :: is, .SetComp .. :: es, h => by cases h
  | i :: is, .DictComp .. :: es, h => by cases h
  | i :: is, .GeneratorExp .. :: es, h => by cases h
  | i :: is, .Await .. :: es, h => by cases h
  | i :: is, .Yield .. :: es, h => by cases h
  | i :: is, .YieldFrom .. :: es, h => by cases h
  | i :: is, .Compare .. :: es, h => by cases h
  | i :: is, .Call .. :: es, h => by cases h
  | i :: is, .FormattedValue .. :: es, h => by cases h
  | i :: is, .JoinedStr .. :: es, h => by cases h
  | i :: is, .Constant .. :: es, h => by cases h
  | i :: is, .Attribute .. :: es, h => by cases h
  | i :: is, .Subscript .. :: es, h => by cases h
  | i :: is, .Starred .. :: es, h => by cases h
  | i :: is, .List .. :: es, h => by cases h
  | i :: is, .Tuple .. :: es, h => by cases h
  | i :: is, .Slice .. :: es, h => by cases h
theorem pg_ok {N : List Str} {sc : Scope} (hc : X.calm = true) (hN : X.N = N) (nd : X.N.Nodup) (hl : ∀ x, locB sc x = true → Loc X.env.scope x ∧ (X.fn x = true ∨ X.env.scope.names.lookup x = some .local))
    {tg : Tg} {e : Expr} (h : mT N sc tg e = true) : PG X e (gT X.K tg) := by
  unfold mT at h
  split at h
  · rw [Bool.and_eq_true] at h
    obtain ⟨l1, l2⟩ := hl _ h.2
    exact pg_name nd (by rw [hN]; exact of_decide_eq_true h.1) l1 l2
  · obtain ⟨g, e1, e2⟩ := pgs_ok hN nd hl h
    exact ⟨fun pins s σ H v u Q I r q => q.elim ((pg_tup hc g e1 e2).run pins s σ H v u Q I r) ((pg_unl hc g e1 e2).run pins s σ H v u Q I r)⟩
  · cases h
end
/-! ### a value bound -/
section
variable {G : GC} {H H' : Hp}
theorem wipe_get {τ : L2.St} {j : Nat} : ∀ {vs : List Nat}, (L2.wipe τ vs)[j]? = if j ∈ vs then (if j < τ.length then some none else none) else τ[j]?
  | [] => by simp [L2.wipe]
  | v :: vs => by
    have ih := wipe_get (τ := τ) (j := j) (vs := vs)
    show ((L2.wipe τ vs).set v none)[j]? = _
    by_cases e : v = j
    · subst e
      rw [List.getElem?_set_self']
      rw [ih]
      simp only [List.mem_cons, true_or, if_true]
      by_cases m : v ∈ vs
      · rw [if_pos m]
        split <;> rfl
      · rw [if_neg m]
        by_cases l : v < τ.length
        · rw [if_pos l, List.getElem?_eq_getElem l]
          rfl
        · rw [if_neg l, List.getElem?_eq_none (by omega)]
          rfl
    · rw [List.getElem?_set_ne e, ih]
      have : (j ∈ v :: vs) ↔ j ∈ vs := by
        rw [List.mem_cons]
        exact ⟨fun h => h.resolve_left fun z => e z.symm, .inr⟩
      by_cases m : j ∈ vs
      · rw [if_pos m, if_pos (this.mpr m)]
      · rw [if_neg m, if_neg fun z => m (this.mp z)]
theorem st_ext {a b : L2.St} (h : ∀ (j : Nat), a[j]? = b[j]?) : a = b := List.ext_getElem? h
def fsT (Fs : Nat → List Addr) (i : Nat) (F : List Addr) : Nat → List Addr := fun j => if j = i then F else Fs j
/-- one slot more -/
theorem RelE.set {kd : Nat → Nat} {σ : Sg} {σc : L2.St} {Fs : Nat → List Addr} (r : RelE G kd σ σc H Fs) {i : Nat} {v : V} {d : D} {F : List Addr} (rv : Rep G H v d F) (ty : TyOk (kd i) d) :
    RelE G kd (σ.set i (some d)) (σc.set i (some v)) H (fsT Fs i F) := by
  have hi := r.len
  refine ⟨fun j e h => ?_, fun j e h => ?_, by rw [List.length_set, List.length_set, hi], fun j a ha => by
    unfold fsT at ha
    split at ha
    · exact rv.there a ha
    · exact r.tr j a ha⟩
  · by_cases q : i = j
    · subst q
      by_cases l : i < σ.length
      · rw [List.getElem?_set_self l] at h
        cases h
        refine ⟨v, List.getElem?_set_self (by omega), ?_⟩
        unfold fsT
        rw [if_pos rfl]
        exact rv
      · rw [List.getElem?_eq_none (by rw [List.length_set]; omega)] at h
        cases h
    · rw [List.getElem?_set_ne q] at h
      obtain ⟨w, e1, e2⟩ := r.rep j e h
      refine ⟨w, by rw [List.getElem?_set_ne q]; exact e1, ?_⟩
      unfold fsT
      rw [if_neg fun z => q z.symm]
      exact e2
  · by_cases q : i = j
    · subst q
      by_cases l : i < σ.length
      · rw [List.getElem?_set_self l] at h
        cases h
        exact ty
      · rw [List.getElem?_eq_none (by rw [List.length_set]; omega)] at h
        cases h
    · rw [List.getElem?_set_ne q] at h
      exact r.ty j e h
/-- slots forgotten -/
theorem RelE.weak {kd : Nat → Nat} {σ σ' : Sg} {σc σc' : L2.St} {Fs : Nat → List Addr} (r : RelE G kd σ σc H Fs) (hl : σc'.length = σ'.length) (h1 : ∀ (j : Nat) d, σ'[j]? = some (some d) → σ[j]? = some (some d) ∧ σc'[j]? = σc[j]?) : RelE G kd σ' σc' H Fs :=
  ⟨fun j d e => by
    obtain ⟨e1, e2⟩ := h1 j d e
    obtain ⟨v, e3, e4⟩ := r.rep j d e1
    exact ⟨v, by rw [e2]; exact e3, e4⟩, fun j d e => r.ty j d (h1 j d e).1, hl, r.tr⟩
theorem RelE.kind {kd kd' : Nat → Nat} {σ : Sg} {σc : L2.St} {Fs : Nat → List Addr} (r : RelE G kd σ σc H Fs) (h : ∀ (j : Nat) d, σ[j]? = some (some d) → kd' j = kd j) : RelE G kd' σ σc H Fs :=
  ⟨r.rep, fun j d e => by
    rw [h j d e]
    exact r.ty j d e, r.len, r.tr⟩
end
end Ev

/-! Part B7: the text's expressions against the small language's; one lemma a construct. -/
namespace Ev
open PySem PySem.Spec PyProof.Rows L2
def okT : IE → Bool
  | .ife .. => false
  | .not a => okT a
  | .bo _ a b => okT a && okT b
  | _ => true
def defT : Expr → Bool
  | .UnaryOp .Not _ _ => false
  | .BoolOp .. => false
  | .IfExp .. => false
  | .Compare .. => false
  | _ => true
def ownNs : List Nat → List Expr → List (Str × Nat)
  | i :: is, .Name x _ :: es => (x, i) :: ownNs is es
  | _, _ => []
def ownT : Tg → Expr → List (Str × Nat)
  | .one i, .Name x _ => [(x, i)]
  | .many is, .Tuple es _ _ => ownNs is es
  | _, _ => []
def isTup : Expr → Bool
  | .Tuple .. => true
  | _ => false
def boOp (o : Bool) : BoolOp := if o then .Or else .And
def mtName : MT → Str
  | .get => Str.ofString "get"
  | .getd => Str.ofString "get"
  | .index => Str.ofString "index"
  | .upper => Str.ofString "upper"
  | _ => Str.ofString ""
def baseB : Expr → Bool
  | .Call (.Name _ _) [] [] _ => false
  | _ => true
section
variable (Y : SX) (N : List Str)
mutual
def mE : IE → Scope → Expr → Bool
  | .var i, sc, e => match e with
    | .Name x _ => slotOk N sc i x
    | _ => false
  | .non, _, e => match e with
    | .Constant .none _ _ => true
    | _ => false
  | .bl b, _, e => match e with
    | .Constant (.bool c) _ _ => decide (b = c)
    | _ => false
  | .int n, sc, e => match e with
    | .Constant (.int m) _ _ => decide (n = m)
    | .Name x _ => glb sc x && (plainN x && decide (Y.ci.lookup x = some n))
    | _ => false
  | .str s, sc, e => match e with
    | .Constant (.str t) _ _ => decide (s = t)
    | .Name x _ => glb sc x && (plainN x && decide (Y.cs.lookup x = some s))
    | _ => false
  | .bin op a b, sc, e => match e with
    | .BinOp l o r _ => decide (op = o) && (mE a sc l && mE b sc r)
    | _ => false
  | .neg a, sc, e => match e with
    | .UnaryOp .USub x _ => mE a sc x
    | _ => false
  | .not a, sc, e => match e with
    | .UnaryOp .Not x _ => mE a sc x
    | _ => false
  | .bo o a b, sc, e => match e with
    | .BoolOp op [x, y] _ => decide (op = boOp o) && (mE a sc x && mE b sc y)
    | .BoolOp op (x :: y :: z :: r) pos => decide (op = boOp o) && (mE a sc x && mE b sc (.BoolOp op (y :: z :: r) pos))
    | _ => false
  | .cmp op a b, sc, e => match e with
    | .Compare l [o] [r] _ => decide (op = o) && (!behindInMarks op r && (mE a sc l && mE b sc r))
    | _ => false
  | .cmp2 op op' a b c, sc, e => match e with
    | .Compare l [o, o'] [r, s] _ => decide (op = o) && (decide (op' = o') && (!lastMarks [op, op'] [r, s] && (mE a sc l && (mE b sc r && mE c sc s))))
    | _ => false
  | .ife c a b, sc, e => match e with
    | .IfExp t x y _ => okT c && (mE c sc t && (mE a sc x && mE b sc y))
    | _ => false
  | .tup es, sc, e => match e with
    | .Tuple xs _ _ => mEs es sc xs
    | _ => false
  | .lst es, sc, e => match e with
    | .List xs _ => mEs es sc xs
    | _ => false
  | .idx a b, sc, e => match e with
    | .Subscript v s _ => plainE s && (mE a sc v && mE b sc s)
    | _ => false
  | .slc a lo hi, sc, e => match e with
    | .Subscript v (.Slice l h none _) _ => mE a sc v && (mO lo sc l && mO hi sc h)
    | _ => false
  | .rev a, sc, e => match e with
    | .Subscript v (.Slice none none (some (.UnaryOp .USub (.Constant (.int 1) _ _) _)) _) _ => mE a sc v
    | _ => false
  | .evr a lo, sc, e => match e with
    | .Subscript v (.Slice l none (some (.Constant (.int 2) _ _)) _) _ => mE a sc v && mO lo sc l
    | _ => false
  | .comp elt tg it ifs, sc, e => match e with
    | .ListComp x [⟨t, i, cs, asy⟩] scope _ => decide (asy = 0) && (plainE i && (mT N scope tg t && (blkC N sc scope (ownT tg t) && (mI it sc t i && (mC ifs (relS scope sc) cs && mE elt (relS scope sc) x)))))
    | _ => false
  | .call f es, sc, e => match e with
    | .Call (.Name x _) (a :: xs) [] _ => decide (Y.fns[f]? = some x) && (glb sc x && (plainN x && mEs es sc (a :: xs)))
    | _ => false
  | .calld f m es, sc, e => match e with
    | .Call (.Name x _) (a :: xs) [] _ => decide (Y.fns[f]? = some x ∧ m ≤ Y.df f) && (glb sc x && (plainN x && mEs es sc (a :: xs)))
    | _ => false
  | .bi b es, sc, e => match e with
    | .Call (.Name x _) (a :: xs) [] _ => decide (x = biName b) && (glb sc x && (plainN x && mEs es sc (a :: xs)))
    | _ => false
  | .isi a ts, sc, e => match e, ts with
    | .Call (.Name x _) [v, .Name y _] [] _, [t] => decide (x = Str.ofString "isinstance") && (glb sc x && (decide (y = Str.ofString (tyName t)) && (glb sc y && (decide (tyName t ≠ "") && (plainE v && mE a sc v)))))
    | _, _ => false
  | .lrg a, sc, e => match e with
    | .Call (.Name x _) [.Call (.Name y _) [p] [] _] [] _ => decide (x = Str.ofString "list") && (glb sc x && (decide (y = Str.ofString "range") && (glb sc y && (plainE p && mE a sc p))))
    | _ => false
  | .dct ks vs, _, e => match ks, vs, e with
    | .nil, .nil, .Dict [] [] _ => true
    | _, _, _ => false
  | .pix a b, sc, e => match e with
    | .Subscript v s _ => plainE s && (mE a sc v && mE b sc s)
    | _ => false
  | .lsp a, sc, e => match e with
    | .Call (.Name x _) [v] [] _ => decide (x = biName .list) && (glb sc x && (plainN x && (plainE v && mE a sc v)))
    | _ => false
  | .srs a, sc, e => match e with
    | .Call (.Name x _) [.Call (.Name y _) [p] [] _] [] _ => decide (x = Str.ofString "sorted") && (glb sc x && (decide (y = Str.ofString "set") && (glb sc y && (plainE p && mE a sc p))))
    | _ => false
  | .mth m o es, sc, e => match e with
    | .Call (.Attribute x n ap) [] [] cp => decide (n = mtName m) && (decide (m = .upper) && (baseB x && (decide ((ap.endLine == cp.line) = true) && (mE o sc x && mEs es sc []))))
    | .Call (.Attribute x n ap) [a] [] cp => decide (n = mtName m) && (baseB x && (decide ((ap.endLine == cp.line) = true) && (mE o sc x && mEs es sc [a])))
    | .Call (.Attribute x n ap) [a, b] [] cp => decide (n = mtName m) && (baseB x && (decide ((ap.endLine == cp.line) = true) && (mE o sc x && mEs es sc [a, b])))
    | _ => false
  | .omt m o es, sc, e => match e with
    | .Call (.Attribute x n ap) (a :: xs) [] p => decide (Y.mths[m]? = some n) && (baseB x && (decide ((ap.endLine == p.line) = true) && (decide (xs.length < 10) && (mE o sc x && mEs es sc (a :: xs)))))
    | _ => false
  | .mk c, sc, e => match e with
    | .Call (.Name x _) [] [] _ => decide (Y.cls[c]? = some x) && (glb sc x && plainN x)
    | _ => false
  | .dsl k v, sc, e => match e with
    | .Dict [some a] [b] _ => mE k sc a && mE v sc b
    | _ => false
  | .dsp es, sc, e => match e with
    | .Dict (k :: ks) vs _ => decide ((k :: ks).length = vs.length) && (decide ((k :: ks).length ≤ 15) && mPs es sc (k :: ks) vs)
    | _ => false
def mPs : IEs → Scope → List (Option Expr) → List Expr → Bool
  | .nil, _, ks, vs => ks.isEmpty && vs.isEmpty
  | .cons _ .nil, _, _, _ => false
  | .cons k (.cons v r), sc, ks, vs => match ks, vs with
    | some a :: ks, b :: vs => mE k sc a && (mE v sc b && mPs r sc ks vs)
    | _, _ => false
def mEs : IEs → Scope → List Expr → Bool
  | .nil, _, xs => xs.isEmpty
  | .cons e es, sc, xs => match xs with
    | x :: xs => plainE x && (mE e sc x && mEs es sc xs)
    | [] => false
def mO : IEo → Scope → Option Expr → Bool
  | .no, _, x => x.isNone
  | .so e, sc, x => match x with
    | some y => mE e sc y
    | none => false
def mC : IEo → Scope → List Expr → Bool
  | .no, _, xs => xs.isEmpty
  | .so e, sc, xs => match xs with
    | [c] => okT e && mE e sc c
    | _ => false
def mI : II → Scope → Expr → Expr → Bool
  | .el e, sc, _, i => mE e sc i
  | .rg1 a, sc, _, i => match i with
    | .Call (.Name x _) [p] [] _ => decide (x = Str.ofString "range") && (glb sc x && (plainE p && mE a sc p))
    | _ => false
  | .rg2 a b, sc, _, i => match i with
    | .Call (.Name x _) [p, q] [] _ => decide (x = Str.ofString "range") && (glb sc x && (plainE p && (plainE q && (mE a sc p && mE b sc q))))
    | _ => false
  | .rg3 a b c, sc, _, i => match i with
    | .Call (.Name x _) [p, q, r] [] _ => decide (x = Str.ofString "range") && (glb sc x && (plainE p && (plainE q && (plainE r && (mE a sc p && (mE b sc q && mE c sc r))))))
    | _ => false
  | .enu a, sc, t, i => match i with
    | .Call (.Name x _) [p] [] _ => isTup t && (decide (x = Str.ofString "enumerate") && (glb sc x && (plainE p && mE a sc p)))
    | _ => false
  | .zip a b, sc, t, i => match i with
    | .Call (.Name x _) [p, q] [] _ => isTup t && (decide (x = Str.ofString "zip") && (glb sc x && (plainE p && (plainE q && (mE a sc p && mE b sc q)))))
    | _ => false
  | .rvs a, sc, _, i => match i with
    | .Call (.Name x _) [p] [] _ => decide (x = Str.ofString "reversed") && (glb sc x && (plainE p && mE a sc p))
    | _ => false
  | .itms a, sc, t, i => match i with
    | .Call (.Attribute x n ap) [] [] cp => isTup t && (decide (n = Str.ofString "items") && (baseB x && (decide ((ap.endLine == cp.line) = true) && mE a sc x)))
    | _ => false
end
end
section
variable {Y : SX} {N : List Str} {X : Cx} {kd : Nat → Nat}
theorem pt_def {e : Expr} {ie : IE} (ha : PE X e (tE Y (gc Y X) kd ie)) (hd : defT e = true) : PT X e (tT Y (gc Y X) kd ie) := by
  have he : ∀ whole, isTrue e X.env whole = (do let v ← whole; standAt e.pos; holding [v] (truthy v)) := by
    intro whole
    cases e with
    | UnaryOp op x p => cases op <;> first | rfl | (simp [defT] at hd)
    | _ => first | rfl | (simp [defT] at hd)
  refine PT.imp (pt_truth ha he) fun σ H Q h => ?_
  obtain ⟨s, Fs, d, k, r, h1, h2, q⟩ := h
  exact ⟨s, Fs, d, r, h1, fun v H' F rs => ⟨k, truth_ok h2 rs.rep, q H' rs.same⟩⟩
/-- a result without lists -/
theorem tE_pure {ie : IE} {σ : Sg} {Fs : Nat → List Addr} {H H1 : Hp} {v : V} {d : D} {Q : VK} (q : ∀ v H' F, Rs (gc Y X) (tyE Y.sg Y.ms ie kd) (frE Y.sg Y.ms ie kd) (alP Y.sg Y.ms ie kd) σ Fs H v d F H' → Q v H') (s : Same H H1) (r : Rep (gc Y X) H1 v d []) (h : d.pure = true) : Q v H1 := q v H1 [] (Rs.pure s r h)
theorem s_var {i : Nat} {sc : Scope} {e : Expr} (C : Ctx Y N X) (hsc : X.env.scope = sc) (h : mE Y N (.var i) sc e = true) : PE X e (tE Y (gc Y X) kd (.var i)) := by
  simp only [mE] at h
  split at h
  · rename_i x p
    unfold slotOk at h
    rw [Bool.and_eq_true, Bool.and_eq_true] at h
    obtain ⟨⟨h1, h2⟩, h3⟩ := h
    obtain ⟨n1, n2, _⟩ := plainN_ok h3
    have h1 : X.N[i]? = some x := by rw [C.N]; exact of_decide_eq_true h1
    refine PE.imp (pe_var h1 (by rw [hsc]; exact vis_ok h2) n1 n2) fun σ H Q hq => ?_
    obtain ⟨s, Fs, d, r, h4, q⟩ := hq
    have h4 : getV s i = .ok d := h4
    unfold getV at h4
    split at h4
    · rename_i d' e
      cases h4
      obtain ⟨v, e1, e2⟩ := r.rep i d e
      have ht := r.ty i d e
      refine ⟨v, e1, q v H (Fs i) (Rs.mk0 (Same.refl H) e2 ht ?_ (fun _ a ha => .inr (.inl ⟨i, by simp, ha⟩)) fun _ a ha => .inr (.inr ⟨i, by simp, ?_⟩))⟩
      · show FrOk (fr0 (kd i) 3) H v d (Fs i)
        unfold fr0
        split
        · rename_i z
          rw [z] at ht
          exact FrOk.pure ht (e2.pure_nil ht)
        · exact FrOk.three (Nat.le_refl 3)
      · unfold inn
        rw [e]
        exact ha
    · cases h4
  · cases h
theorem s_bin {op : Operator} {a b : IE} {l r : Expr} {p : Pos} (ha : PE X l (tE Y (gc Y X) kd a)) (hb : PE X r (tE Y (gc Y X) kd b)) : PE X (.BinOp l op r p) (tE Y (gc Y X) kd (.bin op a b)) := by
  refine PE.imp (pe_op (op_bin op) ha hb) fun σ H Q h => ?_
  obtain ⟨s, Fs, d, rl, h1, q⟩ := h
  obtain ⟨da, ea, h2⟩ := bind_ok (show (evE Y.Φ Y.M a s).bind _ = _ from h1)
  obtain ⟨db, eb, h3⟩ := bind_ok h2
  refine ⟨s, Fs, da, rl, ea, fun x H1 F1 r1 => ⟨s, Fs, db, rl.same r1.same, eb, fun y H2 F2 r2 => ?_⟩⟩
  refine bin_ok h3 (r1.rep.same r2.same) r2.rep fun v H' F sm rv tn al => q v H' F ?_
  have s2 := r1.same.trans r2.same
  have ty : TyOk (tyE Y.sg Y.ms (.bin op a b) kd) d := bin_ty h3 r1.ty r2.ty
  have al' : ∀ c ∈ F, H c = none ∨ InAl s Fs ((alP Y.sg Y.ms a kd).2.un (alP Y.sg Y.ms b kd).2) c := fun c hc => by
    rcases al c hc with z | z | z
    · exact .inl (s2.free z)
    · exact (r1.an c z).imp id .left
    · rcases r2.an c z with z | z
      · exact .inl (r1.same.free z)
      · exact .inr (.right z)
  exact Rs.mk0 (s2.trans sm) rv ty (FrOk.back s2 (FrOk.of_fr1 rv ty tn)) (fun _ => al') fun _ c hc => al' c (innF_sub hc)
theorem s_neg {a : IE} {l : Expr} {p : Pos} (ha : PE X l (tE Y (gc Y X) kd a)) : PE X (.UnaryOp .USub l p) (tE Y (gc Y X) kd (.neg a)) := by
  refine PE.imp (pe_un un_neg ha) fun σ H Q h => ?_
  obtain ⟨s, Fs, d, rl, h1, q⟩ := h
  obtain ⟨da, ea, h2⟩ := bind_ok (show (evE Y.Φ Y.M a s).bind _ = _ from h1)
  refine ⟨s, Fs, da, rl, ea, fun x H1 F1 r1 => ?_⟩
  split at h2
  · cases h2
    have e := r1.rep.scalar
    exact ⟨_, e, tE_pure q r1.same (.int _) rfl⟩
  · cases h2
theorem s_not {a : IE} {l : Expr} {p : Pos} (ha : PE X l (tE Y (gc Y X) kd a)) : PE X (.UnaryOp .Not l p) (tE Y (gc Y X) kd (.not a)) := by
  refine PE.imp (pe_notT ha) fun σ H Q h => ?_
  obtain ⟨s, Fs, d, rl, h1, q⟩ := h
  obtain ⟨da, ea, h2⟩ := bind_ok (show (evE Y.Φ Y.M a s).bind _ = _ from h1)
  obtain ⟨k, ek, h3⟩ := bind_ok h2
  cases h3
  exact ⟨s, Fs, da, rl, ea, fun x H1 F1 r1 => ⟨k, truth_ok ek r1.rep, tE_pure q r1.same (.bl _) rfl⟩⟩
theorem t_not {a : IE} {l : Expr} {p : Pos} (ha : PT X l (tT Y (gc Y X) kd a)) : PT X (.UnaryOp .Not l p) (tT Y (gc Y X) kd (.not a)) := by
  refine PT.imp (pt_not ha) fun σ H Q h => ?_
  obtain ⟨s, Fs, d, k, rl, h1, h2, q⟩ := h
  obtain ⟨da, ea, h3⟩ := bind_ok (show (evE Y.Φ Y.M a s).bind _ = _ from h1)
  obtain ⟨k', ek, h4⟩ := bind_ok h3
  cases h4
  cases h2
  exact ⟨s, Fs, da, k', rl, ea, ek, fun H' sm => q H' sm⟩
theorem s_cmp (C : Ctx Y N X) {op : CmpOp} {a b : IE} {l r : Expr} {p : Pos} (ha : PE X l (tE Y (gc Y X) kd a)) (hb : PE X r (tE Y (gc Y X) kd b)) (hm : behindInMarks op r = false) : PE X (.Compare l [op] [r] p) (tE Y (gc Y X) kd (.cmp op a b)) := by
  refine PE.imp (pe_cmpR (op_cmp C.hu op) ha hb hm) fun σ H Q h => ?_
  obtain ⟨s, Fs, d, rl, h1, q⟩ := h
  obtain ⟨da, ea, h2⟩ := bind_ok (show (evE Y.Φ Y.M a s).bind _ = _ from h1)
  obtain ⟨db, eb, h3⟩ := bind_ok h2
  obtain ⟨k, ek, h4⟩ := bind_ok h3
  cases h4
  refine ⟨s, Fs, da, rl, ea, fun x H1 F1 r1 => ⟨s, Fs, db, rl.same r1.same, eb, fun y H2 F2 r2 => ?_⟩⟩
  exact cmp_ok ek (r1.rep.same r2.same) r2.rep (tE_pure q (r1.same.trans r2.same) (.bl _) rfl)
theorem t_cmp (C : Ctx Y N X) {op : CmpOp} {a b : IE} {l r : Expr} {p : Pos} (ha : PE X l (tE Y (gc Y X) kd a)) (hb : PE X r (tE Y (gc Y X) kd b)) (hm : behindInMarks op r = false) : PT X (.Compare l [op] [r] p) (tT Y (gc Y X) kd (.cmp op a b)) := by
  refine PT.imp (pt_cmpR (op_cmp C.hu op) ha hb hm) fun σ H Q h => ?_
  obtain ⟨s, Fs, d, k0, rl, h1, h0, q⟩ := h
  obtain ⟨da, ea, h2⟩ := bind_ok (show (evE Y.Φ Y.M a s).bind _ = _ from h1)
  obtain ⟨db, eb, h3⟩ := bind_ok h2
  obtain ⟨k, ek, h4⟩ := bind_ok h3
  cases h4
  cases h0
  refine ⟨s, Fs, da, rl, ea, fun x H1 F1 r1 => ⟨s, Fs, db, rl.same r1.same, eb, fun y H2 F2 r2 => ?_⟩⟩
  exact cmp_ok ek (r1.rep.same r2.same) r2.rep ⟨_, rfl, q _ (r1.same.trans r2.same)⟩
/-- the chain's reading -/
theorem chain_ok {op op' : CmpOp} {a b c : IE} {σ : L2.St} {H : Hp} {Q : VK} {s : Sg} {Fs : Nat → List Addr} {d : D} (rl : RelE (gc Y X) kd s σ H Fs) (h1 : evE Y.Φ Y.M (.cmp2 op op' a b c) s = .ok d) (q : ∀ k H', d = .bl k → Same H H' → Q (.bl k) H') :
    tChain (rCmp X.prog X.w X.K op) (rCmp X.prog X.w X.K op') (tE Y (gc Y X) kd a) (tE Y (gc Y X) kd b) (tE Y (gc Y X) kd c) σ H Q := by
  obtain ⟨da, ea, h2⟩ := bind_ok (show (evE Y.Φ Y.M a s).bind _ = _ from h1)
  obtain ⟨db, eb, h3⟩ := bind_ok h2
  obtain ⟨k, ek, h4⟩ := bind_ok h3
  refine ⟨s, Fs, da, rl, ea, fun x H1 F1 r1 => ⟨s, Fs, db, rl.same r1.same, eb, fun y H2 F2 r2 => ?_⟩⟩
  have s2 := r1.same.trans r2.same
  refine cmp_ok ek (r1.rep.same r2.same) r2.rep ⟨k, rfl, ?_⟩
  cases k with
  | false =>
    cases h4
    exact iteF (q false H2 rfl s2)
  | true =>
    obtain ⟨dc, ec, h5⟩ := bind_ok (show (evE Y.Φ Y.M c s).bind _ = _ from h4)
    obtain ⟨k', ek', h6⟩ := bind_ok h5
    cases h6
    refine iteT ⟨s, Fs, dc, rl.same s2, ec, fun z H3 F3 r3 => ?_⟩
    exact cmp_ok ek' (r2.rep.same r3.same) r3.rep (q k' H3 rfl (s2.trans r3.same))
theorem s_cmp2 (C : Ctx Y N X) {op op' : CmpOp} {a b c : IE} {l r t : Expr} {p : Pos} (ha : PE X l (tE Y (gc Y X) kd a)) (hb : PE X r (tE Y (gc Y X) kd b)) (hc : PE X t (tE Y (gc Y X) kd c)) (hm : lastMarks [op, op'] [r, t] = false) :
    PE X (.Compare l [op, op'] [r, t] p) (tE Y (gc Y X) kd (.cmp2 op op' a b c)) := by
  refine PE.imp (pe_chain (op_cmp C.hu op) (op_cmp C.hu op') ha hb hc hm) fun σ H Q h => ?_
  obtain ⟨s, Fs, d, rl, h1, q⟩ := h
  exact chain_ok rl h1 fun k H' e sm => by
    subst e
    exact tE_pure q sm (.bl _) rfl
theorem t_cmp2 (C : Ctx Y N X) {op op' : CmpOp} {a b c : IE} {l r t : Expr} {p : Pos} (ha : PE X l (tE Y (gc Y X) kd a)) (hb : PE X r (tE Y (gc Y X) kd b)) (hc : PE X t (tE Y (gc Y X) kd c)) (hm : lastMarks [op, op'] [r, t] = false) :
    PT X (.Compare l [op, op'] [r, t] p) (tT Y (gc Y X) kd (.cmp2 op op' a b c)) := by
  refine PT.imp (pt_chain (op_cmp C.hu op) (op_cmp C.hu op') ha hb hc hm) fun σ H Q h => ?_
  obtain ⟨s, Fs, d, k0, rl, h1, h0, q⟩ := h
  refine chain_ok rl h1 fun k H' e sm => ?_
  subst e
  cases h0
  exact ⟨_, rfl, q H' sm⟩
theorem FrOk.up {k m : Nat} {H : Hp} {v : V} {d : D} {F : List Addr} (h : FrOk k H v d F) (hm : k ≤ m) : FrOk m H v d F :=
  ⟨fun e => h.1 (by omega), fun e => h.2 (by omega)⟩
theorem FrOk.of0 {t k : Nat} {G : GC} {H H' : Hp} {v : V} {d : D} {F : List Addr} (r : Rep G H' v d F) (ht : TyOk t d) (h : FrOk k H v d F) : FrOk (fr0 t k) H v d F := by
  unfold fr0
  split
  · rename_i z
    subst z
    exact FrOk.pure ht (r.pure_nil ht)
  · exact h
/-- one of two ways: the way of a -/
theorem way {t f : Nat} {w : Al} {a : Al × Al} {t' f' : Nat} {σ : Sg} {Fs : Nat → List Addr} {H H1 H' : Hp} {v : V} {d : D} {F : List Addr} {G : GC}
    (r : Rs G t' f' a σ Fs H v d F H') (s : Same H1 H) (ht : t' ≤ t) (hf : f' ≤ f) (ha : ∀ c, InAl σ Fs a.1 c → InAl σ Fs w c) : Rs G t (fr0 t f) (two (al0 (fr0 t f) w)) σ Fs H1 v d F H' := by
  have ty := TyOk.mono ht r.ty
  have al' : ∀ c ∈ F, H1 c = none ∨ InAl σ Fs w c := fun c hc => (r.al c hc).imp (s.free ·) (ha c)
  exact Rs.mk0 (s.trans r.same) r.rep ty (FrOk.of0 r.rep ty ((r.fr.back s).up hf)) (fun _ => al') fun _ c hc => al' c (innF_sub hc)
theorem s_bo (o : Bool) {a b : IE} {x : Expr} {rest : List Expr} {y : Expr} {p : Pos} (ha : PE X x (tE Y (gc Y X) kd a)) (hb : PE X (.BoolOp (boOp o) (y :: rest) p) (tE Y (gc Y X) kd b)) : PE X (.BoolOp (boOp o) (x :: y :: rest) p) (tE Y (gc Y X) kd (.bo o a b)) := by
  cases o with
  | true =>
    refine PE.imp (pe_orT ha hb) fun σ H Q h => ?_
    obtain ⟨s, Fs, d, rl, h1, q⟩ := h
    obtain ⟨da, ea, h2⟩ := bind_ok (show (evE Y.Φ Y.M a s).bind _ = _ from h1)
    obtain ⟨k, ek, h3⟩ := bind_ok h2
    refine ⟨s, Fs, da, rl, ea, fun v H1 F1 r1 => ⟨k, truth_ok ek r1.rep, ?_⟩⟩
    cases k with
    | true =>
      cases h3
      exact iteT (q v H1 F1 (way r1 (Same.refl H) (Nat.le_max_left _ _) (Nat.le_max_left _ _) fun c hc => .left hc))
    | false =>
      exact iteF ⟨s, Fs, d, rl.same r1.same, h3, fun v H2 F2 r2 => q v H2 F2 (way r2 r1.same (Nat.le_max_right _ _) (Nat.le_max_right _ _) fun c hc => .right hc)⟩
  | false =>
    refine PE.imp (pe_andT ha hb) fun σ H Q h => ?_
    obtain ⟨s, Fs, d, rl, h1, q⟩ := h
    obtain ⟨da, ea, h2⟩ := bind_ok (show (evE Y.Φ Y.M a s).bind _ = _ from h1)
    obtain ⟨k, ek, h3⟩ := bind_ok h2
    refine ⟨s, Fs, da, rl, ea, fun v H1 F1 r1 => ⟨k, truth_ok ek r1.rep, ?_⟩⟩
    cases k with
    | false =>
      cases h3
      exact iteF (q v H1 F1 (way r1 (Same.refl H) (Nat.le_max_left _ _) (Nat.le_max_left _ _) fun c hc => .left hc))
    | true =>
      exact iteT ⟨s, Fs, d, rl.same r1.same, h3, fun v H2 F2 r2 => q v H2 F2 (way r2 r1.same (Nat.le_max_right _ _) (Nat.le_max_right _ _) fun c hc => .right hc)⟩
theorem pw_of {op : BoolOp} {xs : List Expr} {p : Pos} {t : TT} (h : PT X (.BoolOp op xs p) t) : PW X (.BoolOp op xs p) t := ⟨fun _ pins s σ H Q I q => h.run pins s σ H Q I q⟩
theorem t_bo (o : Bool) {a b : IE} {x : Expr} {rest : List Expr} {y : Expr} {p : Pos} (ha : PT X x (tT Y (gc Y X) kd a)) (hb : PW X (.BoolOp (boOp o) (y :: rest) p) (tT Y (gc Y X) kd b)) : PT X (.BoolOp (boOp o) (x :: y :: rest) p) (tT Y (gc Y X) kd (.bo o a b)) := by
  cases o with
  | true =>
    refine PT.imp (pw_or ha hb).pt fun σ H Q h => ?_
    obtain ⟨s, Fs, d, k0, rl, h1, h0, q⟩ := h
    obtain ⟨da, ea, h2⟩ := bind_ok (show (evE Y.Φ Y.M a s).bind _ = _ from h1)
    obtain ⟨k, ek, h3⟩ := bind_ok h2
    refine ⟨s, Fs, da, k, rl, ea, ek, fun H1 sm => ?_⟩
    cases k with
    | true =>
      cases h3
      rw [h0] at ek
      cases ek
      exact iteT (q H1 sm)
    | false => exact iteF ⟨s, Fs, d, k0, rl.same sm, h3, h0, fun H2 sm2 => q H2 (sm.trans sm2)⟩
  | false =>
    refine PT.imp (pw_and ha hb).pt fun σ H Q h => ?_
    obtain ⟨s, Fs, d, k0, rl, h1, h0, q⟩ := h
    obtain ⟨da, ea, h2⟩ := bind_ok (show (evE Y.Φ Y.M a s).bind _ = _ from h1)
    obtain ⟨k, ek, h3⟩ := bind_ok h2
    refine ⟨s, Fs, da, k, rl, ea, ek, fun H1 sm => ?_⟩
    cases k with
    | false =>
      cases h3
      rw [h0] at ek
      cases ek
      exact iteF (q H1 sm)
    | true => exact iteT ⟨s, Fs, d, k0, rl.same sm, h3, h0, fun H2 sm2 => q H2 (sm.trans sm2)⟩
theorem s_ife {c a b : IE} {t x y : Expr} {p : Pos} (hc : PT X t (tT Y (gc Y X) kd c)) (ha : PE X x (tE Y (gc Y X) kd a)) (hb : PE X y (tE Y (gc Y X) kd b)) : PE X (.IfExp t x y p) (tE Y (gc Y X) kd (.ife c a b)) := by
  refine PE.imp (pe_ifExp hc ha hb) fun σ H Q h => ?_
  obtain ⟨s, Fs, d, rl, h1, q⟩ := h
  obtain ⟨dc, ec, h2⟩ := bind_ok (show (evE Y.Φ Y.M c s).bind _ = _ from h1)
  obtain ⟨k, ek, h3⟩ := bind_ok h2
  refine ⟨s, Fs, dc, k, rl, ec, ek, fun H1 sm => ?_⟩
  cases k with
  | true => exact iteT ⟨s, Fs, d, rl.same sm, h3, fun v H2 F2 r2 => q v H2 F2 (way r2 sm (Nat.le_max_left _ _) (Nat.le_max_left _ _) fun c hc => .left hc)⟩
  | false => exact iteF ⟨s, Fs, d, rl.same sm, h3, fun v H2 F2 r2 => q v H2 F2 (way r2 sm (Nat.le_max_right _ _) (Nat.le_max_right _ _) fun c hc => .right hc)⟩
/-! ### several expressions -/
theorem s_nil : PA X [] (tEs Y (gc Y X) kd .nil) := by
  refine PA.imp pa_nil fun σ H Q h => ?_
  obtain ⟨s, Fs, ds, rl, h1, q⟩ := h
  cases h1
  exact q [] H [] ⟨Same.refl H, .nil, trivial, fun _ => ⟨List.nodup_nil, fun a ha => nomatch ha⟩, fun a ha => (nomatch ha), fun d e => nomatch e⟩
theorem s_cons {e : IE} {es : IEs} {x : Expr} {xs : List Expr} (hp : plainE x = true) (ha : PE X x (tE Y (gc Y X) kd e)) (hb : PA X xs (tEs Y (gc Y X) kd es)) : PA X (x :: xs) (tEs Y (gc Y X) kd (.cons e es)) := by
  refine PA.imp (pa_cons ha hb (star_cons hp xs X.env)) fun σ H Q h => ?_
  obtain ⟨s, Fs, ds, rl, h1, q⟩ := h
  obtain ⟨d, ed, h2⟩ := bind_ok (show (evE Y.Φ Y.M e s).bind _ = _ from h1)
  obtain ⟨ds', eds, h3⟩ := bind_ok h2
  cases h3
  refine ⟨s, Fs, d, rl, ed, fun v H1 F1 r1 => ⟨s, Fs, ds', rl.same r1.same, eds, fun vs H2 F2 r2 => q _ H2 (F1 ++ F2) ?_⟩⟩
  refine ⟨r1.same.trans r2.same, .cons (r1.rep.same r2.same) r2.rep, ⟨r1.ty, r2.ty⟩, fun hf => ?_, fun a ha => ?_, fun d0 e0 a ha => ?_⟩
  · rw [frs1, Bool.and_eq_true] at hf
    obtain ⟨n1, f1⟩ := r1.fr.1 (of_decide_eq_true hf.1)
    obtain ⟨n2, f2⟩ := r2.fr hf.2
    refine ⟨List.nodup_append.mpr ⟨n1, n2, fun a ha b hb z => ?_⟩, fun a ha => ?_⟩
    · subst z
      obtain ⟨o, e⟩ := r1.rep.there a ha
      have := f2 a hb
      rw [e] at this
      cases this
    · rcases List.mem_append.mp ha with h | h
      · exact f1 a h
      · exact r1.same.free (f2 a h)
  · rcases List.mem_append.mp ha with h | h
    · exact (r1.al a h).imp id .left
    · rcases r2.al a h with z | z
      · exact .inl (r1.same.free z)
      · exact .inr (.right z)
  · obtain ⟨e1, e2⟩ := List.cons.inj e0
    subst e1
    subst e2
    cases r2.rep
    rw [List.append_nil] at ha
    exact (r1.an a ha).imp id .left
theorem nodup_lift {F : List Addr} {H H' : Hp} {p : Addr} (h : F.Nodup ∧ ∀ a ∈ F, H a = none) (hp : H' p = none) (s : Same H H') (hn : p ∉ F) : (p :: F).Nodup ∧ ∀ a ∈ p :: F, H a = none := by
  refine ⟨List.nodup_cons.mpr ⟨hn, h.1⟩, fun a ha => ?_⟩
  rcases List.mem_cons.mp ha with rfl | ha
  · exact s.free hp
  · exact h.2 a ha
theorem all0_pure {σ : Sg} : ∀ {es : IEs} {ds : List D}, evEs Y.Φ Y.M es σ = .ok ds → all0 Y.sg Y.ms es kd = true → tysOk Y kd es ds → pureAll ds = true
  | .nil, _, h, _, _ => by
    cases h
    rfl
  | .cons e es, _, h, h0, t => by
    obtain ⟨d, ed, h2⟩ := bind_ok (show (evE Y.Φ Y.M e σ).bind _ = _ from h)
    obtain ⟨ds', eds, h3⟩ := bind_ok h2
    cases h3
    rw [all0, Bool.and_eq_true] at h0
    have t1 := t.1
    rw [of_decide_eq_true h0.1] at t1
    rw [pureAll, Bool.and_eq_true]
    exact ⟨t1, all0_pure eds h0.2 t.2⟩
theorem all1_ep {σ : Sg} : ∀ {es : IEs} {ds : List D}, evEs Y.Φ Y.M es σ = .ok ds → all1 Y.sg Y.ms es kd = true → tysOk Y kd es ds → ∀ d ∈ ds, d.ep = true
  | .nil, _, h, _, _ => by
    cases h
    exact fun d hd => nomatch hd
  | .cons e es, _, h, h0, t => by
    obtain ⟨d, ed, h2⟩ := bind_ok (show (evE Y.Φ Y.M e σ).bind _ = _ from h)
    obtain ⟨ds', eds, h3⟩ := bind_ok h2
    cases h3
    rw [all1, Bool.and_eq_true] at h0
    intro d' hd
    rcases List.mem_cons.mp hd with rfl | hd
    · exact TyOk.mono (of_decide_eq_true h0.1) t.1
    · exact all1_ep eds h0.2 t.2 d' hd
theorem s_tup {es : IEs} {xs : List Expr} {k : Nat} {p : Pos} (ha : PA X xs (tEs Y (gc Y X) kd es)) : PE X (.Tuple xs k p) (tE Y (gc Y X) kd (.tup es)) := by
  refine PE.imp (pe_tup ha) fun σ H Q h => ?_
  obtain ⟨s, Fs, d, rl, h1, q⟩ := h
  obtain ⟨ds, eds, h2⟩ := bind_ok (show (evEs Y.Φ Y.M es s).bind _ = _ from h1)
  obtain ⟨_, hc, h3⟩ := bind_ok h2
  cases h3
  refine ⟨s, Fs, ds, rl, eds, fun vs H1 F r => ⟨by rw [r.rep.length]; exact of_decide_eq_true (chk_ok hc), fun t ht => q _ _ F ?_⟩⟩
  have ty : TyOk (tyE Y.sg Y.ms (.tup es) kd) (.tup ds) := by
    show TyOk (if all0 Y.sg Y.ms es kd then 0 else 2) _
    split
    · rename_i z
      show pureAll ds = true
      exact all0_pure eds z r.ty
    · trivial
  have fr : FrOk (frE Y.sg Y.ms (.tup es) kd) H (.ref t) (.tup ds) F := by
    show FrOk (if frs1 Y.sg Y.ms es kd then 1 else 2) _ _ _ _
    refine FrOk.noL _ rfl fun e => ?_
    split at e
    · rename_i z
      exact r.fr z
    · omega
  exact Rs.mk0 (r.same.trans (same_laid ht)) (.tup (SqT.of upd_same) (r.rep.laid ht)) ty fr (fun _ a ha => r.al a ha) fun _ a ha => r.al a (innF_sub ha)
theorem s_lst {es : IEs} {xs : List Expr} {p : Pos} (ha : PA X xs (tEs Y (gc Y X) kd es)) : PE X (.List xs p) (tE Y (gc Y X) kd (.lst es)) := by
  refine PE.imp (pe_lst ha) fun σ H Q h => ?_
  obtain ⟨s, Fs, d, rl, h1, q⟩ := h
  obtain ⟨ds, eds, h2⟩ := bind_ok (show (evEs Y.Φ Y.M es s).bind _ = _ from h1)
  obtain ⟨_, hc, h3⟩ := bind_ok h2
  cases h3
  refine ⟨s, Fs, ds, rl, eds, fun vs H1 F r => ⟨by rw [r.rep.length]; exact of_decide_eq_true (chk_ok hc), fun t ht => q _ _ (t :: F) ?_⟩⟩
  have ty : TyOk (tyE Y.sg Y.ms (.lst es) kd) (.lst ds) := by
    show TyOk (if all0 Y.sg Y.ms es kd then 1 else 2) _
    split
    · rename_i z
      show pureAll ds = true
      exact all0_pure eds z r.ty
    · trivial
  have nt := notin_none r.rep ht
  have fr : FrOk (frE Y.sg Y.ms (.lst es) kd) H (.ref t) (.lst ds) (t :: F) := by
    show FrOk (if frs1 Y.sg Y.ms es kd then 1 else 2) _ _ _ _
    refine ⟨fun e => ?_, fun _ _ => ⟨t, F, rfl, rfl, r.same.free ht, nt⟩⟩
    split at e
    · rename_i z
      exact nodup_lift (r.fr z) ht r.same nt
    · omega
  refine Rs.mk0 (r.same.trans (same_laid ht)) (.lst upd_same (r.rep.laid ht)) ty fr (fun _ a ha => ?_) fun _ a ha => r.al a ha
  rcases List.mem_cons.mp ha with rfl | ha
  · exact .inl (r.same.free ht)
  · exact r.al a ha
theorem s_idx (C : Ctx Y N X) {a b : IE} {l r : Expr} {p : Pos} (hp : plainE r = true) (ha : PE X l (tE Y (gc Y X) kd a)) (hb : PE X r (tE Y (gc Y X) kd b)) : PE X (.Subscript l r p) (tE Y (gc Y X) kd (.idx a b)) := by
  refine PE.imp (PE.or (pe_ix ix_seq ha hb (plainIx hp)) (PE.or (pe_dget (by have := C.hu; omega) ha hb (plainIx hp)) (pe_nget (by have := C.hu; omega) ha hb (plainIx hp)))) fun σ H Q h => ?_
  obtain ⟨s, Fs, d, rl, h1, q⟩ := h
  obtain ⟨da, ea, h2⟩ := bind_ok (show (evE Y.Φ Y.M a s).bind _ = _ from h1)
  obtain ⟨db, eb, h3⟩ := bind_ok h2
  have fin : ∀ {x y : V} {F1 F2 : List Addr} {H1 H2 : Hp}, Rs (gc Y X) (tyE Y.sg Y.ms a kd) (frE Y.sg Y.ms a kd) (alP Y.sg Y.ms a kd) s Fs H x da F1 H1 → Rs (gc Y X) (tyE Y.sg Y.ms b kd) (frE Y.sg Y.ms b kd) (alP Y.sg Y.ms b kd) s Fs H1 y db F2 H2 →
      ∀ v F, Rep (gc Y X) H2 v d F → (∀ c ∈ F, c ∈ innF da F1) → Q v H2 := fun {x y F1 F2 H1 H2} r1 r2 v F rv al => q v H2 F (by
    have s2 := r1.same.trans r2.same
    have ty : TyOk (tyE Y.sg Y.ms (.idx a b) kd) d := idx_ty h3 r1.ty
    have al' : ∀ c ∈ F, H c = none ∨ InAl s Fs (alP Y.sg Y.ms a kd).2 c := fun c hc => r1.an c (al c hc)
    exact Rs.mk0 s2 rv ty (FrOk.of0 rv ty (FrOk.three (Nat.le_refl 3))) (fun _ => al') fun _ c hc => al' c (innF_sub hc))
  by_cases hk : ∃ kvs, da = .dct kvs
  · obtain ⟨kvs, rfl⟩ := hk
    exact .inr (.inl ⟨s, Fs, _, rl, ea, fun x H1 F1 r1 => ⟨s, Fs, db, rl.same r1.same, eb, fun y H2 F2 r2 => idx_dct (G := gc Y X) h3 (r1.rep.same r2.same) r2.rep (fin r1 r2)⟩⟩)
  · by_cases hk2 : ∃ kvs, da = .dcn kvs
    · obtain ⟨kvs, rfl⟩ := hk2
      exact .inr (.inr ⟨s, Fs, _, rl, ea, fun x H1 F1 r1 => ⟨s, Fs, db, rl.same r1.same, eb, fun y H2 F2 r2 => idx_dcn (G := gc Y X) h3 (r1.rep.same r2.same) r2.rep (fin r1 r2)⟩⟩)
    · exact .inl ⟨s, Fs, da, rl, ea, fun x H1 F1 r1 => ⟨s, Fs, db, rl.same r1.same, eb, fun y H2 F2 r2 => idx_ok (G := gc Y X) h3 (r1.rep.same r2.same) r2.rep (fun kvs e => hk ⟨kvs, e⟩) (fun kvs e => hk2 ⟨kvs, e⟩) (fin r1 r2)⟩⟩
theorem s_dct0 {p : Pos} : PE X (.Dict [] [] p) (tE Y (gc Y X) kd (.dct .nil .nil)) := by
  refine PE.imp pe_dnewK fun σ H Q h => ?_
  obtain ⟨s, Fs, d, rl, h1, q⟩ := h
  cases h1
  intro t ht
  have rv : Rep (gc Y X) (upd H t (.dK [])) (.ref t) (.dct []) [t] := .dct upd_same rfl .nil
  exact q _ _ [t] ⟨same_laid ht, rv, rfl, ⟨fun _ => ⟨by simp, fun a ha => by
    rw [List.mem_singleton] at ha
    rw [ha]
    exact ht⟩, fun _ _ => ⟨t, [], rfl, rfl, ht, by simp⟩⟩, fun a ha => by
    rw [List.mem_singleton] at ha
    rw [ha]
    exact .inl ht, fun a ha => nomatch ha⟩
theorem p_no : PO X none (tPt Y (gc Y X) kd .no) := ⟨fun pins s σ H Q I h => by
  obtain ⟨sg, Fs, r, rl, h1, q⟩ := h
  cases h1
  exact po_none.run pins s σ H Q I (q H (Same.refl H))⟩
theorem p_so {e : IE} {x : Expr} (ha : PE X x (tE Y (gc Y X) kd e)) : PO X (some x) (tPt Y (gc Y X) kd (.so e)) := ⟨fun pins s σ H Q I h => by
  obtain ⟨sg, Fs, r, rl, h1, q⟩ := h
  obtain ⟨d, ed, h2⟩ := bind_ok (show (evE Y.Φ Y.M e sg).bind _ = _ from h1)
  refine (po_some ha).run pins s σ H Q I ⟨sg, Fs, d, rl, ed, fun v H' F rs => ?_⟩
  split at h2
  · cases h2
    exact ⟨_, rs.rep.scalar, q H' rs.same⟩
  · cases h2⟩
theorem s_slc {a : IE} {lo hi : IEo} {l : Expr} {x y : Option Expr} {p p2 : Pos} (ha : PE X l (tE Y (gc Y X) kd a)) (hl : PO X x (tPt Y (gc Y X) kd lo)) (hh : PO X y (tPt Y (gc Y X) kd hi)) :
    PE X (.Subscript l (.Slice x y none p2) p) (tE Y (gc Y X) kd (.slc a lo hi)) := by
  refine PE.imp (pe_slice sl_any ha hl hh) fun σ H Q h => ?_
  obtain ⟨s, Fs, d, rl, h1, q⟩ := h
  obtain ⟨da, ea, h2⟩ := bind_ok (show (evE Y.Φ Y.M a s).bind _ = _ from h1)
  obtain ⟨dl, el, h3⟩ := bind_ok h2
  obtain ⟨dh, eh, h4⟩ := bind_ok h3
  refine ⟨s, Fs, da, rl, ea, fun v H1 F1 r1 => ⟨s, Fs, dl, rl.same r1.same, el, fun H2 sm2 => ⟨s, Fs, dh, rl.same (r1.same.trans sm2), eh, fun H3 sm3 => ?_⟩⟩⟩
  have s2 := r1.same.trans (sm2.trans sm3)
  refine slc_ok h4 (r1.rep.same (sm2.trans sm3)) fun v H' F sm rv tn al => q v H' F ?_
  have ty : TyOk (tyE Y.sg Y.ms (.slc a lo hi) kd) d := slc_ty h4 r1.ty
  have al' : ∀ c ∈ F, H c = none ∨ InAl s Fs (alP Y.sg Y.ms a kd).2 c := fun c hc => by
    rcases al c hc with z | z
    · exact .inl (s2.free z)
    · exact r1.an c z
  exact Rs.mk0 (s2.trans sm) rv ty (FrOk.back s2 (FrOk.of_fr1 rv ty tn)) (fun _ => al') fun _ c hc => al' c (innF_sub hc)
theorem s_rev {a : IE} {l : Expr} {p p2 p3 p4 : Pos} {k : Nat} (ha : PE X l (tE Y (gc Y X) kd a)) : PE X (.Subscript l (.Slice none none (some (.UnaryOp .USub (.Constant (.int 1) k p4) p3)) p2) p) (tE Y (gc Y X) kd (.rev a)) := by
  refine PE.imp (PE.or (pe_revL ha) (pe_revT ha)) fun σ H Q h => ?_
  obtain ⟨s, Fs, d, rl, h1, q⟩ := h
  obtain ⟨da, ea, h2⟩ := bind_ok (show (evE Y.Φ Y.M a s).bind _ = _ from h1)
  split at h2
  · rename_i xs
    cases h2
    refine .inl ⟨s, Fs, _, rl, ea, fun v H1 F1 r1 => ?_⟩
    obtain ⟨sm1, rp1, ty1, fr1', al1, an1⟩ := r1
    cases rp1 with
    | lst e r =>
    obtain ⟨F', r', pm⟩ := r.rev
    refine ⟨_, _, rfl, SqL.of e, fun t ht => q _ _ (t :: F') ?_⟩
    have ty : TyOk (tyE Y.sg Y.ms (.rev a) kd) (.lst xs.reverse) := by
      show TyOk (tyE Y.sg Y.ms a kd) _
      match h : tyE Y.sg Y.ms a kd with
      | 0 =>
        rw [h] at ty1
        simp [TyOk, D.pure] at ty1
      | 1 =>
        rw [h] at ty1
        simp [TyOk, D.ep] at ty1 ⊢
        exact pureAll_sub ty1 fun d hd => List.mem_reverse.mp hd
      | _ + 2 => trivial
    have al' : ∀ c ∈ F', H c = none ∨ InAl s Fs (alP Y.sg Y.ms a kd).2 c := fun c hc => an1 c (pm.mem_iff.mp hc)
    have rv : Rep (gc Y X) (upd H1 t (.lst _)) (.ref t) (.lst xs.reverse) (t :: F') := .lst upd_same (r'.laid ht)
    refine Rs.mk0 (sm1.trans (same_laid ht)) rv ty (FrOk.back sm1 (FrOk.of_fr1 rv ty fun _ => ⟨t, F', rfl, rfl, ht, notin_none r' ht⟩)) (fun _ c hc => ?_) fun _ c hc => al' c hc
    rcases List.mem_cons.mp hc with rfl | hc
    · exact .inl (sm1.free ht)
    · exact al' c hc
  · rename_i xs
    cases h2
    refine .inr ⟨s, Fs, _, rl, ea, fun v H1 F1 r1 => ?_⟩
    obtain ⟨sm1, rp1, ty1, fr1', al1, an1⟩ := r1
    cases rp1 with
    | tup e r =>
    obtain ⟨F', r', pm⟩ := r.rev
    refine ⟨_, _, rfl, e, fun t ht => q _ _ F' ?_⟩
    have ty : TyOk (tyE Y.sg Y.ms (.rev a) kd) (.tup xs.reverse) := by
      show TyOk (tyE Y.sg Y.ms a kd) _
      match h : tyE Y.sg Y.ms a kd with
      | 0 =>
        rw [h] at ty1
        simp [TyOk, D.pure] at ty1 ⊢
        exact pureAll_sub ty1 fun d hd => List.mem_reverse.mp hd
      | 1 =>
        rw [h] at ty1
        simp [TyOk, D.ep, D.pure] at ty1 ⊢
        exact pureAll_sub ty1 fun d hd => List.mem_reverse.mp hd
      | _ + 2 => trivial
    have al' : ∀ c ∈ F', H c = none ∨ InAl s Fs (alP Y.sg Y.ms a kd).2 c := fun c hc => an1 c (pm.mem_iff.mp hc)
    have rv : Rep (gc Y X) (upd H1 t (.tup _)) (.ref t) (.tup xs.reverse) F' := .tup (SqT.of upd_same) (r'.laid ht)
    exact Rs.mk0 (sm1.trans (same_laid ht)) rv ty (FrOk.back sm1 (FrOk.of_fr1 rv ty fun e => by cases e)) (fun _ => al') fun _ => al'
  · cases h2
theorem s_evr {a : IE} {lo : IEo} {l : Expr} {x : Option Expr} {p p2 p3 : Pos} {k : Nat} (ha : PE X l (tE Y (gc Y X) kd a)) (hl : PO X x (tPt Y (gc Y X) kd lo)) : PE X (.Subscript l (.Slice x none (some (.Constant (.int 2) k p3)) p2) p) (tE Y (gc Y X) kd (.evr a lo)) := by
  refine PE.imp (pe_evr ha hl) fun σ H Q h => ?_
  obtain ⟨s, Fs, d, rl, h1, q⟩ := h
  obtain ⟨da, ea, h2⟩ := bind_ok (show (evE Y.Φ Y.M a s).bind _ = _ from h1)
  obtain ⟨o, eo, h3⟩ := bind_ok h2
  refine ⟨s, Fs, da, rl, ea, fun v H1 F1 r1 => ⟨s, Fs, o, rl.same r1.same, eo, fun H2 sm2 => ?_⟩⟩
  split at h3
  · rename_i xs
    obtain ⟨_, hc, h4⟩ := bind_ok h3
    cases h4
    have rp := r1.rep.same sm2
    cases rp with
    | lst e r =>
    rename_i vs F0
    have e1 := r.pure_nil (chk_ok hc)
    refine ⟨_, _, rfl, SqL.of e, fun t ht => q _ _ [t] ?_⟩
    have r' : Reps (gc Y X) H2 (pickE vs o) (pickE xs o) [] := by
      unfold pickE
      rw [r.length]
      exact r.pick e1 _
    have pp : pureAll (pickE xs o) = true := pureAll_sub (chk_ok hc) fun d hd => by
      obtain ⟨i, _, e⟩ := List.mem_filterMap.mp hd
      exact List.mem_of_getElem? e
    have sm := r1.same.trans sm2
    have rv : Rep (gc Y X) (upd H2 t (.lst _)) (.ref t) (.lst (pickE xs o)) [t] := .lst upd_same (r'.laid ht)
    have ty : TyOk 1 (.lst (pickE xs o)) := pp
    have nw : ∀ c ∈ [t], H c = none := fun c hc => by
      rw [List.mem_singleton] at hc
      subst hc
      exact sm.free ht
    exact ⟨sm.trans (same_laid ht), rv, ty, FrOk.back sm (show FrOk (fr1 1) H2 (.ref t) (.lst (pickE xs o)) [t] from FrOk.of_fr1 rv ty fun _ => ⟨t, [], rfl, rfl, ht, by simp⟩), (fun c hc => .inl (nw c hc)), fun c hc => nomatch hc⟩
  · cases h3
/-! ### calls -/
theorem bname_gl (C : Ctx Y N X) {x : String} (h : x ∈ bnames) : X.mg (Str.ofString x) = none := C.bn x h
theorem s_bi (C : Ctx Y N X) {b : BI} {es : IEs} {x : Expr} {xs : List Expr} {p p2 : Pos} (hg : glb X.env.scope (biName b) = true) (hn : plainN (biName b) = true) (hx : (x :: xs).all plainE = true) (ha : PA X (x :: xs) (tEs Y (gc Y X) kd es)) :
    PE X (.Call (.Name (biName b) p2) (x :: xs) [] p) (tE Y (gc Y X) kd (.bi b es)) := by
  have hm : X.mg (biName b) = none := by cases b <;> exact C.bn _ (by decide)
  rw [List.all_cons, Bool.and_eq_true] at hx
  obtain ⟨n1, n2, n3⟩ := plainN_ok hn
  have base : PE X (.Call (.Name (biName b) p2) (x :: xs) [] p) (tCB (rBi X.prog X.w X.K b) (tEs Y (gc Y X) kd es)) := by
    have cb := call_bi (X := X) C.calm C.hu b
    have bb := boot_bi b
    cases b <;> first
      | exact pe_callB cb (glb_ok hg) hm bb ha n3 n1 (star_cons hx.1 xs X.env) (star_none hx.2 p X.env)
      | exact pe_callTy cb (glb_ok hg) hm bb ha n3 n1 (star_cons hx.1 xs X.env) (star_none hx.2 p X.env)
  refine PE.imp base fun σ H Q h => ?_
  obtain ⟨s, Fs, d, rl, h1, q⟩ := h
  obtain ⟨ds, eds, h2⟩ := bind_ok (show (evEs Y.Φ Y.M es s).bind _ = _ from h1)
  refine ⟨s, Fs, ds, rl, eds, fun vs H1 F r => ?_⟩
  refine bi_ok h2 r.rep fun v H' F' sm rv tn al hs ht => q v H' F' ?_
  have al' : ∀ c ∈ F', H c = none ∨ InAl s Fs (als Y.sg Y.ms es kd).2 c := fun c hc => by
    rcases al c hc with z | ⟨e, z1, z2⟩
    · exact .inl (r.same.free z)
    · exact r.an e z1 c z2
  have tnH := TopNew.back r.same tn
  have big : ∀ (t f : Nat), TyOk t d → FrOk f H v d F' → Rs (gc Y X) t f (two (al0 f (als Y.sg Y.ms es kd).2)) s Fs H v d F' H' := fun t f ty fr =>
    Rs.mk0 (r.same.trans sm) rv ty fr (fun _ => al') fun _ c hc => al' c (innF_sub hc)
  have hpure : ∀ f, d.pure = true → FrOk f H v d F' := fun f hp => FrOk.pure hp (rv.pure_nil hp)
  have ty : TyOk (tyE Y.sg Y.ms (.bi b es) kd) d := by
    unfold biD at h2
    split at h2
    · cases h2; exact TyOk.pure rfl _
    · cases h2; exact TyOk.pure rfl _
    · cases h2; exact TyOk.pure rfl _
    · obtain ⟨_, hc, h2⟩ := bind_ok h2
      cases h2; exact TyOk.pure rfl _
    · cases h2
      show TyOk (if all1 Y.sg Y.ms es kd then 1 else 2) _
      split
      · rename_i z
        have := all1_ep eds z r.ty _ (List.mem_cons_self ..)
        simpa [TyOk, D.ep] using this
      · trivial
    · cases h2
      show TyOk (if all1 Y.sg Y.ms es kd then 1 else 2) _
      split
      · rename_i z
        have := all1_ep eds z r.ty _ (List.mem_cons_self ..)
        simpa [TyOk, D.ep, D.pure] using this
      · trivial
    · cases h2
      show TyOk (if all1 Y.sg Y.ms es kd then 0 else 2) _
      split
      · rename_i z
        have := all1_ep eds z r.ty _ (List.mem_cons_self ..)
        simpa [TyOk, D.ep, D.pure] using this
      · trivial
    · cases h2
      show TyOk (if all1 Y.sg Y.ms es kd then 0 else 2) _
      split
      · rename_i z
        have := all1_ep eds z r.ty _ (List.mem_cons_self ..)
        simpa [TyOk, D.ep, D.pure] using this
      · trivial
    · split at h2
      · cases h2
        show pureAll _ = true
        exact pureAll_mem fun d hd => by
          obtain ⟨i, _, rfl⟩ := List.mem_map.mp hd
          rfl
      · obtain ⟨_, hc, h2⟩ := bind_ok h2
        cases h2
        show pureAll _ = true
        exact pureAll_sub (sortable_pure (chk_ok hc)) fun d hd => (List.mem_mergeSort).mp hd
    · split at h2
      · cases h2; exact TyOk.pure rfl _
      · cases h2
    · cases h2; exact TyOk.pure rfl _
    · cases h2; exact TyOk.pure rfl _
    · split at h2
      · cases h2; exact TyOk.pure rfl _
      · cases h2
    · split at h2
      · cases h2; exact TyOk.pure rfl _
      · cases h2
    · split at h2
      · cases h2; exact TyOk.pure rfl _
      · cases h2
    · split at h2
      · cases h2; exact TyOk.pure rfl _
      · cases h2
    · cases h2; exact TyOk.pure rfl _
    · cases h2; exact TyOk.pure rfl _
    · obtain ⟨_, hc, h2⟩ := bind_ok h2
      cases h2; exact TyOk.pure rfl _
    · cases h2; exact TyOk.pure rfl _
    · cases h2; exact TyOk.pure rfl _
    · split at h2
      · cases h2; exact TyOk.pure rfl _
      · cases h2
    · cases h2
  refine big _ _ ty ?_
  · unfold biD at h2
    split at h2
    · cases h2; exact hpure _ rfl
    · cases h2; exact hpure _ rfl
    · cases h2; exact hpure _ rfl
    · obtain ⟨_, hc, h2⟩ := bind_ok h2
      cases h2; exact hpure _ rfl
    · cases h2
      exact FrOk.of_fr1 rv ty tnH
    · cases h2
      exact FrOk.of_fr1 rv ty tnH
    · cases h2
      refine FrOk.of0 rv ty (FrOk.noL _ rfl fun e => ?_)
      split at e
      · rename_i z
        obtain ⟨n1, f1⟩ := r.fr z
        refine ⟨ht rfl _ rfl n1, fun a ha => ?_⟩
        rcases al a ha with z | ⟨e, z1, z2⟩
        · exact r.same.free z
        · exact f1 a (innF_sub z2)
      · omega
    · cases h2
      refine FrOk.of0 rv ty (FrOk.noL _ rfl fun e => ?_)
      split at e
      · rename_i z
        obtain ⟨n1, f1⟩ := r.fr z
        refine ⟨ht rfl _ rfl n1, fun a ha => ?_⟩
        rcases al a ha with z | ⟨e, z1, z2⟩
        · exact r.same.free z
        · exact f1 a (innF_sub z2)
      · omega
    · split at h2
      · cases h2
        obtain ⟨n1, f1⟩ := hs rfl
        exact ⟨fun _ => ⟨n1, fun a ha => r.same.free (f1 a ha)⟩, fun _ => tnH⟩
      · obtain ⟨_, hc, h2⟩ := bind_ok h2
        cases h2
        obtain ⟨n1, f1⟩ := hs rfl
        exact ⟨fun _ => ⟨n1, fun a ha => r.same.free (f1 a ha)⟩, fun _ => tnH⟩
    · split at h2
      · cases h2; exact hpure _ rfl
      · cases h2
    · cases h2; exact hpure _ rfl
    · cases h2; exact hpure _ rfl
    · split at h2
      · cases h2; exact hpure _ rfl
      · cases h2
    · split at h2
      · cases h2; exact hpure _ rfl
      · cases h2
    · split at h2
      · cases h2; exact hpure _ rfl
      · cases h2
    · split at h2
      · cases h2; exact hpure _ rfl
      · cases h2
    · cases h2; exact hpure _ rfl
    · cases h2; exact hpure _ rfl
    · obtain ⟨_, hc, h2⟩ := bind_ok h2
      cases h2; exact hpure _ rfl
    · cases h2; exact hpure _ rfl
    · cases h2; exact hpure _ rfl
    · split at h2
      · cases h2; exact hpure _ rfl
      · cases h2
    · cases h2
end
end Ev

/-! Part Z: zip of a list and a tuple, either way about. -/
namespace Ev
open PySem PySem.Spec PyProof.Rows L2
/-- a list (true) or a tuple (false) -/
def SqX (K : PySem.W.Frag) (H : Hp) : Bool → Addr → List V → Prop
  | true => SqL K H
  | false => SqT K H
def isX (h : Heap) : Bool → Addr → Array Value → Prop
  | true => h.IsList
  | false => h.IsTuple
def itX (h : Heap) : Bool → Addr → Addr → Nat → Prop
  | true => h.IsListIter
  | false => h.IsTupleIter
def obX (k : Bool) (a : Addr) : Obj := { cls := .type (if k then "list_iterator" else "tuple_iterator"), data := .fields #[.ref a, .int 0 0] }
theorem beginsX : ∀ (k : Bool) (a : Addr) (its : Array Value), Begins (.ref a) (obX k a) fun h => isX h k a its
  | true, a, its => begins_list a its
  | false, a, its => begins_tuple a its
theorem drawsX {prog : Program} {w : World} {A : Around} (hh : A.handled = none) (it a : Addr) (ne : a ≠ it) (its : Array Value) : ∀ k : Bool, Draws prog w A it [it, a] its.size (fun i v => its[i]? = some v) fun i h => itX h k it a i ∧ isX h k a its
  | true => .list hh it a ne its
  | false => .tuple hh it a ne its
theorem itX_obj {h : Heap} {it a : Addr} {i : Nat} : ∀ {k : Bool}, itX h k it a i → ∃ o, h.get? it = some o ∧ ∀ v, o.data ≠ .cell v
  | true, ⟨o, e, _, d⟩ => ⟨o, e, fun v q => by rw [d] at q; cases q⟩
  | false, ⟨o, e, _, d⟩ => ⟨o, e, fun v q => by rw [d] at q; cases q⟩
theorem itX_keep {h h' : Heap} {it a : Addr} {i : Nat} (kp : ∀ o, h.get? it = some o → h'.get? it = some o) : ∀ {k : Bool}, itX h k it a i → itX h' k it a i
  | true, t => Heap.IsListIter.at t fun o e => kp o e
  | false, t => Heap.IsTupleIter.at t fun o e => kp o e
theorem itX_zero {h : Heap} {it a : Addr} : ∀ {k : Bool}, h.get? it = some (obX k a) → itX h k it a 0
  | true, e => ⟨_, e, rfl, rfl⟩
  | false, e => ⟨_, e, rfl, rfl⟩
section
variable {X : Cx} {pins : List (Addr × Obj)} {σ : L2.St} {H : Hp} {s : Shared}
theorem sqx_read (I : L2.Inv X pins σ H s) {a : Addr} {xs : List V} : ∀ {k : Bool}, SqX X.K H k a xs → ∃ its : List Value, Vals xs its ∧ isX s.heap k a its.toArray ∧ a < s.heap.objs.size
  | true, q => by
    obtain ⟨its, r, pl, _⟩ := I.list q
    exact ⟨its, r, pl.isList, pl.lt⟩
  | false, q => by
    obtain ⟨its, r, tu, _⟩ := I.tuple q
    have tu' : s.heap.IsTuple a its.toArray := tu
    obtain ⟨o, e, _⟩ := id tu'
    exact ⟨its, r, tu', Heap.lt_size e⟩
theorem sqx_inj (I : L2.Inv X pins σ H s) {a : Addr} {xs ys : List V} : ∀ {k : Bool}, SqX X.K H k a xs → SqX X.K H k a ys → xs = ys
  | true, p, q => I.list_inj p q
  | false, p, q => I.tuple_inj p q
end
/-- what stands at a and at b at each turn, the items in new pairs -/
def ItM (K : PySem.W.Frag) (k1 k2 : Bool) (a b : Addr) : It where
  go i H := ∃ (xs ys : List V) (x y : V), SqX K H k1 a xs ∧ SqX K H k2 b ys ∧ xs[i]? = some x ∧ ys[i]? = some y
  yld i H v H' := ∃ T x y, v = .ref T ∧ H T = none ∧ H' = upd H T (.tup [x, y]) ∧ (∀ xs, SqX K H k1 a xs → xs[i]? = some x) ∧ ∀ ys, SqX K H k2 b ys → ys[i]? = some y
  stop i H := ∃ xs ys : List V, SqX K H k1 a xs ∧ SqX K H k2 b ys ∧ i ≤ xs.length ∧ i ≤ ys.length ∧ (i = xs.length ∨ i = ys.length)
/-- the zip's own things at turn i -/
def StM (k1 k2 : Bool) (a b z TI TO i1 i2 : Addr) (i : Nat) (h : Heap) : Prop :=
  IsZip h z TI TO .none ∧ IsTupOf2 h TI (.ref i1) (.ref i2) ∧ (∃ x y, IsTupOf2 h TO x y) ∧ itX h k1 i1 a i ∧ itX h k2 i2 b i
theorem fiveM {z TI TO i1 i2 c : Addr} (h : c ∈ [z, TI, TO, i1, i2]) : c = z ∨ c = TI ∨ c = TO ∨ c = i1 ∨ c = i2 := by simpa using h
theorem outM {z TI TO i1 i2 c : Addr} (h : c ∉ [z, TI, TO, i1, i2]) : c ≠ z ∧ c ≠ TI ∧ c ≠ TO ∧ c ≠ i1 ∧ c ≠ i2 := by simpa using h
theorem StM.obj {k1 k2 : Bool} {a b z TI TO i1 i2 c : Addr} {i : Nat} {h : Heap} (st : StM k1 k2 a b z TI TO i1 i2 i h) (hc : c ∈ [z, TI, TO, i1, i2]) : ∃ o, h.get? c = some o ∧ ∀ v, o.data ≠ .cell v := by
  obtain ⟨s1, s2, ⟨x, y, s3⟩, s4, s5⟩ := st
  rcases fiveM hc with rfl | rfl | rfl | rfl | rfl
  · exact ⟨_, s1, fun v e => by cases e⟩
  · exact ⟨_, s2, fun v e => by cases e⟩
  · exact ⟨_, s3, fun v e => by cases e⟩
  · exact itX_obj s4
  · exact itX_obj s5
theorem turnM {P : Program} {w : World} {K : PySem.W.Frag} {elts : List Expr} {kk : Nat} {tpos : Pos} {k1 k2 : Bool} {a b z TI TO i1 i2 : Addr} (S : ZipSep2 z TI TO i1 i2 [i1, a] [i2, b]) (na : a ≠ i1) (nb : b ≠ i2) :
    Turn P w K (.Tuple elts kk tpos) (ItM K k1 k2 a b) [z, TI, TO, i1, i2] z (StM k1 k2 a b z TI TO i1 i2) where
  mem := List.mem_cons_self ..
  obj := fun i h st c hc => st.obj hc
  keep := fun i h h' ⟨s1, s2, ⟨x, y, s3⟩, s4, s5⟩ kp => ⟨kp z (by simp) _ s1, kp TI (by simp) _ s2, ⟨x, y, kp TO (by simp) _ s3⟩, itX_keep (kp i1 (by simp)) s4, itX_keep (kp i2 (by simp)) s5⟩
  item := by
    rintro X rfl rfl rfl calm i pins s σ H E I fresh st0 ⟨xs, ys, x, y, q1, q2, e1, e2⟩
    obtain ⟨s1, s2, ⟨x0, y0, s3⟩, s4, s5⟩ := id st0
    obtain ⟨its, r1, p1, _⟩ := sqx_read I q1
    obtain ⟨jts, r2, p2, _⟩ := sqx_read I q2
    obtain ⟨u, hu, ru⟩ := r1.get e1
    obtain ⟨v, hv, rv⟩ := r2.get e2
    have hd : X.A.in1.handled = none := I.ok.hd calm
    have n1 : i < its.toArray.size := by
      have := (List.getElem?_eq_some_iff.mp hu).1
      simpa using this
    have n2 : i < jts.toArray.size := by
      have := (List.getElem?_eq_some_iff.mp hv).1
      simpa using this
    refine wpAny_pyNext_zipD2_item S (drawsX hd i1 a na its.toArray k1) (drawsX hd i2 b nb jts.toArray k2) s1 s2 s3 ⟨s4, p1⟩ ⟨s5, p2⟩ n1 n2 fun u' v' h1 tk eu ev z1 o1 ⟨t1, _⟩ ⟨t2, _⟩ tp _ kp => ?_
    have eu' : u' = u := by
      have eu : its.toArray[i]? = some u' := eu
      simp only [List.getElem?_toArray] at eu
      rw [hu] at eu
      exact (Option.some.inj eu).symm
    have ev' : v' = v := by
      have ev : jts.toArray[i]? = some v' := ev
      simp only [List.getElem?_toArray] at ev
      rw [hv] at ev
      exact (Option.some.inj ev).symm
    subst eu' ev'
    refine ⟨_, rfl, wpAny_letOwnedTupleGo_zip (s := { s with heap := h1, toks := tk }) z1 fun h2 z2 sb => ?_⟩
    have up : ∀ c o, c ≠ z → h1.get? c = some o → h2.get? c = some o := fun c o nc e => (sb.2 c nc).trans e
    have lt : ∀ {c : Addr}, c ∈ [z, TI, TO, i1, i2] → c < s.heap.objs.size := fun hc => by
      obtain ⟨o, e, _⟩ := st0.obj hc
      exact Heap.lt_size e
    have tn : s.heap.objs.size ≠ z := Nat.ne_of_gt (lt (by simp))
    have J : L2.Inv X pins σ (upd H s.heap.objs.size (.tup [x, y])) { s with heap := h2, toks := tk } :=
      I.turnedNew (ch := [z, TI, TO, i1, i2]) (fun c o hb e => by
        obtain ⟨b1, _, b3, b4, b5⟩ := outM hb
        exact up c o b1 (kp c o b1 b3 b4 b5 e)) fresh (Nat.le_refl _) ⟨by show 2 ≤ sizeLine; decide, [u', v'], .cons ru (.cons rv .nil), ⟨_, up _ _ tn tp, rfl, _, rfl⟩⟩
    refine ⟨.ref s.heap.objs.size, _, J, rfl, ⟨_, x, y, rfl, I.hok.fresh (Nat.le_refl _), rfl, fun l hl => by rw [sqx_inj I hl q1]; exact e1, fun l hl => by rw [sqx_inj I hl q2]; exact e2⟩, ⟨z2, up _ _ S.TIz (kp _ _ S.TIz S.TITO S.TIi1 S.TIi2 s2), ⟨u', v', up _ _ S.TOz o1⟩, itX_keep (fun o e => up _ o S.zi1.symm e) t1, itX_keep (fun o e => up _ o S.zi2.symm e) t2⟩, fun c hc => ?_⟩
    rw [upd_ne (Nat.ne_of_lt (lt hc))]
    exact (fresh c hc).1
  done := by
    rintro X rfl rfl rfl calm i pins s σ H E I fresh ⟨s1, s2, ⟨x0, y0, s3⟩, s4, s5⟩ ⟨xs, ys, q1, q2, l1, l2, l3⟩
    obtain ⟨its, r1, p1, _⟩ := sqx_read I q1
    obtain ⟨jts, r2, p2, _⟩ := sqx_read I q2
    have hd : X.A.in1.handled = none := I.ok.hd calm
    have m1 : its.toArray.size = xs.length := by simpa using r1.length.symm
    have m2 : jts.toArray.size = ys.length := by simpa using r2.length.symm
    refine wpAny_pyNext_zipD2_end S (drawsX hd i1 a na its.toArray k1) (drawsX hd i2 b nb jts.toArray k2) s1 s2 s3 ⟨s4, p1⟩ ⟨s5, p2⟩ (by omega) (by omega) (by omega) fun h1 tk kp => ⟨rfl, ?_⟩
    exact I.turnedL (ch := [z, TI, TO, i1, i2]) (fun c o hb e => by
      obtain ⟨b1, _, b3, b4, b5⟩ := outM hb
      exact kp c o b1 b3 b4 b5 e) fresh
  self := fun A i s Q E st q => wpAny_pyIter_zip st.1 q
def iZipM (K : PySem.W.Frag) (ta : TA) : TI := fun σ H R => ta σ H fun vs H1 => ∃ (k1 k2 : Bool) (a b : Addr) (xs ys : List V), vs = [.ref a, .ref b] ∧ SqX K H1 k1 a xs ∧ SqX K H1 k2 b ys ∧ R (ItM K k1 k2 a b) H1
theorem pi_zipM {X : Cx} {e1 e2 : Expr} {ta : TA} {p pos tpos : Pos} {elts : List Expr} {kk : Nat} (hg : Gl X "zip") (hm : X.mg "zip" = none) (ha : PA X [e1, e2] ta)
    (g1 : starEach [e1, e2] X.env = (false, eval e1 X.env) :: starEach [e2] X.env) (g2 : (backTo pos (starEach [e2] X.env)).any (·.1) = false) :
    PI X (.Tuple elts kk tpos) (.Call (.Name "zip" p) [e1, e2] [] pos) (iZipM X.K ta) := by
  refine ⟨fun pins s σ H R I rd => ?_⟩
  have main := ha.run pos pins s σ H _ I rd
  refine Call_ (ld_blt I hg hm PyProof.Rows.boot_zip (PyProof.Rows.callWith_type1 (thn main fun us s1 ⟨vs, H1, J, rel, k1, k2, a, b, xs, ys, ev, q1, q2, go⟩ => ?_) g1 g2))
  subst ev
  obtain ⟨its, r1, p1, lta⟩ := sqx_read J q1
  obtain ⟨jts, r2, p2, ltb⟩ := sqx_read J q2
  have eus : us = [.ref a, .ref b] := by
    cases rel with
    | cons ra rest =>
      cases ra
      cases rest with
      | cons rb nl =>
        cases rb
        cases nl
        rfl
  subst eus
  refine zip_begins2 (beginsX k1 a its.toArray) (beginsX k2 b jts.toArray) p1 p2 fun h2 z1 z2 z3 z4 z5 _ kp => wpAny_pyIter_zip z1 ?_
  have S : ZipSep2 (s1.heap.objs.size + 4) (s1.heap.objs.size + 2) (s1.heap.objs.size + 3) s1.heap.objs.size (s1.heap.objs.size + 1) [s1.heap.objs.size, a] [s1.heap.objs.size + 1, b] :=
    zip_sep2 (by simpa using lta) (by simpa using ltb)
  refine ⟨_, _, _, _, H1, rfl, J.kept (t' := s1.toks) kp, turnM (k1 := k1) (k2 := k2) S (Nat.ne_of_lt lta) (Nat.ne_of_lt (Nat.lt_succ_of_lt ltb)), ⟨z1, z2, ⟨_, _, z3⟩, itX_zero z4, itX_zero z5⟩, fun c hc => ?_, go⟩
  have le : s1.heap.objs.size ≤ c := by
    rcases fiveM hc with rfl | rfl | rfl | rfl | rfl <;> omega
  exact J.fpOk le (J.hok.fresh le)
section
variable {G : GC} {H0 : Hp}
theorem seq_of {v : V} {d : D} {F : List Addr} {ds : List D} (r : Rep G H0 v d F) (e : d = .lst ds ∨ d = .tup ds) : ∃ (k : Bool) (a : Addr) (vs : List V) (F' : List Addr), v = .ref a ∧ Reps G H0 vs ds F' ∧ innF d F = F' ∧ (∀ c ∈ F', c ∈ F) ∧ ∀ H, Imm H0 H → (∀ c ∈ F, H c = H0 c) → SqX G.K H k a vs := by
  rcases e with rfl | rfl
  · cases r with
    | lst e rr => exact ⟨true, _, _, _, rfl, rr, rfl, fun c hc => List.mem_cons_of_mem _ hc, fun H _ hp => SqL.of ((hp _ (List.mem_cons_self ..)).trans e)⟩
  · cases r with
    | tup e rr => exact ⟨false, _, _, _, rfl, rr, rfl, fun c hc => hc, fun H hi _ => sqt_imm hi e⟩
theorem walk_zipM {k1 k2 : Bool} {a b : Addr} {xs ys : List V} {ds es : List D} {F F2 : List Addr} {P : Addr → Prop} (r : Reps G H0 xs ds F) (r2 : Reps G H0 ys es F2) (m : ∀ c ∈ F, P c) (m2 : ∀ c ∈ F2, P c)
    (h : ∀ H, Imm H0 H → (∀ c, P c → H c = H0 c) → SqX G.K H k1 a xs ∧ SqX G.K H k2 b ys) : WalkOk G (ItM G.K k1 k2 a b) H0 (zipD ds es) (fun c => c ∈ F ++ F2) P where
  go := fun H hi hp i d e => by
    obtain ⟨s, s2⟩ := h H hi hp
    obtain ⟨d1, d2, q1, q2, rfl⟩ := zipD_get _ _ _ _ e
    obtain ⟨v, Fv, n1, rv, sub⟩ := (r.stay hi fun c hc => hp c (m c hc)).get q1
    obtain ⟨u, Fu, n2, ru, tub⟩ := (r2.stay hi fun c hc => hp c (m2 c hc)).get q2
    refine ⟨⟨xs, ys, v, u, s, s2, n1, n2⟩, ?_⟩
    rintro _ _ ⟨T, y1, y2, rfl, hT, rfl, g1, g2⟩
    have t1 := g1 _ s
    have t2 := g2 _ s2
    rw [n1] at t1
    rw [n2] at t2
    cases t1
    cases t2
    refine ⟨same_laid hT, Fv ++ (Fu ++ []), .tup (SqT.of upd_same) (.cons (rv.laid hT) (.cons (ru.laid hT) .nil)), fun c hc => ?_⟩
    rw [List.append_nil] at hc
    exact List.mem_append.mpr ((List.mem_append.mp hc).imp (sub c) (tub c))
  stop := fun H hi hp => ⟨xs, ys, (h H hi hp).1, (h H hi hp).2, by rw [zipD_len, r.length, r2.length]; omega⟩
end
/-! ### enumerate of a list or a tuple -/
def enumO (it : Addr) : Obj := { cls := .type "enumerate", data := .fields #[.none, .bool false, .ref it, rawInt 0, .none, .none] }
theorem meets_enum1 {v : Value} {o : Obj} {H : Heap → Prop} (B : Begins v o H) :
    Meets (Builtin.«enumerate.__new__» ⟨[.type "enumerate", v], []⟩) (fun _ R s => H s.heap ∧ R (.ok (.ret (.ref (s.heap.push o).objs.size))) { s with heap := (s.heap.push o).push (enumO s.heap.objs.size) }) :=
  .of_wp fun prog w A R s ⟨h1, h⟩ => by
    obtain ⟨hp, g, d, tk, os⟩ := s
    have isub := sub_enumerate
    have begin_ : ∀ {A' : Around} {E : Value → Shared → Prop} {Q : Value → Shared → Prop}, Q (.ref hp.objs.size) ⟨hp.push o, g, d, tk, os⟩ → wpAny (model prog w) A' (pyIter v) Q E ⟨hp, g, d, tk, os⟩ := fun q => B.iter prog w _ _ ⟨hp, g, d, tk, os⟩ _ h1 q
    wp_walk using begin_
    refine wpAny_stack_any fun st => wpAny_pure ?_
    split
    · rename_i c _ _ _ _ _
      cases (c == Value.type "enumerate") <;>
      · wp_walk using begin_
        exact ⟨_, rfl, h⟩
    · wp_walk using begin_
      exact ⟨_, rfl, h⟩
section
variable {prog : Program} {w : World} {A : Around} {E : Value → Shared → Prop} {s : Shared}
theorem call_enum1 {v : Value} {o : Obj} {H : Heap → Prop} {Q : Value → Shared → Prop} (B : Begins v o H) (h1 : H s.heap)
    (h : ∀ h', IsEnum h' (s.heap.objs.size + 1) s.heap.objs.size 0 .none → h'.get? s.heap.objs.size = some o → (∀ b u, s.heap.get? b = some u → h'.get? b = some u) → Q (.ref (s.heap.objs.size + 1)) { s with heap := h' }) :
    wpAny (model prog w) A (call (.type "enumerate") [v]) Q E s := by
  refine callType_new F.called_enumerate (by decide) (F.typeCall_enumerate_1 _) (F.newCall_enumerate_1 _) (fun ob => F.args_object_init_2 ob _) F.entry_enumerate_new (meets_enum1 B) ⟨h1, ?_⟩
  have sz : (s.heap.push o).objs.size = s.heap.objs.size + 1 := Heap.size_push ..
  show _ ∧ _
  rw [sz]
  have en : ((s.heap.push o).push (enumO s.heap.objs.size)).get? (s.heap.objs.size + 1) = some (enumO s.heap.objs.size) := by
    have := Heap.get?_push_size (s.heap.push o) (o := enumO s.heap.objs.size) rfl
    rwa [sz] at this
  exact ⟨⟨_, en, rfl⟩, h _ en (Heap.get?_push_of_some _ (Heap.get?_push_size _ B.free)) fun b u x => Heap.get?_push_of_some _ (Heap.get?_push_of_some _ x)⟩
end
/-- what stands at a at each turn, with its place, in new pairs -/
def ItEm (K : PySem.W.Frag) (k : Bool) (a : Addr) : It where
  go i H := ∃ (xs : List V) (x : V), SqX K H k a xs ∧ xs[i]? = some x
  yld i H v H' := ∃ T x, v = .ref T ∧ H T = none ∧ H' = upd H T (.tup [.int (i : Nat), x]) ∧ ∀ xs, SqX K H k a xs → xs[i]? = some x
  stop i H := ∃ xs : List V, SqX K H k a xs ∧ i = xs.length
def StE (k : Bool) (a e it : Addr) (i : Nat) (h : Heap) : Prop := (∃ old, IsEnum h e it (i : Int) old) ∧ itX h k it a i
theorem StE.obj {k : Bool} {a e it c : Addr} {i : Nat} {h : Heap} (st : StE k a e it i h) (hc : c ∈ [e, it]) : ∃ o, h.get? c = some o ∧ ∀ v, o.data ≠ .cell v := by
  obtain ⟨⟨old, s1⟩, s2⟩ := st
  rcases (show c = e ∨ c = it by simpa using hc) with rfl | rfl
  · exact ⟨_, s1, fun v q => by cases q⟩
  · exact itX_obj s2
theorem turnE {P : Program} {w : World} {K : PySem.W.Frag} {elts : List Expr} {kk : Nat} {tpos : Pos} {k : Bool} {a e it : Addr} (ne : e ≠ it) (na : a ≠ it) (nb : a ≠ e) :
    Turn P w K (.Tuple elts kk tpos) (ItEm K k a) [e, it] e (StE k a e it) where
  mem := List.mem_cons_self ..
  obj := fun i h st c hc => st.obj hc
  keep := fun i h h' ⟨⟨old, s1⟩, s2⟩ kp => ⟨⟨old, kp e (by simp) _ s1⟩, itX_keep (kp it (by simp)) s2⟩
  item := by
    rintro X rfl rfl rfl calm i pins s σ H E I fresh st0 ⟨xs, x, q1, e1⟩
    obtain ⟨⟨old, s1⟩, s2⟩ := id st0
    obtain ⟨its, r1, p1, _⟩ := sqx_read I q1
    obtain ⟨u, hu, ru⟩ := r1.get e1
    have hd : X.A.in1.handled = none := I.ok.hd calm
    have n1 : i < its.toArray.size := by
      have := (List.getElem?_eq_some_iff.mp hu).1
      simpa using this
    refine wpAny_pyNext_enum_itemD (drawsX hd it a na its.toArray k) s1 ⟨s2, p1⟩ n1 ne (by simp; exact ⟨ne, Ne.symm nb⟩) fun u' h1 tk eu o1 ⟨t1, _⟩ tp _ kp => ?_
    have eu' : u' = u := by
      have eu : its.toArray[i]? = some u' := eu
      simp only [List.getElem?_toArray] at eu
      rw [hu] at eu
      exact (Option.some.inj eu).symm
    subst eu'
    refine ⟨_, rfl, wpAny_letOwnedTupleGo_enum (s := { s with heap := h1, toks := tk + 1 }) o1 fun h2 z2 sb => ?_⟩
    have lt : ∀ {c : Addr}, c ∈ [e, it] → c < s.heap.objs.size := fun hc => by
      obtain ⟨o, e, _⟩ := st0.obj hc
      exact Heap.lt_size e
    have tn : s.heap.objs.size ≠ e := Nat.ne_of_gt (lt (by simp))
    have J : L2.Inv X pins σ (upd H s.heap.objs.size (.tup [.int (i : Nat), x])) { s with heap := h2, toks := tk + 1 } :=
      I.turnedNew (ch := [e, it]) (fun c o hb q => by
        have hb' : c ≠ e ∧ c ≠ it := by simpa using hb
        exact (sb.2 c hb'.1).trans (kp c o hb'.1 hb'.2 q)) fresh (Nat.le_refl _) ⟨by show 2 ≤ sizeLine; decide, [.int i tk, u'], .cons ⟨_, rfl⟩ (.cons ru .nil), ⟨_, (sb.2 _ tn).trans tp, rfl, _, rfl⟩⟩
    refine ⟨.ref s.heap.objs.size, _, J, rfl, ⟨_, x, rfl, I.hok.fresh (Nat.le_refl _), rfl, fun l hl => by rw [sqx_inj I hl q1]; exact e1⟩, ⟨⟨u', ?_⟩, itX_keep (fun o q => (sb.2 it (Ne.symm ne)).trans q) t1⟩, fun c hc => ?_⟩
    · rw [show ((i + 1 : Nat) : Int) = (i : Int) + 1 by omega]
      exact z2
    · rw [upd_ne (Nat.ne_of_lt (lt hc))]
      exact (fresh c hc).1
  done := by
    rintro X rfl rfl rfl calm i pins s σ H E I fresh ⟨⟨old, s1⟩, s2⟩ ⟨xs, q1, l1⟩
    obtain ⟨its, r1, p1, _⟩ := sqx_read I q1
    have hd : X.A.in1.handled = none := I.ok.hd calm
    have m1 : its.toArray.size = xs.length := by simpa using r1.length.symm
    refine wpAny_pyNext_enum_endD (drawsX hd it a na its.toArray k) s1 (by rw [m1, ← l1]; exact ⟨s2, p1⟩) fun h1 eb => ⟨rfl, ?_⟩
    exact I.turnedL (ch := [e, it]) (t' := s.toks) (fun c o hb q => by
      have hb' : c ≠ e ∧ c ≠ it := by simpa using hb
      exact eb c o hb'.2 q) fresh
  self := fun A i s Q E st q => by
    obtain ⟨⟨_, s1⟩, _⟩ := st
    exact wpAny_pyIter_enum s1 q
def iEnumM (K : PySem.W.Frag) (ta : TA) : TI := fun σ H R => ta σ H fun vs H1 => ∃ (k : Bool) (a : Addr) (xs : List V), vs = [.ref a] ∧ SqX K H1 k a xs ∧ R (ItEm K k a) H1
theorem pi_enumM {X : Cx} {e : Expr} {ta : TA} {p pos tpos : Pos} {elts : List Expr} {kk : Nat} (hg : Gl X "enumerate") (hm : X.mg "enumerate" = none) (ha : PA X [e] ta) (hs : starEach [e] X.env = [(false, eval e X.env)]) :
    PI X (.Tuple elts kk tpos) (.Call (.Name "enumerate" p) [e] [] pos) (iEnumM X.K ta) := by
  refine ⟨fun pins s σ H R I rd => ?_⟩
  have main := ha.run pos pins s σ H _ I rd
  refine Call_ (ld_blt I hg hm PyProof.Rows.boot_enumerate (PyProof.Rows.callWith_type1 (thn main fun us s1 ⟨vs, H1, J, rel, k, a, xs, ev, q1, go⟩ => ?_) hs rfl))
  subst ev
  obtain ⟨its, r1, p1, lta⟩ := sqx_read J q1
  obtain rfl : us = [.ref a] := by
    cases rel with
    | cons ra nl =>
      cases ra
      cases nl
      rfl
  refine call_enum1 (beginsX k a its.toArray) p1 fun h2 z1 z2 kp => wpAny_pyIter_enum z1 ?_
  refine ⟨_, [s1.heap.objs.size + 1, s1.heap.objs.size], _, _, H1, rfl, J.kept (t' := s1.toks) kp, turnE (k := k) (Nat.succ_ne_self _) (Nat.ne_of_lt lta) (Nat.ne_of_lt (Nat.lt_succ_of_lt lta)), ⟨⟨_, z1⟩, itX_zero z2⟩, fun c hc => ?_, go⟩
  have le : s1.heap.objs.size ≤ c := by
    rcases (show c = s1.heap.objs.size + 1 ∨ c = s1.heap.objs.size by simpa using hc) with rfl | rfl <;> omega
  exact J.fpOk le (J.hok.fresh le)
section
variable {G : GC} {H0 : Hp}
theorem walk_enumM {k : Bool} {a : Addr} {xs : List V} {ds : List D} {F : List Addr} {P : Addr → Prop} (r : Reps G H0 xs ds F) (m : ∀ c ∈ F, P c) (h : ∀ H, Imm H0 H → (∀ c, P c → H c = H0 c) → SqX G.K H k a xs) :
    WalkOk G (ItEm G.K k a) H0 (enumD 0 ds) (fun c => c ∈ F) P where
  go := fun H hi hp i d e => by
    have s := h H hi hp
    rw [enumD_get] at e
    cases q : ds[i]? with
    | none => rw [q] at e; cases e
    | some d1 =>
      rw [q] at e
      cases e
      obtain ⟨v, Fv, n1, rv, sub⟩ := (r.stay hi fun c hc => hp c (m c hc)).get q
      refine ⟨⟨xs, v, s, n1⟩, ?_⟩
      rintro _ _ ⟨T, y, rfl, hT, rfl, g1⟩
      have t1 := g1 _ s
      rw [n1] at t1
      cases t1
      refine ⟨same_laid hT, [] ++ (Fv ++ []), .tup (SqT.of upd_same) (.cons ?_ (.cons (rv.laid hT) .nil)), fun c hc => sub c (by simpa using hc)⟩
      rw [Nat.zero_add]
      exact .int _
  stop := fun H hi hp => ⟨xs, h H hi hp, by rw [enumD_len, r.length]⟩
end
end Ev

/-! Part B8: calls of defs, isinstance, what is walked, list comprehensions. -/
namespace Ev
open PySem PySem.Spec PyProof.Rows L2
section
variable {Y : SX} {N : List Str} {X : Cx} {kd : Nat → Nat}
/-- the arguments' kinds, seen ahead -/
def argB (sg ms : Nat → Sig) (kd : Nat → Nat) : List Nat → IEs → Bool
  | n :: ns, .cons e es => decide (tyE sg ms e kd ≤ n) && argB sg ms kd ns es
  | [], .nil => true
  | _, _ => false
theorem args_ok {σ : Sg} : ∀ {ps : List Nat} {es : IEs} {ds : List D}, evEs Y.Φ Y.M es σ = .ok ds → argB Y.sg Y.ms kd ps es = true → tysOk Y kd es ds → argsOk ps ds
  | [], .nil, _, h, _, _ => by
    cases h
    trivial
  | n :: ns, .cons e es, _, h, h0, t => by
    obtain ⟨d, ed, h2⟩ := bind_ok (show (evE Y.Φ Y.M e σ).bind _ = _ from h)
    obtain ⟨ds', eds, h3⟩ := bind_ok h2
    cases h3
    rw [argB, Bool.and_eq_true] at h0
    exact ⟨TyOk.mono (of_decide_eq_true h0.1) t.1, args_ok eds h0.2 t.2⟩
  | [], .cons .., _, _, h0, _ => by cases h0
  | _ :: _, .nil, _, _, h0, _ => by cases h0
theorem argsOk_len : ∀ {ps : List Nat} {ds : List D}, argsOk ps ds → ds.length = ps.length
  | [], [], _ => rfl
  | _ :: ps, _ :: ds, h => by
    rw [List.length_cons, List.length_cons, argsOk_len h.2]
  | [], _ :: _, h => h.elim
  | _ :: _, [], h => h.elim
theorem s_call (C : Ctx Y N X) {f : Nat} {es : IEs} {n : Str} {x : Expr} {xs : List Expr} {p p2 : Pos} (hf : Y.fns[f]? = some n) (hg : glb X.env.scope n = true) (hn : plainN n = true) (hx : (x :: xs).all plainE = true) (hb : argB Y.sg Y.ms kd (Y.sg f).ps es = true)
    (ha : PA X (x :: xs) (tEs Y (gc Y X) kd es)) : PE X (.Call (.Name n p2) (x :: xs) [] p) (tE Y (gc Y X) kd (.call f es)) := by
  obtain ⟨fa, fd, ps, lv, F, hr, hm, hk, bd, pl⟩ := C.fn f n hf (plainN_ne hn)
  obtain ⟨us, ru, bd⟩ := bd 0 (Nat.zero_le _)
  cases ru
  rw [List.all_cons, Bool.and_eq_true] at hx
  obtain ⟨n1, n2, n3⟩ := plainN_ok hn
  refine PE.imp (pe_call F hr (glb_ok hg) hm hk bd .nil pass0 ha n1 (star_cons hx.1 xs X.env) (star_none hx.2 p X.env)) fun σ H Q h => ?_
  obtain ⟨s, Fs, d, rl, h1, q⟩ := h
  obtain ⟨ds, eds, h2⟩ := bind_ok (show (evEs Y.Φ Y.M es s).bind _ = _ from h1)
  refine ⟨s, Fs, ds, rl, eds, fun vs H1 F0 r => ?_⟩
  have hl : vs.length = ps.length := by
    rw [r.rep.length, argsOk_len (args_ok eds hb r.ty), pl]
  refine ⟨ds, F0, d, by rw [List.append_nil]; exact hl, by rw [List.append_nil]; exact r.rep, args_ok eds hb r.ty, h2, fun v H' F' sm rv ty fr al => q v H' F' ?_⟩
  have al' : ∀ c ∈ F', H c = none ∨ InAl s Fs (als Y.sg Y.ms es kd).1 c := fun c hc => by
    rcases al c hc with z | z
    · exact .inl (r.same.free z)
    · exact r.al c z
  exact Rs.mk0 (r.same.trans sm) rv ty (FrOk.back r.same fr) (fun _ => al') fun _ c hc => al' c (innF_sub hc)
theorem argsOk_app : ∀ {p1 p2 : List Nat} {ds : List D}, argsOk p1 ds → argsOk (p1 ++ p2) (ds ++ List.replicate p2.length .non)
  | [], p2, [], _ => by
    show argsOk p2 (List.replicate p2.length .non)
    induction p2 with
    | nil => trivial
    | cons n r ih => exact ⟨TyOk.pure rfl _, ih⟩
  | _ :: p1, p2, _ :: ds, h => ⟨h.1, argsOk_app h.2⟩
  | [], _, _ :: _, h => h.elim
  | _ :: _, _, [], h => h.elim
theorem reps_non {G : GC} {H : Hp} : ∀ m, Reps G H (List.replicate m V.non) (List.replicate m D.non) []
  | 0 => .nil
  | m + 1 => .cons (F := []) .non (reps_non m)
theorem s_calld (C : Ctx Y N X) {f m : Nat} {es : IEs} {n : Str} {x : Expr} {xs : List Expr} {p p2 : Pos} (hf : Y.fns[f]? = some n) (hmd : m ≤ Y.df f) (hg : glb X.env.scope n = true) (hn : plainN n = true) (hx : (x :: xs).all plainE = true)
    (hb : argB Y.sg Y.ms kd ((Y.sg f).ps.take ((Y.sg f).ps.length - m)) es = true) (hml : m ≤ (Y.sg f).ps.length)
    (ha : PA X (x :: xs) (tEs Y (gc Y X) kd es)) : PE X (.Call (.Name n p2) (x :: xs) [] p) (tE Y (gc Y X) kd (.calld f m es)) := by
  obtain ⟨fa, fd, ps, lv, F, hr, hm, hk, bd, pl⟩ := C.fn f n hf (plainN_ne hn)
  obtain ⟨us, ru, bd⟩ := bd m hmd
  rw [List.all_cons, Bool.and_eq_true] at hx
  obtain ⟨n1, n2, n3⟩ := plainN_ok hn
  refine PE.imp (pe_call F hr (glb_ok hg) hm hk bd ru pass0 ha n1 (star_cons hx.1 xs X.env) (star_none hx.2 p X.env)) fun σ H Q h => ?_
  obtain ⟨s, Fs, d, rl, h1, q⟩ := h
  obtain ⟨ds, eds, h2⟩ := bind_ok (show (evEs Y.Φ Y.M es s).bind _ = _ from h1)
  refine ⟨s, Fs, ds, rl, eds, fun vs H1 F0 r => ?_⟩
  have a1 := args_ok eds hb r.ty
  have a2 : argsOk (Y.sg f).ps (ds ++ List.replicate m .non) := by
    have := argsOk_app (p2 := (Y.sg f).ps.drop ((Y.sg f).ps.length - m)) a1
    rw [List.take_append_drop, List.length_drop, show (Y.sg f).ps.length - ((Y.sg f).ps.length - m) = m by omega] at this
    exact this
  have rr := Reps.append r.rep (reps_non (G := gc Y X) (H := H1) m)
  have hl : (vs ++ List.replicate m V.non).length = ps.length := by
    rw [rr.length, argsOk_len a2, pl]
  refine ⟨ds ++ List.replicate m .non, F0 ++ [], d, hl, rr, a2, h2, fun v H' F' sm rv ty fr al => q v H' F' ?_⟩
  have al' : ∀ c ∈ F', H c = none ∨ InAl s Fs (als Y.sg Y.ms es kd).1 c := fun c hc => by
    rcases al c hc with z | z
    · exact .inl (r.same.free z)
    · rw [List.append_nil] at z
      exact r.al c z
  exact Rs.mk0 (r.same.trans sm) rv ty (FrOk.back r.same fr) (fun _ => al') fun _ c hc => al' c (innF_sub hc)
theorem ty_boot {t : Ty} (h : tyName t ≠ "") : bootBuiltins (Str.ofString (tyName t)) = some (.type (tyName t)) ∧ tyName t ∈ bnames ∧ (Str.ofString (tyName t) == ("__debug__" : Str)) = false ∧ Str.ofString (tyName t) ≠ ("__name__" : Str) := by
  cases t with
  | own c => exact absurd rfl h
  | _ => exact ⟨by decide +kernel, by decide, by decide +kernel, by decide +kernel⟩
theorem s_isi (C : Ctx Y N X) {a : IE} {t : Ty} {v : Expr} {p p2 p3 : Pos} (hg : glb X.env.scope (Str.ofString "isinstance") = true) (hg2 : glb X.env.scope (Str.ofString (tyName t)) = true) (ht : tyName t ≠ "") (hv : plainE v = true)
    (ha : PE X v (tE Y (gc Y X) kd a)) : PE X (.Call (.Name (Str.ofString "isinstance") p2) [v, .Name (Str.ofString (tyName t)) p3] [] p) (tE Y (gc Y X) kd (.isi a [t])) := by
  obtain ⟨b1, b2, b3, b4⟩ := ty_boot ht
  have tyE' : PE X (.Name (Str.ofString (tyName t)) p3) (tC (.ty (tyName t))) := pe_bltn (glb_ok hg2) (C.bn _ b2) b1 rfl b4 b3
  refine PE.imp (pe_callB call_isi (glb_ok hg) (C.bn _ (by decide)) (by decide +kernel) (pa_cons ha (pa_cons tyE' pa_nil) (star_cons hv _ X.env)) (by decide) (by decide) (star_cons hv _ X.env)) fun σ H Q h => ?_
  obtain ⟨s, Fs, d, rl, h1, q⟩ := h
  obtain ⟨da, ea, h2⟩ := bind_ok (show (evE Y.Φ Y.M a s).bind _ = _ from h1)
  have h2 : anyTy da [t] = .ok d := h2
  refine ⟨s, Fs, da, rl, ea, fun x H1 F1 r1 => ?_⟩
  have fin : ∀ b, tyIs da t = some b → d = .bl b → rIsi X.K [x, .ty (tyName t)] H1 Q := fun b hb e => by
    obtain ⟨n, e1, e2⟩ := ty_kit hb
    subst e
    exact ⟨_, _, .type n, .type (tyName t), b, rfl, .ty _, ty_rep r1.rep e1, kit_ty e2, tE_pure q r1.same (.bl _) rfl⟩
  unfold anyTy at h2
  split at h2
  · rename_i e
    cases h2
    exact fin true e rfl
  · rename_i e
    cases h2
    exact fin false e rfl
  · cases h2
/-! ### what is walked -/
theorem el_ty {n : Nat} {d : D} {xs : List D} (h : TyOk n d) (e : d = .lst xs ∨ d = .tup xs) : ∀ x ∈ xs, TyOk (if n ≤ 1 then 0 else 2) x := by
  intro x hx
  split
  · rename_i z
    have h1 : d.ep = true := TyOk.mono z h
    rcases e with e | e <;> subst e
    · exact mem_pureAll (by simpa [D.ep] using h1) hx
    · exact mem_pureAll (by simpa [D.ep, D.pure] using h1) hx
  · trivial
theorem mem_fresh {H H1 : Hp} {σ : Sg} {Fs : Nat → List Addr} {al : Al} {F : List Addr} (s : Same H H1) (h : ∀ a ∈ F, H a = none ∨ InAl σ Fs al a) : ∀ a ∈ F, H a = none ∨ InAl σ Fs al a := h
theorem walk_scr {G : GC} {H0 : Hp} {a : Addr} {ns : List Int} (h : SqF G.K H0 a (ns.map V.int)) : WalkOk G (Itl G.K a) H0 (ns.map D.int) (fun b => b ∈ ([] : List Addr)) (fun _ => False) where
  go := fun H hi hp i d e => by
    have s := (sqf_imm hi h).sql
    obtain ⟨v, F', e1, rv, sub⟩ := (Reps.of_ints (G := G) (H := H) ns).get e
    exact ⟨⟨_, v, s, e1⟩, fun x H' hy => by
      obtain ⟨rfl, hy⟩ := hy
      have e2 := hy _ s
      rw [e1] at e2
      cases e2
      exact ⟨Same.refl _, F', rv, sub⟩⟩
  stop := fun H hi hp => ⟨_, (sqf_imm hi h).sql, by rw [List.length_map, List.length_map]; exact Nat.le_refl _⟩
theorem i_el {e : IE} {tg x : Expr} (ha : PE X x (tE Y (gc Y X) kd e)) : PI X tg x (tIt Y (gc Y X) kd (.el e)) := by
  refine PI.imp (PI.or (pi_list ha) (PI.or (pi_tup ha) (pi_str ha))) fun σ H R h => ?_
  obtain ⟨s, Fs, ds, rl, h1, q⟩ := h
  obtain ⟨d, ed, h2⟩ := bind_ok (show (evE Y.Φ Y.M e s).bind _ = _ from h1)
  split at h2
  · rename_i xs
    cases h2
    refine .inl ⟨s, Fs, _, rl, ed, fun v H1 F r => ?_⟩
    obtain ⟨sm, rp, ty, fr, al, an⟩ := r
    cases rp with
    | lst e rr =>
    refine ⟨_, rfl, ⟨_, SqL.of e⟩, q _ H1 _ _ ⟨sm, walk_list (SqL.of e) (fun H hi hp => SqL.of (hp.trans e)) rr, fun a ha => ?_, rr.there, fun a ha => an a ha, fun a ha => ?_, el_ty ty (.inl rfl)⟩⟩
    · rcases ha with rfl | ha
      · exact ⟨_, e⟩
      · exact rr.there a ha
    · rcases ha with rfl | ha
      · exact al _ (List.mem_cons_self ..)
      · exact al _ (List.mem_cons_of_mem _ ha)
  · rename_i xs
    cases h2
    refine .inr (.inl ⟨s, Fs, _, rl, ed, fun v H1 F r => ?_⟩)
    obtain ⟨sm, rp, ty, fr, al, an⟩ := r
    cases rp with
    | tup e rr =>
    exact ⟨_, rfl, ⟨_, e⟩, q _ H1 _ _ ⟨sm, walk_tup e rr, fun a ha => rr.there a ha, rr.there, fun a ha => an a ha, fun a ha => al a ha, el_ty ty (.inr rfl)⟩⟩
  · rename_i ns
    cases h2
    refine .inl ⟨s, Fs, _, rl, ed, fun v H1 F r => ?_⟩
    obtain ⟨sm, rp, ty, fr, al, an⟩ := r
    cases rp with
    | scr e =>
    refine ⟨_, rfl, ⟨_, e.sql⟩, q _ H1 _ _ ⟨sm, walk_scr e, fun a ha => ha.elim, fun a ha => (nomatch ha), fun a ha => (nomatch ha), fun a ha => ha.elim, fun d hd => ?_⟩⟩
    obtain ⟨i, _, rfl⟩ := List.mem_map.mp hd
    exact TyOk.pure rfl _
  · rename_i z
    cases h2
    refine .inr (.inr ⟨s, Fs, _, rl, ed, fun v H1 F r => ?_⟩)
    obtain ⟨sm, rp, ty, fr, al, an⟩ := r
    cases rp
    refine ⟨_, rfl, q _ H1 [] _ ⟨sm, ⟨fun H _ _ i d e => ?_, fun H h1 h2 => (walk_str (G := gc Y X) (H0 := H1)).stop H h1 h2⟩, fun a ha => ha.elim, fun a ha => (nomatch ha), fun a ha => (nomatch ha), fun a ha => ha.elim, fun d hd => ?_⟩⟩
    · obtain ⟨g, w⟩ := (walk_str (G := gc Y X) (H0 := H)).go H (Imm.refl H) (fun _ h => h.elim) i d e
      refine ⟨g, fun x H' hy => ?_⟩
      obtain ⟨s1, F, r1, r2⟩ := w x H' hy
      exact ⟨s1, F, r1, fun a ha => (r2 a ha).elim⟩
    · obtain ⟨i, _, rfl⟩ := List.mem_map.mp hd
      exact TyOk.pure rfl _
  · cases h2
theorem rng_ok {a b : Int} (h : rngOk a b = true) : -(2 ^ 62) ≤ a ∧ a < 2 ^ 62 ∧ -(2 ^ 62) ≤ b ∧ b < 2 ^ 62 := by
  unfold rngOk at h
  rw [Bool.and_eq_true, Bool.and_eq_true, Bool.and_eq_true] at h
  exact ⟨of_decide_eq_true h.1.1.1, of_decide_eq_true h.1.1.2, of_decide_eq_true h.1.2, of_decide_eq_true h.2⟩
theorem rngD_pure : ∀ (n : Nat) (a : Int), ∀ d ∈ rngD a n, d.pure = true
  | 0, _, d, h => nomatch h
  | n + 1, a, d, h => by
    rcases List.mem_cons.mp h with rfl | h
    · rfl
    · exact rngD_pure n _ d h
theorem walk_rng {G : GC} {H0 : Hp} {lo : Int} {n : Nat} : WalkOk G (Itr lo n) H0 (rngD lo n) (fun a => a ∈ ([] : List Addr)) (fun _ => False) :=
  ⟨fun H h1 h2 i d e => by
    obtain ⟨g, w⟩ := (walk_range (G := G) (H0 := H0)).go H h1 h2 i d e
    refine ⟨g, fun x H' hy => ?_⟩
    obtain ⟨s1, F, r1, r2⟩ := w x H' hy
    exact ⟨s1, F, r1, fun a ha => (r2 a ha).elim⟩, fun H h1 h2 => (walk_range (G := G) (H0 := H0)).stop H h1 h2⟩
theorem i_rg1 (C : Ctx Y N X) {a : IE} {tg x : Expr} {p p2 : Pos} (hg : glb X.env.scope (Str.ofString "range") = true) (hx : plainE x = true) (ha : PE X x (tE Y (gc Y X) kd a)) : PI X tg (.Call (.Name (Str.ofString "range") p2) [x] [] p) (tIt Y (gc Y X) kd (.rg1 a)) := by
  refine PI.imp (pi_range1 (glb_ok hg) (C.bn _ (by decide)) (pa_cons ha pa_nil (star_cons hx [] X.env)) (star_cons hx [] X.env)) fun σ H R h => ?_
  obtain ⟨s, Fs, ds, rl, h1, q⟩ := h
  obtain ⟨d, ed, h2⟩ := bind_ok (show (evE Y.Φ Y.M a s).bind _ = _ from h1)
  refine ⟨s, Fs, d, rl, ed, fun v H1 F r => ?_⟩
  split at h2
  · rename_i n
    obtain ⟨_, hc, h3⟩ := bind_ok h2
    cases h3
    obtain ⟨_, _, r3, r4⟩ := rng_ok (chk_ok hc)
    have e := r.rep.scalar
    subst e
    refine ⟨n, rfl, r3, r4, q _ H1 [] (fun _ => False) ⟨r.same, walk_rng, fun a ha => ha.elim, fun a ha => (nomatch ha), fun a ha => (nomatch ha), fun a ha => ha.elim, fun d hd => TyOk.pure (rngD_pure _ _ d hd) _⟩⟩
  · cases h2
theorem i_rg2 (C : Ctx Y N X) {a b : IE} {tg x y : Expr} {p p2 : Pos} (hg : glb X.env.scope (Str.ofString "range") = true) (hx : plainE x = true) (hy : plainE y = true) (ha : PE X x (tE Y (gc Y X) kd a)) (hb : PE X y (tE Y (gc Y X) kd b)) :
    PI X tg (.Call (.Name (Str.ofString "range") p2) [x, y] [] p) (tIt Y (gc Y X) kd (.rg2 a b)) := by
  refine PI.imp (pi_range2 (glb_ok hg) (C.bn _ (by decide)) (pa_cons ha (pa_cons hb pa_nil (star_cons hy [] X.env)) (star_cons hx _ X.env)) (by rw [star_cons hx, star_cons hy]; rfl) (star_cons hy [] X.env)) fun σ H R h => ?_
  obtain ⟨s, Fs, ds, rl, h1, q⟩ := h
  obtain ⟨d, ed, h2⟩ := bind_ok (show (evE Y.Φ Y.M a s).bind _ = _ from h1)
  obtain ⟨d', ed', h3⟩ := bind_ok h2
  refine ⟨s, Fs, d, rl, ed, fun v H1 F r => ⟨s, Fs, d', rl.same r.same, ed', fun w H2 F2 r2 => ?_⟩⟩
  split at h3
  · rename_i m n
    obtain ⟨_, hc, h4⟩ := bind_ok h3
    cases h4
    obtain ⟨r1, r2', r3, r4⟩ := rng_ok (chk_ok hc)
    have e := r.rep.scalar
    subst e
    have e := r2.rep.scalar
    subst e
    exact ⟨m, n, rfl, ⟨r1, r2', r3, r4⟩, q _ H2 [] (fun _ => False) ⟨r.same.trans r2.same, walk_rng, fun a ha => ha.elim, fun a ha => (nomatch ha), fun a ha => (nomatch ha), fun a ha => ha.elim, fun d hd => TyOk.pure (rngD_pure _ _ d hd) _⟩⟩
  · cases h3
theorem rngC_pure : ∀ (n : Nat) (a c : Int), ∀ d ∈ rngC a c n, d.pure = true
  | 0, _, _, d, h => nomatch h
  | n + 1, a, c, d, h => by
    rcases List.mem_cons.mp h with rfl | h
    · rfl
    · exact rngC_pure n _ c d h
theorem rgc_ok {i j k : Int} (h : rgcOk i j k = true) : RgC i j k (Builtin.Range.rangeSize i j k).toNat := by
  unfold rgcOk at h
  rw [Bool.and_eq_true, Bool.and_eq_true, Bool.and_eq_true] at h
  obtain ⟨h1, h2, h3, h4⟩ := h
  have h4 := of_decide_eq_true h4
  exact ⟨of_decide_eq_true h1, of_decide_eq_true h2, h3, by omega⟩
theorem i_rg3 (C : Ctx Y N X) {a b c : IE} {tg x y z : Expr} {p p2 : Pos} (hg : glb X.env.scope (Str.ofString "range") = true) (hx : plainE x = true) (hy : plainE y = true) (hz : plainE z = true) (ha : PE X x (tE Y (gc Y X) kd a)) (hb : PE X y (tE Y (gc Y X) kd b)) (hc : PE X z (tE Y (gc Y X) kd c)) :
    PI X tg (.Call (.Name (Str.ofString "range") p2) [x, y, z] [] p) (tIt Y (gc Y X) kd (.rg3 a b c)) := by
  refine PI.imp (pi_range3 (glb_ok hg) (C.bn _ (by decide)) (pa_cons ha (pa_cons hb (pa_cons hc pa_nil (star_cons hz [] X.env)) (star_cons hy _ X.env)) (star_cons hx _ X.env)) (star_cons hx _ X.env) (by rw [star_cons hy, star_cons hz]; rfl)) fun σ H R h => ?_
  obtain ⟨s, Fs, ds, rl, h1, q⟩ := h
  obtain ⟨d, ed, h2⟩ := bind_ok (show (evE Y.Φ Y.M a s).bind _ = _ from h1)
  obtain ⟨d', ed', h3⟩ := bind_ok h2
  obtain ⟨d'', ed'', h4⟩ := bind_ok h3
  refine ⟨s, Fs, d, rl, ed, fun v H1 F r => ⟨s, Fs, d', rl.same r.same, ed', fun w H2 F2 r2 => ⟨s, Fs, d'', rl.same (r.same.trans r2.same), ed'', fun u H3 F3 r3 => ?_⟩⟩⟩
  split at h4
  · rename_i i j k
    obtain ⟨_, hk, h5⟩ := bind_ok h4
    cases h5
    have e := r.rep.scalar
    subst e
    have e := r2.rep.scalar
    subst e
    have e := r3.rep.scalar
    subst e
    exact ⟨i, j, k, _, rfl, rgc_ok (chk_ok hk), q _ H3 [] (fun _ => False) ⟨r.same.trans (r2.same.trans r3.same), walk_rngC, fun a ha => ha.elim, fun a ha => (nomatch ha), fun a ha => (nomatch ha), fun a ha => ha.elim, fun d hd => TyOk.pure (rngC_pure _ _ _ d hd) _⟩⟩
  · cases h4
theorem s_lrg (C : Ctx Y N X) {a : IE} {x : Expr} {p p2 p3 p4 : Pos} (hg : glb X.env.scope (Str.ofString "list") = true) (hg2 : glb X.env.scope (Str.ofString "range") = true) (hx : plainE x = true) (ha : PE X x (tE Y (gc Y X) kd a)) :
    PE X (.Call (.Name (Str.ofString "list") p2) [.Call (.Name (Str.ofString "range") p3) [x] [] p4] [] p) (tE Y (gc Y X) kd (.lrg a)) := by
  refine PE.imp (pe_listRg C.calm (glb_ok hg) (C.bn _ (by decide)) (prg_1 (glb_ok hg2) (C.bn _ (by decide)) ha (star_cons hx [] X.env))) fun σ H Q h => ?_
  obtain ⟨s, Fs, d, rl, h1, q⟩ := h
  obtain ⟨d0, ed, h2⟩ := bind_ok (show (evE Y.Φ Y.M a s).bind _ = _ from h1)
  refine ⟨s, Fs, d0, rl, ed, fun v H1 F r => ?_⟩
  split at h2
  · rename_i n
    obtain ⟨_, hc, h3⟩ := bind_ok h2
    cases h3
    have hz := chk_ok hc
    rw [Bool.and_eq_true] at hz
    obtain ⟨_, _, r3, r4⟩ := rng_ok hz.1
    have e := r.rep.scalar
    subst e
    have hl := of_decide_eq_true hz.2
    refine ⟨n, rfl, ⟨by omega, by omega, r3, r4, by simpa using hl⟩, fun t ht => ?_⟩
    have ee : rgV 0 n = (rngD 0 n.toNat).map fun d => match d with
        | .int i => V.int i
        | _ => .non := by
      unfold rgV
      have e0 : (n - 0).toNat = n.toNat := by omega
      rw [e0]
      refine List.ext_getElem? fun j => ?_
      rw [List.getElem?_map, List.getElem?_map]
      by_cases hj : j < n.toNat
      · rw [rngD_get n.toNat 0 j hj, List.getElem?_range hj]
        rfl
      · rw [List.getElem?_eq_none (by rw [List.length_range]; omega), List.getElem?_eq_none (by rw [rngD_len]; omega)]
        rfl
    have rr : ∀ (m : Nat) (lo : Int), Reps (gc Y X) (upd H1 t (.lst (rgV 0 n))) ((rngD lo m).map fun d => match d with
        | .int i => V.int i
        | _ => .non) (rngD lo m) [] := by
      intro m
      induction m with
      | zero => exact fun _ => .nil
      | succ m ih => exact fun lo => .cons (F := []) (.int lo) (ih (lo + 1))
    have rv : Rep (gc Y X) (upd H1 t (.lst (rgV 0 n))) (.ref t) (.lst (rngD 0 n.toNat)) [t] := .lst upd_same (by rw [ee] at rr ⊢; exact rr _ _)
    refine q _ _ [t] ⟨r.same.trans (same_laid ht), rv, pureAll_mem (rngD_pure _ _), ⟨fun _ => ⟨by simp, fun b hb => ?_⟩, fun _ _ => ⟨t, [], rfl, rfl, r.same.free ht, by simp⟩⟩, fun b hb => ?_, fun b hb => nomatch hb⟩
    · rw [List.mem_singleton] at hb
      rw [hb]
      exact r.same.free ht
    · rw [List.mem_singleton] at hb
      rw [hb]
      exact .inl (r.same.free ht)
  · cases h2
theorem enum_ty {n : Nat} {xs : List D} (h : ∀ x ∈ xs, TyOk (if n ≤ 1 then 0 else 2) x) : ∀ d ∈ enumD 0 xs, TyOk (if n ≤ 1 then 0 else 2) d := by
  intro d hd
  obtain ⟨i, hi, e⟩ := List.mem_iff_getElem.mp hd
  have e' : (enumD 0 xs)[i]? = some d := by rw [List.getElem?_eq_getElem hi, e]
  rw [enumD_get] at e'
  cases q' : xs[i]? with
  | none => rw [q'] at e'; cases e'
  | some z =>
    rw [q'] at e'
    cases e'
    have tz := h z (List.mem_of_getElem? q')
    split
    · rename_i hz
      rw [if_pos hz] at tz
      show pureAll _ = true
      have tz : z.pure = true := tz
      simp [pureAll, D.pure, tz]
    · trivial
theorem i_enu (C : Ctx Y N X) {a : IE} {x : Expr} {elts : List Expr} {kk : Nat} {tpos p p2 : Pos} (hg : glb X.env.scope (Str.ofString "enumerate") = true) (hx : plainE x = true) (ha : PE X x (tE Y (gc Y X) kd a)) :
    PI X (.Tuple elts kk tpos) (.Call (.Name (Str.ofString "enumerate") p2) [x] [] p) (tIt Y (gc Y X) kd (.enu a)) := by
  refine PI.imp (pi_enumM (glb_ok hg) (C.bn _ (by decide)) (pa_cons ha pa_nil (star_cons hx [] X.env)) (star_cons hx [] X.env)) fun σ H R h => ?_
  obtain ⟨s, Fs, ds, rl, h1, q⟩ := h
  obtain ⟨d, ed, h2⟩ := bind_ok (show (evE Y.Φ Y.M a s).bind _ = _ from h1)
  refine ⟨s, Fs, d, rl, ed, fun v H1 F r => ?_⟩
  obtain ⟨sm, rp, ty, fr, al, an⟩ := r
  have fin : ∀ xs, (d = .lst xs ∨ d = .tup xs) → ds = enumD 0 xs → ∃ (k : Bool) (c : Addr) (ps : List V), [v] = [.ref c] ∧ SqX X.K H1 k c ps ∧ R (ItEm X.K k c) H1 := fun xs hd e => by
    subst e
    obtain ⟨k, c, vs, f1, rfl, rr, i1, u1, st⟩ := seq_of rp hd
    refine ⟨k, c, vs, rfl, st H1 (Imm.refl _) fun c _ => rfl, q _ H1 f1 (fun c => c ∈ F) ⟨sm, walk_enumM rr u1 st, fun c hc => rp.there c hc, fun c hc => rr.there c hc, fun c hc => an c (i1 ▸ hc), fun c hc => al c hc, enum_ty (el_ty ty hd)⟩⟩
  split at h2
  · exact fin _ (.inl rfl) (by cases h2; rfl)
  · exact fin _ (.inr rfl) (by cases h2; rfl)
  · cases h2
theorem zip_ty {n m : Nat} {xs ys : List D} (h1 : ∀ x ∈ xs, TyOk (if n ≤ 1 then 0 else 2) x) (h2 : ∀ x ∈ ys, TyOk (if m ≤ 1 then 0 else 2) x) : ∀ d ∈ zipD xs ys, TyOk (if n ≤ 1 then (if m ≤ 1 then 0 else 2) else 2) d := by
  intro d hd
  obtain ⟨i, hi, e⟩ := List.mem_iff_getElem.mp hd
  have e' : (zipD xs ys)[i]? = some d := by rw [List.getElem?_eq_getElem hi, e]
  obtain ⟨x, y, q1, q2, rfl⟩ := zipD_get _ _ _ _ e'
  have t1 := h1 x (List.mem_of_getElem? q1)
  have t2 := h2 y (List.mem_of_getElem? q2)
  split
  · rename_i z1
    rw [if_pos z1] at t1
    split
    · rename_i z2
      rw [if_pos z2] at t2
      have t1 : x.pure = true := t1
      have t2 : y.pure = true := t2
      show pureAll _ = true
      simp [pureAll, t1, t2]
    · trivial
  · trivial
theorem zip_wk {G : GC} {kd : Nat → Nat} {it : II} {σ : Sg} {Fs : Nat → List Addr} {H H1 H2 : Hp} {v w : V} {d e : D} {F F2 : List Addr} {ds es : List D} {J : It → Hp → Prop}
    (hq : d = .lst ds ∨ d = .tup ds) (he : e = .lst es ∨ e = .tup es) (r : Rep G H1 v d F) (sm : Same H H1) (sm2 : Same H1 H2) (r2 : Rep G H2 w e F2)
    (an : ∀ a ∈ innF d F, H a = none ∨ InAl σ Fs (alI Y.sg Y.ms it kd) a) (an2 : ∀ a ∈ innF e F2, H1 a = none ∨ InAl σ Fs (alI Y.sg Y.ms it kd) a)
    (al : ∀ a ∈ F, H a = none ∨ InAl σ Fs (alIW Y kd it) a) (al2 : ∀ a ∈ F2, H1 a = none ∨ InAl σ Fs (alIW Y kd it) a)
    (ty : ∀ x ∈ zipD ds es, TyOk (tyI Y.sg Y.ms it kd) x)
    (q : ∀ J' H3 FA P, Wk Y G kd it σ Fs H (zipD ds es) J' H3 FA P → J J' H3) :
    ∃ (k1 k2 : Bool) (a b : Addr) (xs ys : List V), [v, w] = [.ref a, .ref b] ∧ SqX G.K H2 k1 a xs ∧ SqX G.K H2 k2 b ys ∧ J (ItM G.K k1 k2 a b) H2 := by
  obtain ⟨k1, a, vs, f1, rfl, rr, i1, u1, st⟩ := seq_of (r.same sm2) hq
  obtain ⟨k2, b, ws, f2, rfl, ss, i2, u2, st2⟩ := seq_of r2 he
  have hx : ∀ H, Imm H2 H → (∀ c, c ∈ F ∨ c ∈ F2 → H c = H2 c) → SqX G.K H k1 a vs ∧ SqX G.K H k2 b ws := fun H hi hp => ⟨st H hi fun c hc => hp c (.inl hc), st2 H hi fun c hc => hp c (.inr hc)⟩
  have h2 := hx H2 (Imm.refl _) fun c _ => rfl
  refine ⟨k1, k2, a, b, vs, ws, rfl, h2.1, h2.2, q _ H2 (f1 ++ f2) (fun c => c ∈ F ∨ c ∈ F2) ⟨sm.trans sm2, walk_zipM rr ss (fun c hc => .inl (u1 c hc)) (fun c hc => .inr (u2 c hc)) hx, fun c hc => ?_, fun c hc => ?_, fun c hc => ?_, fun c hc => ?_, ty⟩⟩
  · exact hc.elim ((r.same sm2).there c) (r2.there c)
  · exact (List.mem_append.mp hc).elim (rr.there c) (ss.there c)
  · rcases List.mem_append.mp hc with hc | hc
    · exact an c (i1 ▸ hc)
    · exact (an2 c (i2 ▸ hc)).imp sm.free id
  · rcases hc with hc | hc
    · exact al c hc
    · exact (al2 c hc).imp sm.free id
theorem i_zip (C : Ctx Y N X) {a b : IE} {x y : Expr} {elts : List Expr} {kk : Nat} {tpos p p2 : Pos} (hg : glb X.env.scope (Str.ofString "zip") = true) (hx : plainE x = true) (hy : plainE y = true) (ha : PE X x (tE Y (gc Y X) kd a)) (hb : PE X y (tE Y (gc Y X) kd b)) :
    PI X (.Tuple elts kk tpos) (.Call (.Name (Str.ofString "zip") p2) [x, y] [] p) (tIt Y (gc Y X) kd (.zip a b)) := by
  refine PI.imp (pi_zipM (glb_ok hg) (C.bn _ (by decide)) (pa_cons ha (pa_cons hb pa_nil (star_cons hy [] X.env)) (star_cons hx _ X.env)) (star_cons hx _ X.env) (by rw [star_cons hy]; rfl)) fun σ H R h => ?_
  obtain ⟨s, Fs, ds, rl, h1, q⟩ := h
  obtain ⟨d, ed, h2⟩ := bind_ok (show (evE Y.Φ Y.M a s).bind _ = _ from h1)
  obtain ⟨d', ed', h3⟩ := bind_ok h2
  refine ⟨s, Fs, d, rl, ed, fun v H1 F r => ⟨s, Fs, d', rl.same r.same, ed', fun w H2 F2 r2 => ?_⟩⟩
  obtain ⟨sm, rp, ty, fr, al, an⟩ := r
  obtain ⟨sm2, rp2, ty2, fr2, al2, an2⟩ := r2
  have fin : ∀ xs ys, (d = .lst xs ∨ d = .tup xs) → (d' = .lst ys ∨ d' = .tup ys) → ds = zipD xs ys → ∃ (k1 k2 : Bool) (a b : Addr) (ps qs : List V), [v, w] = [.ref a, .ref b] ∧ SqX X.K H2 k1 a ps ∧ SqX X.K H2 k2 b qs ∧ R (ItM X.K k1 k2 a b) H2 := fun xs ys hd he e => by
    subst e
    exact zip_wk (Y := Y) (kd := kd) (it := .zip a b) (J := R) hd he rp sm sm2 rp2 (fun c hc => (an c hc).imp id .left) (fun c hc => (an2 c hc).imp id .right) (fun c hc => (al c hc).imp id .left) (fun c hc => (al2 c hc).imp id .right) (zip_ty (el_ty ty hd) (el_ty ty2 he)) q
  split at h3
  · exact fin _ _ (.inl rfl) (.inl rfl) (by cases h3; rfl)
  · exact fin _ _ (.inr rfl) (.inr rfl) (by cases h3; rfl)
  · exact fin _ _ (.inl rfl) (.inr rfl) (by cases h3; rfl)
  · exact fin _ _ (.inr rfl) (.inl rfl) (by cases h3; rfl)
  · cases h3
theorem i_rvs (C : Ctx Y N X) {a : IE} {tg x : Expr} {p p2 : Pos} (hg : glb X.env.scope (Str.ofString "reversed") = true) (hx : plainE x = true) (ha : PE X x (tE Y (gc Y X) kd a)) : PI X tg (.Call (.Name (Str.ofString "reversed") p2) [x] [] p) (tIt Y (gc Y X) kd (.rvs a)) := by
  refine PI.imp (RT.pi_revA (glb_ok hg) (C.bn _ (by decide)) ha (star_cons hx [] X.env)) fun σ H R h => ?_
  obtain ⟨s, Fs, ds, rl, h1, q⟩ := h
  obtain ⟨d, ed, h2⟩ := bind_ok (show (evE Y.Φ Y.M a s).bind _ = _ from h1)
  refine ⟨s, Fs, d, rl, ed, fun v H1 F r => ?_⟩
  obtain ⟨sm, rp, ty, fr, al, an⟩ := r
  split at h2
  · rename_i xs
    cases h2
    cases rp with
    | lst e rr =>
    refine ⟨_, _, rfl, .inl ⟨SqL.of e, q _ H1 _ _ ⟨sm, walk_revL e rr, fun a ha => ?_, rr.there, fun a ha => an a ha, fun a ha => ?_, fun d hd => el_ty ty (.inl rfl) d (List.mem_reverse.mp hd)⟩⟩⟩
    · rcases ha with rfl | ha
      · exact ⟨_, e⟩
      · exact rr.there a ha
    · rcases ha with rfl | ha
      · exact al _ (List.mem_cons_self ..)
      · exact al _ (List.mem_cons_of_mem _ ha)
  · rename_i xs
    cases h2
    cases rp with
    | tup e rr =>
    exact ⟨_, _, rfl, .inr ⟨e, q _ H1 _ _ ⟨sm, walk_revT e rr, fun a ha => rr.there a ha, rr.there, fun a ha => an a ha, fun a ha => al a ha, fun d hd => el_ty ty (.inr rfl) d (List.mem_reverse.mp hd)⟩⟩⟩
  · cases h2
end
end Ev

/-! Part B9: list comprehensions. -/
namespace Ev
open PySem PySem.Spec PyProof.Rows L2
theorem own_tgs {N : List Str} {sc : Scope} : ∀ {is : List Nat} {es : List Expr}, mNs N sc is es = true → (ownNs is es).map (·.2) = is
  | [], es, _ => by
    cases es with
    | nil => rfl
    | cons e es => cases e <;> rfl
  | i :: is, [], h => by cases h
  | i :: is, e :: es, h => by
    cases e with
    | Name x p =>
      rw [mNs, Bool.and_eq_true] at h
      show i :: (ownNs is es).map (·.2) = i :: is
      rw [own_tgs h.2]
    | _ => cases h
theorem ownT_tgs {N : List Str} {sc : Scope} {tg : Tg} {e : Expr} (h : mT N sc tg e = true) : (ownT tg e).map (·.2) = tgs tg := by
  unfold mT at h
  split at h
  · rfl
  · exact own_tgs h
  · cases h
section
variable {G : GC} {H : Hp}
/-- what the binding of a target leaves -/
structure Bd (σ σ' : Sg) (Fs Fs' : Nat → List Addr) (ts : List Nat) (F : List Addr) : Prop where
  fin : ∀ k, k ∈ ts → ∀ a ∈ Fs' k, a ∈ F
  fout : ∀ k, k ∉ ts → Fs' k = Fs k
  sout : ∀ k : Nat, k ∉ ts → σ'[k]? = σ[k]?
  len : σ'.length = σ.length
theorem setAll_len : ∀ (is : List Nat) (ds : List D) (σ : Sg), (bindT.setAll is ds σ).length = σ.length
  | [], ds, σ => by cases ds <;> rfl
  | i :: is, [], σ => rfl
  | i :: is, d :: ds, σ => by
    show (bindT.setAll is ds (σ.set i (some d))).length = _
    rw [setAll_len is ds, List.length_set]
theorem bds_ok {kd : Nat → Nat} : ∀ {is : List Nat} {ds : List D} {vs : List V} {F : List Addr} {σ : Sg} {σc : L2.St} {Fs : Nat → List Addr} {R : L2.St → Hp → Prop}, ds.length = is.length → RelE G kd σ σc H Fs → Reps G H vs ds F → (∀ d ∈ ds, ∀ i ∈ is, TyOk (kd i) d) →
    (∀ σc' Fs', RelE G kd (bindT.setAll is ds σ) σc' H Fs' → (∀ k, k ∈ is → ∀ a ∈ Fs' k, a ∈ F ∨ a ∈ Fs k) → (∀ k, k ∉ is → Fs' k = Fs k) → (∀ k : Nat, k ∉ is → (bindT.setAll is ds σ)[k]? = σ[k]?) → (∀ k : Nat, k ∉ is → σc'[k]? = σc[k]?) → R σc' H) → gsT is vs σc H R
  | [], [], vs, F, σ, σc, Fs, R, _, rl, rp, _, q => by
    cases rp
    exact ⟨rfl, q σc Fs rl (fun k h => nomatch h) (fun _ _ => rfl) (fun _ _ => rfl) fun _ _ => rfl⟩
  | i :: is, d :: ds, vs, F, σ, σc, Fs, R, hl, rl, rp, ht, q => by
    cases rp with
    | cons r rs =>
    rename_i v vs F1 F2
    refine ⟨v, vs, rfl, ?_⟩
    show gsT is vs (σc.set i (some v)) H R
    have rl' := rl.set (i := i) r (ht d (List.mem_cons_self ..) i (List.mem_cons_self ..))
    refine bds_ok (by simpa using hl) rl' rs (fun d' hd j hj => ht d' (List.mem_cons_of_mem _ hd) j (List.mem_cons_of_mem _ hj)) fun σc' Fs' r1 r2 r3 r4 r5 => ?_
    refine q σc' Fs' r1 (fun k hk a ha => ?_) (fun k hk => ?_) (fun k hk => ?_) fun k hk => ?_
    · by_cases m : k ∈ is
      · rcases r2 k m a ha with z | z
        · exact .inl (List.mem_append_right _ z)
        · unfold fsT at z
          split at z
          · exact .inl (List.mem_append_left _ z)
          · exact .inr z
      · rw [r3 k m] at ha
        unfold fsT at ha
        split at ha
        · exact .inl (List.mem_append_left _ ha)
        · exact .inr ha
    · have h1 : k ∉ is := fun z => hk (List.mem_cons_of_mem _ z)
      have h2 : k ≠ i := fun z => hk (by rw [z]; exact List.mem_cons_self ..)
      rw [r3 k h1]
      unfold fsT
      rw [if_neg h2]
    · have h1 : k ∉ is := fun z => hk (List.mem_cons_of_mem _ z)
      have h2 : i ≠ k := fun z => hk (by rw [z]; exact List.mem_cons_self ..)
      show (bindT.setAll is ds (σ.set i (some d)))[k]? = _
      rw [r4 k h1, List.getElem?_set_ne h2]
    · have h1 : k ∉ is := fun z => hk (List.mem_cons_of_mem _ z)
      have h2 : i ≠ k := fun z => hk (by rw [z]; exact List.mem_cons_self ..)
      rw [r5 k h1, List.getElem?_set_ne h2]
  | [], _ :: _, _, _, _, _, _, _, h, _, _, _, _ => by simp at h
  | _ :: _, [], _, _, _, _, _, _, h, _, _, _, _ => by simp at h
def tyP (kd : Nat → Nat) : List Nat → List D → Prop
  | i :: is, d :: ds => TyOk (kd i) d ∧ tyP kd is ds
  | _, _ => True
def leK (kd : Nat → Nat) : List Nat → List Nat → Bool
  | k :: ks, i :: is => decide (k ≤ kd i) && leK kd ks is
  | [], [] => true
  | _, _ => false
theorem and2b {a b : Bool} (h : (a && b) = true) : a = true ∧ b = true := by simpa using h
theorem tyC_ok : ∀ {k : Nat} {d : D}, tyC k d = true → TyOk k d
  | 0, _, h => h
  | 1, _, h => h
  | _ + 2, _, _ => trivial
theorem tyP_of {kd : Nat → Nat} : ∀ {ks is : List Nat} {ds : List D}, leK kd ks is = true → tyChk ks ds = true → tyP kd is ds
  | [], [], _, _, _ => by simp [tyP]
  | [], _ :: _, _, h, _ => by cases h
  | _ :: _, [], _, h, _ => by cases h
  | k :: ks, i :: is, [], _, _ => trivial
  | k :: ks, i :: is, d :: ds, h, h2 => by
    obtain ⟨h3, h4⟩ := and2b (show (decide (k ≤ kd i) && leK kd ks is) = true from h)
    obtain ⟨h5, h6⟩ := and2b (show (tyC k d && tyChk ks ds) = true from h2)
    exact ⟨TyOk.mono (of_decide_eq_true h3) (tyC_ok h5), tyP_of h4 h6⟩
theorem bds_ok2 {kd : Nat → Nat} : ∀ {is : List Nat} {ds : List D} {vs : List V} {F : List Addr} {σ : Sg} {σc : L2.St} {Fs : Nat → List Addr} {R : L2.St → Hp → Prop}, ds.length = is.length → RelE G kd σ σc H Fs → Reps G H vs ds F → tyP kd is ds →
    (∀ σc' Fs', RelE G kd (bindT.setAll is ds σ) σc' H Fs' → (∀ k, k ∈ is → ∀ a ∈ Fs' k, a ∈ F ∨ a ∈ Fs k) → (∀ k, k ∉ is → Fs' k = Fs k) → (∀ k : Nat, k ∉ is → (bindT.setAll is ds σ)[k]? = σ[k]?) → (∀ k : Nat, k ∉ is → σc'[k]? = σc[k]?) → R σc' H) → gsT is vs σc H R
  | [], [], vs, F, σ, σc, Fs, R, _, rl, rp, _, q => by
    cases rp
    exact ⟨rfl, q σc Fs rl (fun k h => nomatch h) (fun _ _ => rfl) (fun _ _ => rfl) fun _ _ => rfl⟩
  | i :: is, d :: ds, vs, F, σ, σc, Fs, R, hl, rl, rp, ht, q => by
    cases rp with
    | cons r rs =>
    rename_i v vs F1 F2
    refine ⟨v, vs, rfl, ?_⟩
    show gsT is vs (σc.set i (some v)) H R
    have rl' := rl.set (i := i) r ht.1
    refine bds_ok2 (by simpa using hl) rl' rs ht.2 fun σc' Fs' r1 r2 r3 r4 r5 => ?_
    refine q σc' Fs' r1 (fun k hk a ha => ?_) (fun k hk => ?_) (fun k hk => ?_) fun k hk => ?_
    · by_cases m : k ∈ is
      · rcases r2 k m a ha with z | z
        · exact .inl (List.mem_append_right _ z)
        · unfold fsT at z
          split at z
          · exact .inl (List.mem_append_left _ z)
          · exact .inr z
      · rw [r3 k m] at ha
        unfold fsT at ha
        split at ha
        · exact .inl (List.mem_append_left _ ha)
        · exact .inr ha
    · have h1 : k ∉ is := fun z => hk (List.mem_cons_of_mem _ z)
      have h2 : k ≠ i := fun z => hk (by rw [z]; exact List.mem_cons_self ..)
      rw [r3 k h1]
      unfold fsT
      rw [if_neg h2]
    · have h1 : k ∉ is := fun z => hk (List.mem_cons_of_mem _ z)
      have h2 : i ≠ k := fun z => hk (by rw [z]; exact List.mem_cons_self ..)
      show (bindT.setAll is ds (σ.set i (some d)))[k]? = _
      rw [r4 k h1, List.getElem?_set_ne h2]
    · have h1 : k ∉ is := fun z => hk (List.mem_cons_of_mem _ z)
      have h2 : i ≠ k := fun z => hk (by rw [z]; exact List.mem_cons_self ..)
      rw [r5 k h1, List.getElem?_set_ne h2]
  | [], _ :: _, _, _, _, _, _, _, h, _, _, _, _ => by simp at h
  | _ :: _, [], _, _, _, _, _, _, h, _, _, _, _ => by simp at h
theorem bd_many2 {kd : Nat → Nat} {is : List Nat} {ds : List D} {v : V} {F : List Addr} {σ σ' : Sg} {σc : L2.St} {Fs : Nat → List Addr} {R : L2.St → Hp → Prop} (h : bindT (.many is) (.tup ds) σ = .ok σ') (rl : RelE G kd σ σc H Fs) (rv : Rep G H v (.tup ds) F) (hf : ∀ k ∈ is, Fs k = [])
    (ht : tyP kd is ds) (q : ∀ σc' Fs', RelE G kd σ' σc' H Fs' → Bd σ σ' Fs Fs' is F → (∀ k : Nat, k ∉ is → σc'[k]? = σc[k]?) → R σc' H) : gT G.K (.many is) v σc H R := by
  simp only [bindT] at h
  split at h
  · rename_i hl
    cases h
    cases rv with
    | tup s r =>
    refine .inl ⟨_, _, rfl, s, by rw [r.length]; exact hl, bds_ok2 hl rl r ht fun σc' Fs' r1 r2 r3 r4 r5 => q σc' Fs' r1 ⟨fun k hk a ha => ?_, r3, r4, setAll_len ..⟩ r5⟩
    rcases r2 k hk a ha with z | z
    · exact z
    · rw [hf k hk] at z
      exact nomatch z
  · cases h
theorem bd_many {kd : Nat → Nat} {is : List Nat} {d : D} {v : V} {F : List Addr} {σ σ' : Sg} {σc : L2.St} {Fs : Nat → List Addr} {R : L2.St → Hp → Prop} (h : bindT (.many is) d σ = .ok σ') (rl : RelE G kd σ σc H Fs) (rv : Rep G H v d F) (hf : ∀ k ∈ is, Fs k = [])
    (ht : ∀ i ∈ is, d.ep = true ∨ 2 ≤ kd i) (q : ∀ σc' Fs', RelE G kd σ' σc' H Fs' → Bd σ σ' Fs Fs' is (innF d F) → (∀ k : Nat, k ∉ is → σc'[k]? = σc[k]?) → R σc' H) : gT G.K (.many is) v σc H R := by
  cases d with
  | tup ds =>
    simp only [bindT] at h
    split at h
    · rename_i hl
      cases h
      cases rv with
      | tup s r =>
      refine .inl ⟨_, _, rfl, s, by rw [r.length]; exact hl, bds_ok hl rl r (fun e he i hi => ?_) fun σc' Fs' r1 r2 r3 r4 r5 => q σc' Fs' r1 ⟨fun k hk a ha => ?_, r3, r4, setAll_len ..⟩ r5⟩
      · rcases ht i hi with z | z
        · exact TyOk.pure (mem_pureAll (by simpa [D.ep, D.pure] using z) he) _
        · exact TyOk.mono z trivial
      · rcases r2 k hk a ha with z | z
        · exact z
        · rw [hf k hk] at z
          exact nomatch z
    · cases h
  | lst ds =>
    simp only [bindT] at h
    split at h
    · rename_i hl
      cases h
      cases rv with
      | lst s r =>
      refine .inr ⟨_, _, rfl, SqL.of s, by rw [r.length]; exact hl, bds_ok hl rl r (fun e he i hi => ?_) fun σc' Fs' r1 r2 r3 r4 r5 => q σc' Fs' r1 ⟨fun k hk a ha => ?_, r3, r4, setAll_len ..⟩ r5⟩
      · rcases ht i hi with z | z
        · exact TyOk.pure (mem_pureAll (by simpa [D.ep] using z) he) _
        · exact TyOk.mono z trivial
      · rcases r2 k hk a ha with z | z
        · exact z
        · rw [hf k hk] at z
          exact nomatch z
    · cases h
  | _ => cases h
theorem bd_ok {kd : Nat → Nat} {tg : Tg} {d : D} {v : V} {F : List Addr} {σ σ' : Sg} {σc : L2.St} {Fs : Nat → List Addr} {R : L2.St → Hp → Prop} (h : bindT tg d σ = .ok σ') (rl : RelE G kd σ σc H Fs) (rv : Rep G H v d F) (hf : ∀ k ∈ tgs tg, Fs k = [])
    (ht : ∀ i ∈ tgs tg, TyOk (kd i) d ∧ (d.pure = true ∨ 2 ≤ kd i)) (q : ∀ σc' Fs', RelE G kd σ' σc' H Fs' → Bd σ σ' Fs Fs' (tgs tg) F → (∀ k : Nat, k ∉ tgs tg → σc'[k]? = σc[k]?) → R σc' H) : gT G.K tg v σc H R := by
  cases tg with
  | one i =>
    cases h
    show R (σc.set i (some v)) H
    have ti := (ht i (List.mem_singleton.mpr rfl)).1
    refine q _ _ (rl.set rv ti) ⟨fun k hk a ha => ?_, fun k hk => ?_, fun k hk => ?_, List.length_set ..⟩ fun k hk => ?_
    · have e : k = i := List.mem_singleton.mp hk
      unfold fsT at ha
      rw [if_pos e] at ha
      exact ha
    · have e : k ≠ i := fun z => hk (List.mem_singleton.mpr z)
      unfold fsT
      rw [if_neg e]
    · have e : i ≠ k := fun z => hk (List.mem_singleton.mpr z.symm)
      rw [List.getElem?_set_ne e]
    · have e : i ≠ k := fun z => hk (List.mem_singleton.mpr z.symm)
      rw [List.getElem?_set_ne e]
  | many is =>
    exact bd_many h rl rv hf (fun i hi => by
      rcases (ht i hi).2 with z | z
      · exact .inl (ep_of_pure z)
      · exact .inr z) fun σc' Fs' rb bd e => q σc' Fs' rb ⟨fun k hk a ha => innF_sub (bd.fin k hk a ha), bd.fout, bd.sout, bd.len⟩ e
theorem wipeT_get {tg : Tg} {σ : Sg} : (∀ k : Nat, k ∉ tgs tg → (wipeT tg σ)[k]? = σ[k]?) ∧ (∀ k : Nat, k ∈ tgs tg → ∀ d, (wipeT tg σ)[k]? ≠ some (some d)) ∧ (wipeT tg σ).length = σ.length := by
  cases tg with
  | one i =>
    refine ⟨fun k hk => ?_, fun k hk d e => ?_, List.length_set ..⟩
    · have e : i ≠ k := fun z => hk (List.mem_singleton.mpr z.symm)
      exact List.getElem?_set_ne e
    · have e1 : k = i := List.mem_singleton.mp hk
      subst e1
      have e2 : (σ.set k none)[k]? = some (some d) := e
      by_cases l : k < σ.length
      · rw [List.getElem?_set_self l] at e2
        cases e2
      · rw [List.getElem?_eq_none (by rw [List.length_set]; omega)] at e2
        cases e2
  | many is =>
    have key : ∀ (is : List Nat) (σ : Sg), (∀ k : Nat, k ∉ is → (is.foldl (fun s i => s.set i none) σ)[k]? = σ[k]?) ∧ (∀ k : Nat, (k ∈ is ∨ ∀ d, σ[k]? ≠ some (some d)) → ∀ d, (is.foldl (fun s i => s.set i none) σ)[k]? ≠ some (some d)) ∧ (is.foldl (fun s i => s.set i none) σ).length = σ.length := by
      intro is
      induction is with
      | nil => exact fun σ => ⟨fun _ _ => rfl, fun k hk d => hk.elim (fun z => nomatch z) fun z => z d, rfl⟩
      | cons i is ih =>
        intro σ
        obtain ⟨h1, h2, h3⟩ := ih (σ.set i none)
        refine ⟨fun k hk => ?_, fun k hk d => ?_, by rw [List.foldl_cons, h3, List.length_set]⟩
        · rw [List.foldl_cons, h1 k fun z => hk (List.mem_cons_of_mem _ z), List.getElem?_set_ne fun z => hk (by rw [z]; exact List.mem_cons_self ..)]
        · rw [List.foldl_cons]
          refine h2 k ?_ d
          by_cases m : k ∈ is
          · exact .inl m
          · right
            intro d' e
            by_cases z : i = k
            · subst z
              by_cases l : i < σ.length
              · rw [List.getElem?_set_self l] at e
                cases e
              · rw [List.getElem?_eq_none (by rw [List.length_set]; omega)] at e
                cases e
            · rw [List.getElem?_set_ne z] at e
              rcases hk with hk | hk
              · rcases List.mem_cons.mp hk with y | y
                · exact z y.symm
                · exact m y
              · exact hk d' e
    obtain ⟨h1, h2, h3⟩ := key is σ
    exact ⟨h1, fun k hk => h2 k (.inl hk), h3⟩
def fsW (Fs : Nat → List Addr) (ts : List Nat) : Nat → List Addr := fun k => if k ∈ ts then [] else Fs k
theorem RelE.wiped {kd kd' : Nat → Nat} {σ : Sg} {σc : L2.St} {Fs : Nat → List Addr} {tg : Tg} (r : RelE G kd σ σc H Fs) (hk : ∀ k, k ∉ tgs tg → kd' k = kd k) : RelE G kd' (wipeT tg σ) (L2.wipe σc (tgs tg)) H (fsW Fs (tgs tg)) := by
  obtain ⟨h1, h2, h3⟩ := wipeT_get (tg := tg) (σ := σ)
  refine ⟨fun i d e => ?_, fun i d e => ?_, ?_, fun i a ha => ?_⟩
  · have m : i ∉ tgs tg := fun z => h2 i z d e
    rw [h1 i m] at e
    obtain ⟨v, e1, e2⟩ := r.rep i d e
    refine ⟨v, ?_, ?_⟩
    · rw [wipe_get, if_neg m]
      exact e1
    · unfold fsW
      rw [if_neg m]
      exact e2
  · have m : i ∉ tgs tg := fun z => h2 i z d e
    rw [h1 i m] at e
    rw [hk i m]
    exact r.ty i d e
  · rw [wipe_length, h3, r.len]
  · unfold fsW at ha
    split at ha
    · exact nomatch ha
    · exact r.tr i a ha
end
theorem kdT_in {kd : Nat → Nat} {tg : Tg} {t k : Nat} (h : k ∈ tgs tg) : kdT kd tg t k = t := by
  unfold kdT
  rw [if_pos (by simpa using h)]
theorem kdT_out {kd : Nat → Nat} {tg : Tg} {t k : Nat} (h : k ∉ tgs tg) : kdT kd tg t k = kd k := by
  unfold kdT
  rw [if_neg (by simpa using h)]
theorem inAl_bd {σ σ' : Sg} {Fs Fs' : Nat → List Addr} {ts : List Nat} {F : List Addr} {al : Al} {a : Addr} (b1 : ∀ k, k ∈ ts → ∀ a ∈ Fs' k, a ∈ F) (b2 : ∀ k, k ∉ ts → Fs' k = Fs k) (b3 : ∀ k : Nat, k ∉ ts → σ'[k]? = σ[k]?)
    (h : InAl σ' Fs' al a) : a ∈ F ∨ InAl σ Fs (al.minus ts) a := by
  rcases h with ⟨k, hk, h⟩ | ⟨k, hk, h⟩
  · by_cases m : k ∈ ts
    · exact .inl (b1 k m a h)
    · rw [b2 k m] at h
      exact .inr (.inl ⟨k, List.mem_filter.mpr ⟨hk, by simpa using m⟩, h⟩)
  · by_cases m : k ∈ ts
    · refine .inl (b1 k m a ?_)
      unfold inn at h
      split at h
      · exact innF_sub h
      · exact h
    · refine .inr (.inr ⟨k, List.mem_filter.mpr ⟨hk, by simpa using m⟩, ?_⟩)
      unfold inn at h ⊢
      rw [b3 k m, b2 k m] at h
      exact h
/-- the context of a comprehension's block -/
theorem Ctx.blk {Y : SX} {N : List Str} {X : Cx} (C : Ctx Y N X) (s : Shared) (H : Hp) (scope : Scope) (cenv : Env) (fp : List Addr) : Ctx Y N (X.blk s H scope cenv fp) :=
  ⟨C.N, C.nd, C.calm, C.hu, C.bn, C.ci, C.cs, C.fn, C.cl, C.mt⟩
section
variable {Y : SX} {N : List Str} {X : Cx} {kd : Nat → Nat}
/-- the body of the comprehension -/
abbrev cbody (Y : SX) (elt : IE) (tg : Tg) (ifs : IEo) (s : Sg) (x : D) : R (Option D) := (bindT tg x (wipeT tg s)).bind fun σ' => (evC Y.Φ Y.M ifs σ').bind fun k => if k then (evE Y.Φ Y.M elt σ').bind fun y => .ok (some y) else .ok none
theorem comp_read {X : Cx} {elt : IE} {tg : Tg} {it : II} {ifs : IEo} (σ : L2.St) (H : Hp) (Q : VK) (h : tE Y (gc Y X) kd (.comp elt tg it ifs) σ H Q) :
    tLc (tIt Y (gc Y X) kd it) (gT X.K tg) (tIf Y (gc Y X) (kdT kd tg (tyI Y.sg Y.ms it kd)) ifs) (tE Y (gc Y X) (kdT kd tg (tyI Y.sg Y.ms it kd)) elt) (tgs tg) σ H Q := by
  obtain ⟨s, Fs, d, rl, h1, q⟩ := h
  obtain ⟨xs, exs, h2⟩ := bind_ok (show (evI Y.Φ Y.M it s).bind _ = _ from h1)
  obtain ⟨_, hc, h3⟩ := bind_ok h2
  have hline := of_decide_eq_true (chk_ok hc)
  obtain ⟨ys, eys, h4⟩ := bind_ok h3
  cases h4
  refine ⟨s, Fs, xs, rl, exs, fun J H1 FA P wk D hD => ?_⟩
  have hD0 : H D = none := wk.same.free hD
  have trk : ∀ a, (∃ o, H1 a = some o) → a ≠ D := fun a ⟨o, e⟩ z => by
    subst z
    rw [hD] at e
    cases e
  have fsD : ∀ k, ∀ a ∈ Fs k, a ≠ D := fun k a ha => by
    obtain ⟨o, e⟩ := rl.tr k a ha
    exact trk a ⟨o, wk.same a o e⟩
  let kd' := kdT kd tg (tyI Y.sg Y.ms it kd)
  let AL : Al := ((alP Y.sg Y.ms elt kd').1.minus (tgs tg)).un (alI Y.sg Y.ms it kd)
  refine ⟨fun j m H' => j + m = xs.length ∧ Same H1 H' ∧ ∃ acc accD Facc rest, H' D = some (.lst acc) ∧ Reps (gc Y X) H' acc accD Facc ∧ compL (cbody Y elt tg ifs s) (xs.drop j) = .ok rest ∧ ys = accD ++ rest ∧ accD.length ≤ j ∧ D ∉ Facc ∧
      (∀ a ∈ Facc, H a = none ∨ InAl s Fs AL a) ∧ (frE Y.sg Y.ms elt kd' ≤ 1 → Facc.Nodup ∧ ∀ a ∈ Facc, H a = none) ∧ (tyE Y.sg Y.ms elt kd' = 0 → pureAll accD = true),
    ⟨xs.length, by omega, same_laid hD, [], [], [], ys, upd_same, .nil, eys, rfl, Nat.le_refl _, by simp, (fun a ha => nomatch ha), (fun _ => ⟨List.nodup_nil, fun a ha => nomatch ha⟩), fun _ => rfl⟩, fun j m H' hW => ?_⟩
  obtain ⟨hm, sm, acc, accD, Facc, rest, eD, rA, eR, eY, hl, nD, alA, frA, tyA⟩ := hW
  have prot : ∀ a, P a → H' a = H1 a := fun a ha => by
    obtain ⟨o, e⟩ := wk.pt a ha
    rw [e, sm a o e]
  by_cases hj : j < xs.length
  · right
    have ej : xs[j]? = some xs[j] := List.getElem?_eq_getElem hj
    have edrop : xs.drop j = xs[j] :: xs.drop (j + 1) := List.drop_eq_getElem_cons hj
    rw [edrop] at eR
    obtain ⟨o, eo, eR⟩ := bind_ok (show (cbody Y elt tg ifs s xs[j]).bind _ = _ from eR)
    obtain ⟨rest', er', eR⟩ := bind_ok eR
    obtain ⟨σ', eb, eo⟩ := bind_ok eo
    obtain ⟨k, ek, eo⟩ := bind_ok eo
    obtain ⟨go, yl⟩ := wk.walk.go H' (same_imm sm) prot j _ ej
    refine ⟨go, _, fun H'' h => ⟨xs.length - (j + 1), by omega, h⟩, fun v H2 hy => ?_⟩
    obtain ⟨sm2, F, rv, hF⟩ := yl v H2 hy
    have smH2 : Same H H2 := wk.same.trans (sm.trans sm2)
    have rw0 : RelE (gc Y X) kd' (wipeT tg s) (L2.wipe σ (tgs tg)) H2 (fsW Fs (tgs tg)) := (rl.same smH2).wiped fun k hk => kdT_out hk
    have tyx := wk.ty _ (List.getElem_mem hj)
    refine bd_ok (G := gc Y X) eb rw0 rv (fun k hk => by unfold fsW; rw [if_pos hk]) (fun i hi => ?_) fun σc' Fs' rb bd sout => ?_
    · show TyOk (kdT _ _ _ i) _ ∧ (_ ∨ 2 ≤ kdT _ _ _ i)
      rw [kdT_in hi]
      refine ⟨tyx, ?_⟩
      match hz : tyI Y.sg Y.ms it kd with
      | 0 =>
        rw [hz] at tyx
        exact .inl tyx
      | 1 => exact absurd hz (by
          cases it <;> simp [tyI] <;> (repeat' split) <;> simp)
      | _ + 2 => exact .inr (by omega)
    · have b2 : ∀ k, k ∉ tgs tg → Fs' k = Fs k := fun k hk => by
        rw [bd.fout k hk]
        unfold fsW
        rw [if_neg hk]
      have b3 : ∀ k : Nat, k ∉ tgs tg → σ'[k]? = s[k]? := fun k hk => by rw [bd.sout k hk, wipeT_get.1 k hk]
      refine ⟨?_, σ', Fs', k, rb, ek, fun H3 sm3 => ?_⟩
      · refine st_ext fun z => ?_
        rw [wipe_get, wipe_get]
        have ll : σc'.length = σ.length := by
          rw [rb.len, bd.len, wipeT_get.2.2, rl.len]
        by_cases m : z ∈ tgs tg
        · rw [if_pos m, if_pos m, ll]
        · rw [if_neg m, if_neg m, sout z m, wipe_get, if_neg m]
      · have smA : Same H' H3 := sm2.trans sm3
        have eD3 : H3 D = some (.lst acc) := smA D _ eD
        cases k with
        | false =>
          cases eo
          cases eR
          refine iteF ⟨by omega, sm.trans smA, acc, accD, Facc, _, eD3, rA.same smA, er', eY, by omega, nD, alA, frA, tyA⟩
        | true =>
          obtain ⟨y, ey, eo⟩ := bind_ok (show (evE Y.Φ Y.M elt σ').bind _ = _ from eo)
          cases eo
          cases eR
          refine iteT ⟨σ', Fs', y, rb.same sm3, ey, fun w H4 F' rs => ?_⟩
          have smB : Same H' H4 := smA.trans rs.same
          have eD4 : H4 D = some (.lst acc) := rs.same D _ eD3
          have smH4 : Same H H4 := smH2.trans (sm3.trans rs.same)
          have hF' : ∀ a ∈ F', H a = none ∨ a ∈ F ∨ InAl s Fs ((alP Y.sg Y.ms elt kd').1.minus (tgs tg)) a := fun a ha => by
            rcases rs.al a ha with z | z
            · exact .inl ((smH2.trans sm3).free z)
            · exact .inr (inAl_bd bd.fin b2 b3 z)
          have nF' : ∀ a ∈ F', a ≠ D := fun a ha => by
            rcases rs.al a ha with z | z
            · intro e
              rw [e, eD3] at z
              cases z
            · rcases inAl_bd bd.fin b2 b3 z with z | z
              · exact trk a (wk.ft a (hF a z))
              · rcases z with ⟨k, _, z⟩ | ⟨k, _, z⟩
                · exact fsD k a z
                · refine fsD k a ?_
                  unfold inn at z
                  split at z
                  · exact innF_sub z
                  · exact z
          have al2 : ∀ a ∈ F', H a = none ∨ InAl s Fs AL a := fun a ha => by
            rcases hF' a ha with z | z | z
            · exact .inl z
            · exact (wk.al a (hF a z)).imp id .right
            · exact .inr (.left z)
          refine ⟨acc, eD4, by rw [rA.length]; exact Nat.lt_of_le_of_lt hl (Nat.lt_of_lt_of_le hj hline), by omega, fun b o e => ?_, acc ++ [w], accD ++ [y], Facc ++ (F' ++ []), rest', upd_same, ?_, er', by rw [eY, List.append_assoc]; rfl, ?_, ?_, ?_, ?_, ?_⟩
          · rw [upd_ne (trk b ⟨o, e⟩)]
            exact smB b o (sm b o e)
          · refine Reps.stay (H := H4) (fun b o e => ?_) (Reps.append (rA.same smB) (.cons rs.rep .nil)) fun a ha => ?_
            · by_cases z : b = D
              · subst z
                rw [eD4] at e
                cases e
                exact ⟨fun z => (nomatch z), _, upd_same⟩
              · rw [upd_ne z]
                exact ⟨fun _ => e, o, e⟩
            · have z : a ≠ D := by
                rcases List.mem_append.mp ha with ha | ha
                · exact fun e => nD (e ▸ ha)
                · rw [List.append_nil] at ha
                  exact nF' a ha
              rw [upd_ne z]
          · rw [List.length_append, List.length_singleton]
            omega
          · intro z
            rcases List.mem_append.mp z with z | z
            · exact nD z
            · rw [List.append_nil] at z
              exact nF' D z rfl
          · intro a ha
            rcases List.mem_append.mp ha with ha | ha
            · exact alA a ha
            · rw [List.append_nil] at ha
              exact al2 a ha
          · intro hf
            obtain ⟨n1, f1⟩ := frA hf
            obtain ⟨n2, f2⟩ := rs.fr.1 hf
            rw [List.append_nil]
            refine ⟨List.nodup_append.mpr ⟨n1, n2, fun a ha b hb z => ?_⟩, fun a ha => ?_⟩
            · subst z
              obtain ⟨o, e⟩ := rA.there a ha
              have e' := f2 a hb
              rw [smA a o e] at e'
              cases e'
            · rcases List.mem_append.mp ha with ha | ha
              · exact f1 a ha
              · exact (smH2.trans sm3).free (f2 a ha)
          · intro ht
            rw [pureAll_append, tyA ht]
            have := rs.ty
            rw [ht] at this
            have this : y.pure = true := this
            simp [pureAll, this]
  · left
    have ej : j = xs.length ∨ xs.length < j := by omega
    have el : xs.drop j = [] := List.drop_eq_nil_of_le (by omega)
    rw [el] at eR
    cases eR
    rw [List.append_nil] at eY
    subst eY
    have jl : j = xs.length := by omega
    subst jl
    refine ⟨wk.walk.stop H' (same_imm sm) prot, q _ H' (D :: Facc) ?_⟩
    have rv : Rep (gc Y X) H' (.ref D) (.lst ys) (D :: Facc) := .lst eD rA
    have ty : TyOk (tyE Y.sg Y.ms (.comp elt tg it ifs) kd) (.lst ys) := by
      show TyOk (if tyE Y.sg Y.ms elt kd' = 0 then 1 else 2) _
      split
      · rename_i z
        exact tyA z
      · trivial
    refine Rs.mk0 (wk.same.trans sm) rv ty ?_ (fun _ a ha => ?_) fun _ a ha => alA a ha
    · show FrOk (if frE Y.sg Y.ms elt kd' ≤ 1 then 1 else 2) _ _ _ _
      refine ⟨fun e => ?_, fun _ _ => ⟨D, Facc, rfl, rfl, hD0, nD⟩⟩
      split at e
      · rename_i z
        obtain ⟨n1, f1⟩ := frA z
        refine ⟨List.nodup_cons.mpr ⟨nD, n1⟩, fun a ha => ?_⟩
        rcases List.mem_cons.mp ha with rfl | ha
        · exact hD0
        · exact f1 a ha
      · omega
    · rcases List.mem_cons.mp ha with rfl | ha
      · exact .inl hD0
      · exact alA a ha
theorem PS.imp {X : Cx} {e : Stmt} {t t' : TS} (h : PS X e t) (w : ∀ D σ H, t' D σ H → t D σ H) : PS X e t' := ⟨fun pins s σ H D I q => h.run pins s σ H D I (w _ _ _ q)⟩
theorem PSs.imp {X : Cx} {e : List Stmt} {t t' : TS} (h : PSs X e t) (w : ∀ D σ H, t' D σ H → t D σ H) : PSs X e t' := ⟨fun pins s σ H D I q => h.run pins s σ H D I (w _ _ _ q)⟩
theorem s_comp (C : Ctx Y N X) {elt : IE} {tg : Tg} {it : II} {ifs : IEo} {sc scope : Scope} {x t i : Expr} {cs : List Expr} {p : Pos} (hsc : X.env.scope = sc) (hp : plainE i = true) (hT : mT N scope tg t = true) (hB : blkC N sc scope (ownT tg t) = true)
    (hi : PI X t i (tIt Y (gc Y X) kd it))
    (hC : ∀ X' : Cx, Ctx Y N X' → X'.env.scope = relS scope sc → gc Y X' = gc Y X → PTs X' cs (tIf Y (gc Y X) (kdT kd tg (tyI Y.sg Y.ms it kd)) ifs))
    (he : ∀ X' : Cx, Ctx Y N X' → X'.env.scope = relS scope sc → gc Y X' = gc Y X → PE X' x (tE Y (gc Y X) (kdT kd tg (tyI Y.sg Y.ms it kd)) elt)) :
    PE X (.ListComp x [⟨t, i, cs, 0⟩] scope p) (tE Y (gc Y X) kd (.comp elt tg it ifs)) := by
  subst hsc
  have lk := fun (z : Str) (hz : locB scope z = true) => (show Loc (relS scope X.env.scope) z ∧ ((scope.names.lookup z == some .cell) = true ∨ (relS scope X.env.scope).names.lookup z = some .local) by
    rcases locB_ok hz with e | e
    · have e' := lookup_relS_keep (sc := X.env.scope) (by decide) e
      exact ⟨.inl e', .inr e'⟩
    · have e' := lookup_relS_keep (sc := X.env.scope) (by decide) e
      exact ⟨.inr e', .inl (by rw [e]; rfl)⟩)
  have base := pe_lc (own := ownT tg t) (g := gT X.K tg) (pos := p) C.calm C.nd hi (by rw [C.N]; exact blkOk_by hB)
    (fun s H A cl fp => pg_ok (X := X.blk s H scope (compEnvC scope cl A X.env) fp) C.calm C.N C.nd lk hT)
    (fun s H A cl fp => hC (X.blk s H scope (compEnvC scope cl A X.env) fp) (C.blk ..) rfl rfl)
    (fun s H A cl fp => he (X.blk s H scope (compEnvC scope cl A X.env) fp) (C.blk ..) rfl rfl) (folded_pure hp X.env)
  rw [ownT_tgs hT] at base
  exact PE.imp base comp_read
theorem s_compS (C : Ctx Y N X) {elt : IE} {tg : Tg} {it : II} {ifs : IEo} {sc scope : Scope} {x t i : Expr} {cs : List Expr} {p : Pos} {y : Str} {py spos : Pos} {j : Nat} (hy : X.N[j]? = some y) (hyl : X.env.scope.names.lookup y = some .local) (hsw : swapsWith (.ListComp x [⟨t, i, cs, 0⟩] scope p) (some (.Name y py)) spos.line X.env = pure true) (hsc : X.env.scope = sc) (hp : plainE i = true) (hT : mT N scope tg t = true) (hB : blkC N sc scope (ownT tg t) = true)
    (hi : PI X t i (tIt Y (gc Y X) kd it))
    (hC : ∀ X' : Cx, Ctx Y N X' → X'.env.scope = relS scope sc → gc Y X' = gc Y X → PTs X' cs (tIf Y (gc Y X) (kdT kd tg (tyI Y.sg Y.ms it kd)) ifs))
    (he : ∀ X' : Cx, Ctx Y N X' → X'.env.scope = relS scope sc → gc Y X' = gc Y X → PE X' x (tE Y (gc Y X) (kdT kd tg (tyI Y.sg Y.ms it kd)) elt))  :
    PS X (.Assign [.Name y py] (.ListComp x [⟨t, i, cs, 0⟩] scope p) spos) (tAsg (tE Y (gc Y X) kd (.comp elt tg it ifs)) (gName j)) := by
  subst hsc
  have lk := fun (z : Str) (hz : locB scope z = true) => (show Loc (relS scope X.env.scope) z ∧ ((scope.names.lookup z == some .cell) = true ∨ (relS scope X.env.scope).names.lookup z = some .local) by
    rcases locB_ok hz with e | e
    · have e' := lookup_relS_keep (sc := X.env.scope) (by decide) e
      exact ⟨.inl e', .inr e'⟩
    · have e' := lookup_relS_keep (sc := X.env.scope) (by decide) e
      exact ⟨.inr e', .inl (by rw [e]; rfl)⟩)
  have base := ps_setLc (own := ownT tg t) (g := gT X.K tg) (pos := p) C.calm C.nd hy hyl hsw hi (by rw [C.N]; exact blkOk_by hB)
    (fun s H A cl fp => pg_ok (X := X.blk s H scope (compEnvC scope cl A X.env) fp) C.calm C.N C.nd lk hT)
    (fun s H A cl fp => hC (X.blk s H scope (compEnvC scope cl A X.env) fp) (C.blk ..) rfl rfl)
    (fun s H A cl fp => he (X.blk s H scope (compEnvC scope cl A X.env) fp) (C.blk ..) rfl rfl) (folded_pure hp X.env)
  rw [ownT_tgs hT] at base
  exact PS.imp base fun D σ H h => comp_read σ H _ h
end
end Ev

/-! Part BA: own classes without fields, their methods; displayed dicts, get, index. -/
namespace Ev
open PySem PySem.Spec PyProof.Rows L2
theorem and2 {a b : Bool} (h : (a && b) = true) : a = true ∧ b = true := by
  rw [Bool.and_eq_true] at h
  exact h
theorem PE.no {X : Cx} {e : Expr} {t : TE} (h : ∀ σ H Q, ¬ t σ H Q) : PE X e t := ⟨fun pins s σ H Q I q => absurd q (h σ H Q)⟩
theorem PT.no {X : Cx} {e : Expr} {t : TT} (h : ∀ σ H Q, ¬ t σ H Q) : PT X e t := ⟨fun pins s σ H Q I q => absurd q (h σ H Q)⟩
theorem PE.ex {X : Cx} {e : Expr} {ι : Sort _} {t : ι → TE} (h : ∀ i, PE X e (t i)) : PE X e (fun σ H Q => ∃ i, t i σ H Q) :=
  ⟨fun pins s σ H Q I q => by
    obtain ⟨i, q⟩ := q
    exact (h i).run pins s σ H Q I q⟩
/-- C() where there is no __init__ but object's -/
def tMk0 (C : Addr) : TE := fun _ H Q => ∀ x dx, H x = none → H dx = none → dx ≠ x → Q (.ref x) (upd (upd H dx (.own x)) x (.ins C dx []))
theorem pe_mk0 {X : Cx} {C : Addr} {x : Str} {p pos : Pos} (M : MkC X.K C) (hg : Gl X x) (hm : X.mg x = some (.ref C)) (hdb : (x == ("__debug__" : Str)) = false) : PE X (.Call (.Name x p) [] [] pos) (tMk0 C) := by
  refine ⟨fun pins s σ H Q I h => ?_⟩
  refine wpAny_Call_Name_kw (ld_glob I hg hm ?_ hdb)
  refine PySem.W.callWith_K0 I.kIn M.kp ?_
  have hq := h (s.heap.objs.size + 1) s.heap.objs.size (I.hok.fresh (Nat.le_succ _)) (I.hok.fresh (Nat.le_refl _)) (Nat.ne_of_lt (Nat.lt_succ_self _))
  have I2 := Inv.made (C := C) I
  refine wpAny_call (make_map0 I.kIn M.makes M.init (fun self => PySem.W.Looks.of_pure (PySem.W.oi_bind self)) ?_)
  have Y := PySem.W.makes_of (M := model X.prog X.w) I.kIn M.makes
  have e2 : ((s.heap.push PySem.W.emptyDict).push (PySem.W.instObj C s.heap.objs.size)).get? (s.heap.objs.size + 1) = some (PySem.W.instObj C s.heap.objs.size) := by
    have := Heap.get?_push_size (s.heap.push PySem.W.emptyDict) (o := PySem.W.instObj C s.heap.objs.size) rfl
    rwa [Heap.size_push] at this
  have t1 : PySem.W.Looks (model X.prog X.w) ((s.heap.push PySem.W.emptyDict).push (PySem.W.instObj C s.heap.objs.size)) (typeOf (.ref (s.heap.objs.size + 1))) (.ref C) := (PySem.W.Looks.ld e2).andThen .now
  have t2 : PySem.W.Looks (model X.prog X.w) ((s.heap.push PySem.W.emptyDict).push (PySem.W.instObj C s.heap.objs.size)) (isInstance (.ref (s.heap.objs.size + 1)) (.type "object")) true :=
    t1.andThen (Y.top.keeps fun b o e => Heap.get?_push_of_some _ (Heap.get?_push_of_some _ e))
  refine codeAny_call_builtin PySem.W.oi_plain PySem.W.entry_oi (@PySem.W.check_slot (model X.prog X.w) _ _ _ "object.__init__" "object" "__init__" (.ref (s.heap.objs.size + 1)) [] [] _ PySem.W.oi_kind PySem.W.oi_split t2 (PySem.W.oi_args (.ref (s.heap.objs.size + 1))) ?_)
  rw [PySem.W.oi_run]
  exact wpAny_pure (And.intro rfl ⟨V.ref (s.heap.objs.size + 1), _, I2, rfl, hq⟩)
theorem ra_of {es : List Expr} (h : es.all plainE = true) (cpos : Pos) (env : Env) (hl : es.length < 20) : ((backTo cpos (starEach es env)).all (fun x => !x.1) && (backToKw cpos (keywordEach [] env)).all (fun x => x.1.isSome)
      && decide (es.length + ([] : List Keyword).length + (if ([] : List Keyword).isEmpty then 0 else 1) < 30)) = true := by
  have h1 : ∀ {es : List Expr}, es.all plainE = true → (backTo cpos (starEach es env)).all (fun x => !x.1) = true := by
    intro es
    induction es with
    | nil => exact fun _ => rfl
    | cons e es ih =>
      intro h
      rw [List.all_cons, Bool.and_eq_true] at h
      rw [star_cons h.1]
      show (!false && (backTo cpos (starEach es env)).all (fun x => !x.1)) = true
      rw [ih h.2]
      rfl
  rw [h1 h, Bool.true_and, Bool.and_eq_true]
  refine ⟨rfl, decide_eq_true ?_⟩
  show es.length + 0 + (if true = true then 0 else 1) < 30
  simp
  omega
theorem base_of {o : Expr} (h : baseB o = true) (m : Str) (env : Env) (whole : Sem Value) : attributeBase o m env whole = whole := by
  unfold attributeBase
  split
  · cases h
  · rfl
section
variable {Y : SX} {N : List Str} {X : Cx} {kd : Nat → Nat}
theorem s_mk (C : Ctx Y N X) {c : Nat} {n : Str} {p p2 : Pos} (hn : Y.cls[c]? = some n) (hg : glb X.env.scope n = true) (hp : plainN n = true) : PE X (.Call (.Name n p2) [] [] p) (tE Y (gc Y X) kd (.mk c)) := by
  obtain ⟨A, hm, M⟩ := C.cl c n hn
  refine PE.imp (pe_mk0 M (glb_ok hg) hm (plainN_ok hp).1) fun σ H Q h => ?_
  obtain ⟨s, Fs, d, rl, h1, q⟩ := h
  cases h1
  intro x dx hx hd ne
  have hx2 : upd H dx (.own x) x = none := by rw [upd_ne ne.symm]; exact hx
  have e : (gc Y X).cls c = A := clsOf_of hn hm
  refine q _ _ [] (Rs.pure ((same_laid hd).trans (same_laid hx2)) (.ins (dx := dx) ?_) rfl)
  rw [e]
  exact upd_same
theorem s_omt (C : Ctx Y N X) {m : Nat} {o : IE} {es : IEs} {n : Str} {x e : Expr} {xs : List Expr} {ap p : Pos} (hn : Y.mths[m]? = some n) (hb : baseB x = true) (hline : (ap.endLine == p.line) = true) (hlen : xs.length < 10) (hx : (e :: xs).all plainE = true) (hbb : argB Y.sg Y.ms kd (Y.ms m).ps es = true)
    (ho : PE X x (tE Y (gc Y X) kd o)) (ha : PA X (e :: xs) (tEs Y (gc Y X) kd es)) : PE X (.Call (.Attribute x n ap) (e :: xs) [] p) (tE Y (gc Y X) kd (.omt m o es)) := by
  have hx0 := hx
  rw [List.all_cons, Bool.and_eq_true] at hx
  have all : ∀ i : { i : Nat × Nat // Y.M i.1 m = some i.2 ∧ ∃ ds d, Y.Φ i.2 ds = .ok d }, PE X (.Call (.Attribute x n ap) (e :: xs) [] p) (tMeth (clsOf Y.cls X.mg i.1.1) n (spE Y (gc Y X) i.1.2 (Y.sg i.1.2).ps.length) [] E0 (tE Y (gc Y X) kd o) (tEs Y (gc Y X) kd es)) := fun i => by
    obtain ⟨⟨c, j⟩, hM, ds, d, hΦ⟩ := i
    obtain ⟨f, fd, ps, lv, mn, e1, F, hr, bd, pl, cl, mt, _⟩ := C.mt c m j ds d hM hΦ
    rw [hn] at e1
    cases e1
    show PE X _ (tMeth _ n (spE Y (gc Y X) j (Y.sg j).ps.length) [] E0 _ _)
    rw [pl]
    exact pe_meth (pl := do return (← importBound x X.env).getD true) ho cl mt F hr bd .nil pass0 ha (star_cons hx.1 xs X.env) (star_none hx.2 p X.env) (by
      show (do
        let ov ← attributeBase x n X.env (eval x X.env)
        _) = _
      rw [base_of hb]
      have hform : methodCallForm ((e :: xs).length + ([] : List Keyword).length) (backTo p (starEach (e :: xs) X.env)) (backToKw p (keywordEach [] X.env)) = true := ra_of hx0 p X.env (by rw [List.length_cons]; omega)
      have hpos : methodCallPos true x X.env ap p = pure p := by unfold methodCallPos; simp [hline]
      show (do
        let ov ← eval x X.env
        standAt ap.atName
        methodCall x n ap p X.env ov ((e :: xs).length + ([] : List Keyword).length) (backTo p (starEach (e :: xs) X.env)) (backToKw p (keywordEach [] X.env))) = _
      unfold methodCall
      rw [hform, hpos]
      rfl)
  refine PE.imp (PE.ex all) fun σ H Q h => ?_
  obtain ⟨s, Fs, d, rl, h1, q⟩ := h
  obtain ⟨x', eo, h2⟩ := bind_ok (show (evE Y.Φ Y.M o s).bind _ = _ from h1)
  obtain ⟨ds, eds, h3⟩ := bind_ok h2
  cases x' with
  | ins c =>
    have h3 : (match Y.M c m with
      | some f => Y.Φ f (.ins c :: ds)
      | none => .bad) = R.ok d := h3
    cases hM : Y.M c m with
    | none => rw [hM] at h3; cases h3
    | some j =>
    rw [hM] at h3
    obtain ⟨f, fd, ps, lv, mn, e1, F, hr, bd, pl, cl, mt, g1, g2, g3⟩ := C.mt c m j _ _ hM h3
    refine ⟨⟨(c, j), hM, _, _, h3⟩, s, Fs, .ins c, rl, eo, fun v H1 F1 r => ?_⟩
    obtain ⟨sm, rp, _, _, _, _⟩ := r
    cases rp with
    | ins ei =>
    refine ⟨_, _, [], rfl, ei, rfl, s, Fs, ds, rl.same sm, eds, fun vs H2 F2 r2 => ?_⟩
    have ei2 := r2.same _ _ ei
    have ao : argsOk (Y.sg j).ps (.ins c :: ds) := by
      rw [g1]
      exact ⟨rfl, args_ok eds hbb r2.ty⟩
    refine ⟨.ins c :: ds, [] ++ F2, d, ?_, ?_, ao, h3, fun v H' F' sm3 rv ty fr al => q v H' F' ?_⟩
    · rw [List.append_nil, List.length_cons, r2.rep.length, ← List.length_cons (a := D.ins c), argsOk_len ao]
    · rw [List.append_nil]
      exact .cons (.ins ei2) r2.rep
    · have al' : ∀ c ∈ F', H c = none ∨ InAl s Fs (als Y.sg Y.ms es kd).1 c := fun c hc => by
        rcases al c hc with z | z
        · exact .inl ((sm.trans r2.same).free z)
        · rw [List.nil_append] at z
          exact (r2.al c z).imp (sm.free) id
      rw [g2, g3] at fr
      rw [g2] at ty
      exact Rs.mk0 ((sm.trans r2.same).trans sm3) rv ty (FrOk.back (sm.trans r2.same) fr) (fun _ => al') fun _ c hc => al' c (innF_sub hc)
  | _ => cases h3
theorem get_dct {G : GC} {H : Hp} {x y : V} {Fa Fb : List Addr} {kds : List (Key × D)} {db d : D} (h : mthD .get (.dct kds) [db] = .ok d) (ra : Rep G H x (.dct kds) Fa) (rb : Rep G H y db Fb) {Q : V → Hp → Prop}
    (q : ∀ v F, Rep G H v d F → (∀ a ∈ F, a ∈ innF (.dct kds) Fa) → Q v H) : ∃ a, x = .ref a ∧ IsD H a ∧ ∃ o, DGet H a y o ∧ Q (o.getD .non) H := by
  have h : (match keyOf db with
    | some q => R.ok ((valD q kds).getD .non)
    | none => .bad) = .ok d := h
  split at h
  · rename_i k hk
    cases h
    cases ra with
    | dct e m r =>
    obtain ⟨e1, _⟩ := key_rep rb hk
    subst e1
    refine ⟨_, rfl, .inl ⟨_, .inl e⟩, _, DGet.k e, ?_⟩
    cases hv : valD k kds with
    | some v' =>
      obtain ⟨v, F', g1, g2, g3⟩ := val_rep m r hv
      rw [g1]
      rw [hv] at q
      exact q v F' g2 g3
    | none =>
      have := val_none (q := k) m
      rw [hv] at this
      have hn := Option.not_isSome_iff_eq_none.mp (show ¬ Option.isSome (valV _ k) = true by rw [this]; simp)
      rw [hn]
      rw [hv] at q
      exact q .non [] .non fun a ha => nomatch ha
  · cases h
theorem get_ty {t : Nat} {da db d : D} (h : mthD .get da [db] = .ok d) (ta : TyOk t da) : TyOk (if t ≤ 1 then 0 else 2) d := by
  split
  · rename_i ht
    have ta := TyOk.mono ht ta
    cases da with
    | dct kds =>
      have h : (match keyOf db with
        | some q => R.ok ((valD q kds).getD .non)
        | none => .bad) = .ok d := h
      split at h
      · cases h
        cases hv : valD _ kds with
        | none => rfl
        | some v => exact mem_pureAll (by rw [← pureV_eq]; simpa [TyOk, D.ep] using ta) (valD_mem hv)
      · cases h
    | _ => cases h
  · trivial
theorem s_get (C : Ctx Y N X) {a b : IE} {x e : Expr} {ap p : Pos} (hb : baseB x = true) (hl : (ap.endLine == p.line) = true) (he : plainE e = true) (ha : PE X x (tE Y (gc Y X) kd a)) (hc : PE X e (tE Y (gc Y X) kd b)) :
    PE X (.Call (.Attribute x (Str.ofString "get") ap) [e] [] p) (tE Y (gc Y X) kd (.mth .get a (.cons b .nil))) := by
  refine PE.imp (pe_dget1 (by have := C.hu; omega) ha hc ⟨base_of hb _ _ _, ra_of (es := [e]) (by simp [he]) p X.env (by simp), hl, by rw [star_cons he]; rfl⟩) fun σ H Q h => ?_
  obtain ⟨s, Fs, d, rl, h1, q⟩ := h
  obtain ⟨da, ea, h2⟩ := bind_ok (show (evE Y.Φ Y.M a s).bind _ = _ from h1)
  obtain ⟨ds, eb0, h3⟩ := bind_ok h2
  obtain ⟨db, eb, h4⟩ := bind_ok (show (evE Y.Φ Y.M b s).bind _ = _ from eb0)
  obtain ⟨_, e0, h5⟩ := bind_ok h4
  cases e0
  cases h5
  refine ⟨s, Fs, _, rl, ea, fun v H1 F1 r1 => ?_⟩
  obtain ⟨kds, rfl⟩ : ∃ kds, da = .dct kds := by
    cases da with
    | dct kds => exact ⟨kds, rfl⟩
    | _ => cases h3
  have rp := r1.rep
  have gl : ∃ a, v = .ref a ∧ IsD H1 a := by
    cases rp with
    | dct e m r => exact ⟨_, rfl, .inl ⟨_, .inl e⟩⟩
  obtain ⟨aa, rfl, isd⟩ := gl
  refine ⟨aa, rfl, isd, s, Fs, db, rl.same r1.same, eb, fun y H2 F2 r2 => ?_⟩
  have fin : ∀ v F, Rep (gc Y X) H2 v d F → (∀ c ∈ F, c ∈ innF (.dct kds) F1) → Q v H2 := fun v F rv al => q v H2 F (by
    have s2 := r1.same.trans r2.same
    have ty : TyOk (tyE Y.sg Y.ms (.mth .get a (.cons b .nil)) kd) d := get_ty h3 r1.ty
    have al' : ∀ c ∈ F, H c = none ∨ InAl s Fs ((alP Y.sg Y.ms a kd).2.un (als Y.sg Y.ms (.cons b .nil) kd).1) c := fun c hc => (r1.an c (al c hc)).imp id .left
    exact Rs.mk0 s2 rv ty (FrOk.of0 rv ty (FrOk.three (Nat.le_refl 3))) (fun _ => al') fun _ c hc => al' c (innF_sub hc))
  obtain ⟨a', e1, _, o, g1, g2⟩ := get_dct (G := gc Y X) h3 (r1.rep.same r2.same) r2.rep fin
  cases e1
  exact ⟨o, g1, g2⟩
theorem getd_rep {G : GC} {P : Program} {w : World} {K : PySem.W.Frag} (hP : G.P = P) (hw : G.w = w) (hK : G.K = K) {H : Hp} {x y z : V} {Fa Fb Fc : List Addr} {da db dc d : D} (h : mthD .getd da [db, dc] = .ok d) (ra : Rep G H x da Fa) (rb : Rep G H y db Fb) (rc : Rep G H z dc Fc) {Q : V → Hp → Prop}
    (q : ∀ v F, Rep G H v d F → (∀ a ∈ F, a ∈ innF da Fa ∨ a ∈ Fc) → Q v H) : ∃ a, x = .ref a ∧ (IsD H a ∨ ∃ xs, NDict P w K H a xs) ∧ ∃ o, (DGet H a y o ∨ NGet P w K H a y o) ∧ Q (o.getD z) H := by
  subst hP
  subst hw
  subst hK
  cases da with
  | dct kds =>
    have h : (match keyOf db with
      | some q => R.ok ((valD q kds).getD dc)
      | none => (chk (kds.isEmpty && (nkT db).isSome)).bind fun _ => R.ok dc) = .ok d := h
    split at h
    · rename_i k hk
      cases h
      cases ra with
      | dct e m r =>
      obtain ⟨e1, _⟩ := key_rep rb hk
      subst e1
      refine ⟨_, rfl, .inl (.inl ⟨_, .inl e⟩), _, .inl (DGet.k e), ?_⟩
      cases hv : valD k kds with
      | some v' =>
        obtain ⟨v, F', g1, g2, g3⟩ := val_rep m r hv
        rw [g1]
        rw [hv] at q
        exact q v F' g2 fun a ha => .inl (g3 a ha)
      | none =>
        have := val_none (q := k) m
        rw [hv] at this
        have hn := Option.not_isSome_iff_eq_none.mp (show ¬ Option.isSome (valV _ k) = true by rw [this]; simp)
        rw [hn]
        rw [hv] at q
        exact q z Fc rc fun a ha => .inr ha
    · obtain ⟨_, hc, h⟩ := bind_ok h
      have hz := chk_ok hc
      rw [Bool.and_eq_true] at hz
      cases h
      obtain ⟨k, hq⟩ := Option.isSome_iff_exists.mp hz.2
      obtain ⟨b, e1, hk, _⟩ := nk_rep rb hq
      subst e1
      have e0 := List.isEmpty_iff.mp hz.1
      subst e0
      have hp : ∃ a, x = .ref a := by
        cases ra with
        | dct e m rr => exact ⟨_, rfl⟩
      obtain ⟨a, rfl⟩ := hp
      obtain ⟨_, e, nd⟩ := dct_nd ra
      exact ⟨a, rfl, .inr ⟨_, nd⟩, none, .inr ⟨_, _, _, nd, rfl, hk, rfl⟩, q z Fc rc fun a ha => .inr ha⟩
  | dcn kds =>
    have h : (match nkT db with
      | some q => R.ok ((valN q kds).getD dc)
      | none => .bad) = .ok d := h
    split at h
    · rename_i k hk
      cases h
      have hp : ∃ a, x = .ref a := by
        cases ra with
        | dcn e m ks rr => exact ⟨_, rfl⟩
      obtain ⟨a, rfl⟩ := hp
      obtain ⟨xs, F', eF, nd, m2, _, r⟩ := dcn_nd ra
      subst eF
      obtain ⟨b, e1, hb, _⟩ := nk_rep rb hk
      subst e1
      refine ⟨a, rfl, .inr ⟨_, nd⟩, _, .inr ⟨xs, k, b, nd, rfl, hb, rfl⟩, ?_⟩
      cases hv : valN k kds with
      | some v' =>
        obtain ⟨v, F2, g1, g2, g3⟩ := valN_rep m2 r hv
        rw [g1]
        rw [hv] at q
        exact q v F2 g2 fun a ha => .inl (g3 a ha)
      | none =>
        have := valN_none (q := k) m2
        rw [hv] at this
        have hn := Option.not_isSome_iff_eq_none.mp (show ¬ Option.isSome (valX k xs) = true by rw [this]; simp)
        rw [hn]
        rw [hv] at q
        exact q z Fc rc fun a ha => .inr ha
    · cases h
  | _ => cases h
theorem getd_ty {t : Nat} {c : Bool} {da db dc d : D} (h : mthD .getd da [db, dc] = .ok d) (ta : TyOk t da) (tc : c = true → dc.pure = true) : TyOk (if t ≤ 1 then (if c then 0 else 2) else 2) d := by
  split
  · rename_i ht
    split
    · rename_i hc
      have ta := TyOk.mono ht ta
      have pc := tc hc
      cases da with
      | dct kds =>
        have h : (match keyOf db with
          | some q => R.ok ((valD q kds).getD dc)
          | none => (chk (kds.isEmpty && (nkT db).isSome)).bind fun _ => R.ok dc) = .ok d := h
        split at h
        · cases h
          cases hv : valD _ kds with
          | none => exact pc
          | some v => exact mem_pureAll (by rw [← pureV_eq]; simpa [TyOk, D.ep] using ta) (valD_mem hv)
        · obtain ⟨_, _, h⟩ := bind_ok h
          cases h
          exact pc
      | dcn kds =>
        have h : (match nkT db with
          | some q => R.ok ((valN q kds).getD dc)
          | none => .bad) = .ok d := h
        split at h
        · cases h
          cases hv : valN _ kds with
          | none => exact pc
          | some v => exact mem_pureAll (by rw [← pureN_eq]; simpa [TyOk, D.ep] using ta) (valN_mem hv)
        · cases h
      | _ => cases h
    · trivial
  · trivial
theorem s_getd (C : Ctx Y N X) {a b c : IE} {x e f : Expr} {ap p : Pos} (hb : baseB x = true) (hl : (ap.endLine == p.line) = true) (he : plainE e = true) (hf : plainE f = true) (ha : PE X x (tE Y (gc Y X) kd a)) (hc : PE X e (tE Y (gc Y X) kd b)) (hd : PE X f (tE Y (gc Y X) kd c)) :
    PE X (.Call (.Attribute x (Str.ofString "get") ap) [e, f] [] p) (tE Y (gc Y X) kd (.mth .getd a (.cons b (.cons c .nil)))) := by
  refine PE.imp (pe_nget2 (by have := C.hu; omega) ha hc hd ⟨base_of hb _ _ _, ra_of (es := [e, f]) (by simp [he, hf]) p X.env (by simp), hl, by rw [star_cons he, star_cons hf]; rfl⟩) fun σ H Q h => ?_
  obtain ⟨s, Fs, d, rl, h1, q⟩ := h
  obtain ⟨da, ea, h2⟩ := bind_ok (show (evE Y.Φ Y.M a s).bind _ = _ from h1)
  obtain ⟨ds, eds, h3⟩ := bind_ok h2
  obtain ⟨db, eb, h4⟩ := bind_ok (show (evE Y.Φ Y.M b s).bind _ = _ from eds)
  obtain ⟨dr, edr, h5⟩ := bind_ok h4
  cases h5
  obtain ⟨dc, ec, h6⟩ := bind_ok (show (evE Y.Φ Y.M c s).bind _ = _ from edr)
  obtain ⟨dn, edn, h7⟩ := bind_ok h6
  cases edn
  cases h7
  refine ⟨s, Fs, da, rl, ea, fun v H1 F1 r1 => ?_⟩
  have isd : ∃ aa, v = .ref aa ∧ IsDN X H1 aa := by
    have r0 := r1.rep
    cases da with
    | dct kds =>
      cases r0 with
      | dct e m r => exact ⟨_, rfl, .inl (.inl ⟨_, .inl e⟩)⟩
    | dcn kds =>
      have hp : ∃ a, v = .ref a := by
        cases r0 with
        | dcn e m ks rr => exact ⟨_, rfl⟩
      obtain ⟨aa, rfl⟩ := hp
      obtain ⟨xs, F', _, nd, _⟩ := dcn_nd r0
      exact ⟨aa, rfl, .inr ⟨xs, nd⟩⟩
    | _ => cases h3
  obtain ⟨aa, rfl, isd⟩ := isd
  refine ⟨aa, rfl, isd, s, Fs, db, rl.same r1.same, eb, fun y H2 F2 r2 => ⟨s, Fs, dc, rl.same (r1.same.trans r2.same), ec, fun z H3 F3 r3 => ?_⟩⟩
  have s3 := (r1.same.trans r2.same).trans r3.same
  have tc : all0 Y.sg Y.ms (.cons b (.cons c .nil)) kd = true → dc.pure = true := fun hz => by
    have : tyE Y.sg Y.ms c kd = 0 := by
      have z := (and2 (show (decide (tyE Y.sg Y.ms b kd = 0) && (decide (tyE Y.sg Y.ms c kd = 0) && true)) = true from hz)).2
      exact of_decide_eq_true (and2 z).1
    have t := r3.ty
    rw [this] at t
    exact t
  obtain ⟨a', e1, _, o, g1, g2⟩ := getd_rep (G := gc Y X) (P := X.prog) (w := X.w) (K := X.K) rfl rfl rfl (Q := Q) h3 (r1.rep.same (r2.same.trans r3.same)) (r2.rep.same r3.same) r3.rep fun v F rv al => q v H3 F (by
    have ty : TyOk (tyE Y.sg Y.ms (.mth .getd a (.cons b (.cons c .nil))) kd) d := getd_ty h3 r1.ty tc
    have al' : ∀ k ∈ F, H k = none ∨ InAl s Fs ((alP Y.sg Y.ms a kd).2.un (als Y.sg Y.ms (.cons b (.cons c .nil)) kd).1) k := fun k hk => by
      rcases al k hk with z | z
      · exact (r1.an k z).imp id .left
      · rcases r3.al k z with y | y
        · exact .inl ((r1.same.trans r2.same).free y)
        · exact .inr (.right (.right (.left y)))
    exact Rs.mk0 s3 rv ty (FrOk.of0 rv ty (FrOk.three (Nat.le_refl 3))) (fun _ => al') fun _ c hc => al' c (innF_sub hc))
  cases e1
  exact ⟨o, g1, g2⟩
/-! ### d.items() -/
theorem walk_items {G : GC} {H0 : Hp} {a : Addr} {ob : Obj} {xs : List (NestedKey × Addr × V)} {kds : List (D × D)} {F : List Addr} (e0 : H0 a = some (.ext (DnOk G.P G.w a ob xs))) (m : kds.map (fun p => nkT p.1) = xs.map (fun x => some x.1))
    (k1 : Reps G H0 (xs.map fun x => V.ref x.2.1) (kds.map Prod.fst) []) (r : Reps G H0 (xs.map fun x => x.2.2) (kds.map Prod.snd) F) : WalkOk G (ItN G.P G.w a ob xs) H0 (kds.map fun kv => .tup [kv.1, kv.2]) (fun c => c ∈ F) (fun c => c ∈ a :: F) where
  go := fun H hi hp i d e => by
    have l : kds.length = xs.length := by simpa using congrArg List.length m
    rw [List.getElem?_map] at e
    cases q : kds[i]? with
    | none => rw [q] at e; cases e
    | some kv =>
      rw [q] at e
      cases e
      have li : i < xs.length := by
        have := (List.getElem?_eq_some_iff.mp q).1
        omega
      refine ⟨⟨(hp a (List.mem_cons_self ..)).trans e0, li⟩, ?_⟩
      rintro _ _ ⟨T, k, b, v, hx, rfl, hT, rfl⟩
      obtain ⟨v1, F1, g1, g2, g3⟩ := (k1.stay hi fun c hc => nomatch hc).get (i := i) (d := kv.1) (by rw [List.getElem?_map, q]; rfl)
      obtain ⟨v2, F2, f1, f2, f3⟩ := (r.stay hi fun c hc => hp c (List.mem_cons_of_mem _ hc)).get (i := i) (d := kv.2) (by rw [List.getElem?_map, q]; rfl)
      rw [List.getElem?_map, hx] at g1 f1
      cases g1
      cases f1
      refine ⟨same_laid hT, F1 ++ (F2 ++ []), .tup (SqT.of upd_same) (.cons (g2.laid hT) (.cons (f2.laid hT) .nil)), fun c hc => ?_⟩
      rcases List.mem_append.mp hc with z | z
      · exact nomatch g3 c z
      · exact f3 c (by simpa using z)
  stop := fun H hi hp => by
    have l : kds.length = xs.length := by simpa using congrArg List.length m
    exact ⟨(hp a (List.mem_cons_self ..)).trans e0, by rw [List.length_map]; omega⟩
theorem items_ty {n : Nat} {kds : List (D × D)} (h : TyOk n (.dcn kds)) (hk : ∀ p ∈ kds, p.1.pure = true) : ∀ d ∈ kds.map (fun kv => D.tup [kv.1, kv.2]), TyOk (if n ≤ 1 then 0 else 2) d := by
  intro d hd
  obtain ⟨p, hp, rfl⟩ := List.mem_map.mp hd
  split
  · rename_i hn
    have t := TyOk.mono hn h
    have : p.2.pure = true := mem_pureAll (by rw [← pureN_eq]; exact t) (List.mem_map_of_mem hp)
    show pureAll [p.1, p.2] = true
    rw [pureAll, pureAll, hk p hp, this]
    rfl
  · trivial
theorem i_itms {a : IE} {x : Expr} {elts : List Expr} {kk : Nat} {tpos ap p : Pos} (hb : baseB x = true) (hl : (ap.endLine == p.line) = true) (ha : PE X x (tE Y (gc Y X) kd a)) :
    PI X (.Tuple elts kk tpos) (.Call (.Attribute x (Str.ofString "items") ap) [] [] p) (tIt Y (gc Y X) kd (.itms a)) := by
  refine PI.imp (pi_itemsN ha (base_of hb _ _ _) hl) fun σ H R h => ?_
  obtain ⟨s, Fs, ds, rl, h1, q⟩ := h
  obtain ⟨d, ed, h2⟩ := bind_ok (show (evE Y.Φ Y.M a s).bind _ = _ from h1)
  refine ⟨s, Fs, d, rl, ed, fun v H1 F r => ?_⟩
  obtain ⟨sm, rp, ty, fr, al, an⟩ := r
  cases d with
  | dcn kds =>
    cases h2
    have rp0 := rp
    cases rp with
    | dcn e m k1 r1 =>
    rename_i aa ob xs F'
    have kp : ∀ p ∈ kds, p.1.pure = true := fun p hp => by
      have : nkT p.1 ∈ xs.map fun x => some x.1 := by
        rw [← m]
        exact List.mem_map_of_mem (f := fun p => nkT p.1) hp
      obtain ⟨y, _, e⟩ := List.mem_map.mp this
      exact nkT_pure e.symm
    exact ⟨aa, ob, xs, rfl, e, q _ H1 F' (fun c => c ∈ aa :: F') ⟨sm, walk_items (G := gc Y X) e m k1 r1, fun c hc => rp0.there c hc, fun c hc => r1.there c hc, fun c hc => an c hc, fun c hc => al c hc, items_ty ty kp⟩⟩
  | _ => cases h2
theorem findE_at {x : D} : ∀ {ys : List D} {n j : Nat}, findE x ys n = some j → ∃ i y, j = n + i ∧ ys[i]? = some y ∧ y.eqv x = true ∧ ∀ m, m < i → ∀ z, ys[m]? = some z → z.eqv x = false
  | [], n, j, h => by cases h
  | y :: r, n, j, h => by
    unfold findE at h
    split at h
    · rename_i e
      cases h
      exact ⟨0, y, rfl, rfl, e, fun m hm => absurd hm (Nat.not_lt_zero _)⟩
    · rename_i e
      obtain ⟨i, z, e1, e2, e3, e4⟩ := findE_at h
      refine ⟨i + 1, z, by omega, by simpa using e2, e3, fun m hm w hw => ?_⟩
      cases m with
      | zero =>
        cases hw
        simpa using e
      | succ m => exact e4 m (by omega) w (by simpa using hw)
theorem toPs_get : ∀ {ys : List D} {i : Nat}, (toPs ys)[i]? = ys[i]?.map D.toP
  | [], i => by simp [toPs]
  | y :: r, 0 => rfl
  | y :: r, i + 1 => by
    rw [toPs, List.getElem?_cons_succ, List.getElem?_cons_succ]
    exact toPs_get
theorem s_index (C : Ctx Y N X) {a b : IE} {x e : Expr} {ap p : Pos} (hb : baseB x = true) (hl : (ap.endLine == p.line) = true) (he : plainE e = true) (ha : PE X x (tE Y (gc Y X) kd a)) (hc : PE X e (tE Y (gc Y X) kd b)) :
    PE X (.Call (.Attribute x (Str.ofString "index") ap) [e] [] p) (tE Y (gc Y X) kd (.mth .index a (.cons b .nil))) := by
  refine PE.imp (pe_bm PySem.F.plainAttrs_list PySem.F.slot_list_index PySem.F.type_list_index (mt_indexD C.hu) ha (pa_cons hc pa_nil (star_cons he [] X.env)) (base_of hb _ _ _) (ra_of (es := [e]) (by simp [he]) p X.env (by simp)) hl (star_cons he [] X.env) rfl) fun σ H Q h => ?_
  obtain ⟨s, Fs, d, rl, h1, q⟩ := h
  obtain ⟨da, ea, h2⟩ := bind_ok (show (evE Y.Φ Y.M a s).bind _ = _ from h1)
  obtain ⟨ds, eb0, h3⟩ := bind_ok h2
  obtain ⟨db, eb, h4⟩ := bind_ok (show (evE Y.Φ Y.M b s).bind _ = _ from eb0)
  obtain ⟨_, e0, h5⟩ := bind_ok h4
  cases e0
  cases h5
  refine ⟨s, Fs, _, rl, ea, fun v H1 F1 r1 => ?_⟩
  obtain ⟨ys, rfl⟩ : ∃ ys, da = .lst ys := by
    cases da with
    | lst ys => exact ⟨ys, rfl⟩
    | _ => cases h3
  obtain ⟨_, hk, h6⟩ := bind_ok (show (chk _).bind _ = _ from h3)
  have hk := and2 (chk_ok hk)
  cases hf : findE db ys 0 with
  | none => rw [hf] at h6; cases h6
  | some j =>
  rw [hf] at h6
  cases h6
  obtain ⟨i, z, e1, e2, e3, e4⟩ := findE_at hf
  have rp := r1.rep
  have hsq : tyV X.K "list" v H1 := by
    cases rp with
    | lst e r => exact .inl ⟨rfl, _, SqL.of e⟩
  refine ⟨hsq, s, Fs, db, rl.same r1.same, eb, fun y H2 F2 r2 => ?_⟩
  have rp2 := r1.rep.same r2.same
  have vr : ∃ c, v = .ref c := by
    cases rp with
    | lst e r => exact ⟨_, rfl⟩
  obtain ⟨c, rfl⟩ := vr
  refine ⟨c, y, db.toP, toPs ys, i, z.toP, rfl, rfl, rp2.dps hk.2, r2.rep.dps hk.1, hk.2, hk.1, by rw [toPs_get, e2]; rfl, e3, fun m z' hm hz => ?_, ?_⟩
  · rw [toPs_get] at hz
    cases hq : ys[m]? with
    | none => rw [hq] at hz; cases hz
    | some w =>
      rw [hq] at hz
      cases hz
      exact e4 m hm w hq
  · have e1 : j = i := by omega
    subst e1
    exact tE_pure q (r1.same.trans r2.same) (.int _) rfl
/-! ### displayed dicts -/
def trsOf (Y : SX) (G : GC) (kd : Nat → Nat) : IEs → List (TE × TE)
  | .cons k (.cons v r) => (tE Y G kd k, tE Y G kd v) :: trsOf Y G kd r
  | _ => []
theorem pairs_ok {σc : L2.St} {s : Sg} {Fs : Nat → List Addr} : ∀ {es : IEs} {ds : List D} {kds : List (Key × D)} {H : Hp} {Q : List (V × V) → Hp → Prop}, RelE (gc Y X) kd s σc H Fs → evEs Y.Φ Y.M es s = .ok ds → pairD ds = .ok kds → all0 Y.sg Y.ms es kd = true →
    (∀ ps H', Same H H' → (∃ kvs : List (Key × V), ps = kvs.map (fun kv => (kV kv.1, kv.2)) ∧ kvs.map Prod.fst = kds.map Prod.fst ∧ ∃ F, Reps (gc Y X) H' (kvs.map Prod.snd) (kds.map Prod.snd) F) → pureAll (kds.map Prod.snd) = true → Q ps H') → tPairs (trsOf Y (gc Y X) kd es) σc H Q
  | .nil, _, _, H, Q, rl, h, hp, _, q => by
    cases h
    cases hp
    exact q [] H (Same.refl H) ⟨[], rfl, rfl, [], .nil⟩ rfl
  | .cons k .nil, _, _, H, Q, rl, h, hp, _, q => by
    obtain ⟨x, ex, h2⟩ := bind_ok (show (evE Y.Φ Y.M k s).bind _ = _ from h)
    obtain ⟨_, e0, h3⟩ := bind_ok h2
    cases e0
    cases h3
    cases hp
  | .cons k (.cons v r), _, _, H, Q, rl, h, hp, h0, q => by
    obtain ⟨x, ex, h2⟩ := bind_ok (show (evE Y.Φ Y.M k s).bind _ = _ from h)
    obtain ⟨ds1, e1, h3⟩ := bind_ok h2
    cases h3
    obtain ⟨y, ey, h4⟩ := bind_ok (show (evE Y.Φ Y.M v s).bind _ = _ from e1)
    obtain ⟨ds2, e2, h5⟩ := bind_ok h4
    cases h5
    have hp : (match keyOf x with
      | some q => (pairD ds2).bind fun kvs => R.ok ((q, y) :: kvs)
      | none => .bad) = R.ok _ := hp
    split at hp
    · rename_i kq hk
      obtain ⟨kds2, ep, h6⟩ := bind_ok hp
      cases h6
      rw [all0, all0, Bool.and_eq_true, Bool.and_eq_true] at h0
      refine ⟨s, Fs, x, rl, ex, fun vx H1 F1 r1 => ⟨s, Fs, y, rl.same r1.same, ey, fun vy H2 F2 r2 => ?_⟩⟩
      refine pairs_ok (rl.same (r1.same.trans r2.same)) e2 ep h0.2.2 fun ps H3 sm ⟨kvs, g1, g2, F3, g3⟩ g4 => ?_
      obtain ⟨e5, _⟩ := key_rep r1.rep hk
      have yp : y.pure = true := by
        have := r2.ty
        rw [of_decide_eq_true h0.2.1] at this
        exact this
      refine q _ H3 ((r1.same.trans r2.same).trans sm) ⟨(kq, vy) :: kvs, by rw [List.map_cons, ← g1, e5], by rw [List.map_cons, List.map_cons, g2], F2 ++ F3, .cons (r2.rep.same sm) g3⟩ ?_
      show (y.pure && pureAll (kds2.map Prod.snd)) = true
      rw [yp, g4]
      rfl
    · cases hp
theorem pureV_put {kvs : List (Key × D)} {q : Key} {v : D} (t2 : pureV kvs = true) (hv : v.pure = true) : pureV (putD kvs q v) = true := by
  rw [pureV_eq] at t2 ⊢
  refine pureAll_mem fun d hd => ?_
  unfold putD at hd
  split at hd
  · rw [List.map_map] at hd
    obtain ⟨p, hp, e⟩ := List.mem_map.mp hd
    by_cases e1 : p.1 = q
    · rw [Function.comp, if_pos e1] at e
      rw [← e]
      exact hv
    · rw [Function.comp, if_neg e1] at e
      rw [← e]
      exact mem_pureAll t2 (List.mem_map_of_mem hp)
  · rw [List.map_append] at hd
    rcases List.mem_append.mp hd with z | z
    · exact mem_pureAll t2 z
    · simp only [List.map_cons, List.map_nil, List.mem_singleton] at z
      rw [z]
      exact hv
theorem merge_rep {G : GC} {H : Hp} : ∀ {mk : List (Key × V)} {md : List (Key × D)}, mk.map Prod.fst = md.map Prod.fst → (∃ F, Reps G H (mk.map Prod.snd) (md.map Prod.snd) F) → pureAll (md.map Prod.snd) = true →
    ∀ {kvs : List (Key × V)} {kds : List (Key × D)}, kvs.map Prod.fst = kds.map Prod.fst → (∃ F, Reps G H (kvs.map Prod.snd) (kds.map Prod.snd) F) → pureV kds = true →
      (mk.foldl (fun acc kv => putK acc kv.1 kv.2) kvs).map Prod.fst = (md.foldl (fun acc kv => putD acc kv.1 kv.2) kds).map Prod.fst ∧ (∃ F, Reps G H ((mk.foldl (fun acc kv => putK acc kv.1 kv.2) kvs).map Prod.snd) ((md.foldl (fun acc kv => putD acc kv.1 kv.2) kds).map Prod.snd) F) ∧ pureV (md.foldl (fun acc kv => putD acc kv.1 kv.2) kds) = true
  | [], [], _, _, _, kvs, kds, e, r, p => ⟨e, r, p⟩
  | [], _ :: _, h, _, _, _, _, _, _, _ => by simp at h
  | _ :: _, [], h, _, _, _, _, _, _, _ => by simp at h
  | (k, v) :: mk, (k', d) :: md, h, ⟨F0, r0⟩, hp, kvs, kds, e, ⟨F, r⟩, p => by
    have m1 : k = k' := by simpa using (List.cons.inj h).1
    have m2 : mk.map Prod.fst = md.map Prod.fst := (List.cons.inj h).2
    subst m1
    have hp' := by simpa [pureAll] using hp
    cases r0 with
    | cons r1 rs =>
    obtain ⟨g1, F', g2, _, _⟩ := put_rep (q := k) r1 e r
    exact merge_rep m2 ⟨_, rs⟩ (by simpa using hp'.2) g1 ⟨F', g2⟩ (pureV_put p hp'.1)
theorem s_dsp {es : IEs} {ks : List (Option Expr)} {vs : List Expr} {p : Pos} (hp : PPs X p ks vs (trsOf Y (gc Y X) kd es)) (hall : ks.all (·.isSome) = true) (hl : ks.length = vs.length) (h0 : ks ≠ []) (h15 : ks.length ≤ 15) (ha : all0 Y.sg Y.ms es kd = true) :
    PE X (.Dict ks vs p) (tE Y (gc Y X) kd (.dsp es)) := by
  refine PE.imp (pe_disp hp hall hl h0 h15) fun σ H Q h => ?_
  obtain ⟨s, Fs, d, rl, h1, q⟩ := h
  obtain ⟨ds, eds, h2⟩ := bind_ok (show (evEs Y.Φ Y.M es s).bind _ = _ from h1)
  obtain ⟨kds, ek, h3⟩ := bind_ok h2
  obtain ⟨_, hc, h4⟩ := bind_ok h3
  cases h4
  intro t ht
  refine pairs_ok (rl.same (same_laid ht)) eds ek ha fun ps H2 sm ⟨kvs, g1, g2, F, g3⟩ g4 => ?_
  have e2 : H2 t = some (.dK []) := sm _ _ upd_same
  have lk : kvs.length = kds.length := by
    have := congrArg List.length g2
    rwa [List.length_map, List.length_map] at this
  refine ⟨e2, kvs, g1, by rw [lk]; exact of_decide_eq_true (chk_ok hc), ?_⟩
  obtain ⟨m1, ⟨F', m2⟩, m3⟩ := merge_rep g2 ⟨F, g3⟩ g4 (kvs := []) (kds := []) rfl ⟨[], .nil⟩ rfl
  have fn := m2.pure_nil (by rw [← pureV_eq]; exact m3)
  subst fn
  have im : Imm H2 (upd H2 t (.dK (mergeK [] kvs))) := fun a o e => by
    by_cases z : a = t
    · subst z
      rw [e2] at e
      cases e
      exact ⟨fun w => (nomatch w), _, upd_same⟩
    · rw [upd_ne z]
      exact ⟨fun _ => e, o, e⟩
  have rv : Rep (gc Y X) (upd H2 t (.dK (mergeK [] kvs))) (.ref t) (.dct (mergeD kds)) [t] := .dct upd_same m1 (m2.stay im fun a ha => nomatch ha)
  refine q _ _ [t] ⟨fun a o e => ?_, rv, m3, ⟨fun _ => ⟨by simp, fun a ha => ?_⟩, fun _ _ => ⟨t, [], rfl, rfl, ht, by simp⟩⟩, fun a ha => ?_, fun a ha => nomatch ha⟩
  · rw [upd_ne (ne_of_none e ht)]
    exact sm _ _ (by rw [upd_ne (ne_of_none e ht)]; exact e)
  · rw [List.mem_singleton] at ha
    rw [ha]
    exact ht
  · rw [List.mem_singleton] at ha
    rw [ha]
    exact .inl ht
theorem s_dsl {k v : IE} {a b : Expr} {p : Pos} (hp : PPs X p [some a] [b] [(tE Y (gc Y X) kd k, tE Y (gc Y X) kd v)]) : PE X (.Dict [some a] [b] p) (tE Y (gc Y X) kd (.dsl k v)) := by
  refine PE.imp (pe_disp hp rfl rfl (by simp) (by simp)) fun σ H Q h => ?_
  obtain ⟨s, Fs, d, rl, h1, q⟩ := h
  obtain ⟨kk, ek, h2⟩ := bind_ok (show (evE Y.Φ Y.M k s).bind _ = _ from h1)
  obtain ⟨dv, ev, h3⟩ := bind_ok h2
  cases hq : keyOf kk with
  | none => rw [hq] at h3; cases h3
  | some ky =>
  rw [hq] at h3
  cases h3
  intro t ht
  refine ⟨s, Fs, kk, rl.same (same_laid ht), ek, fun x H1 F1 r1 => ⟨s, Fs, dv, (rl.same (same_laid ht)).same r1.same, ev, fun y H2 F2 r2 => ?_⟩⟩
  have s0 : Same H (upd H t (.dK [])) := same_laid ht
  have e1 : H1 t = some (.dK []) := r1.same _ _ upd_same
  have e2 : H2 t = some (.dK []) := r2.same _ _ e1
  obtain ⟨ex, _⟩ := key_rep r1.rep hq
  subst ex
  have nt : t ∉ F2 := fun z => by
    rcases r2.al t z with y | y
    · rw [e1] at y
      cases y
    · have tr : ∃ k, t ∈ Fs k := by
        rcases y with ⟨k, _, y⟩ | ⟨k, _, y⟩
        · exact ⟨k, y⟩
        · refine ⟨k, ?_⟩
          unfold inn at y
          split at y
          · exact innF_sub y
          · exact y
      obtain ⟨k, y⟩ := tr
      obtain ⟨o, w⟩ := rl.tr k t y
      rw [ht] at w
      cases w
  refine ⟨e2, [(ky, y)], rfl, by simp, ?_⟩
  have im : Imm H2 (upd H2 t (.dK (mergeK [] [(ky, y)]))) := fun a o e => by
    by_cases z : a = t
    · subst z
      rw [e2] at e
      cases e
      exact ⟨fun w => (nomatch w), _, upd_same⟩
    · rw [upd_ne z]
      exact ⟨fun _ => e, o, e⟩
  have rs : Reps (gc Y X) (upd H2 t (.dK (mergeK [] [(ky, y)]))) [y] [dv] (F2 ++ []) := .cons (r2.rep.stay im fun a ha => upd_ne fun z => nt (z ▸ ha)) .nil
  rw [List.append_nil] at rs
  have rv : Rep (gc Y X) (upd H2 t (.dK (mergeK [] [(ky, y)]))) (.ref t) (.dct [(ky, dv)]) (t :: F2) := .dct upd_same rfl rs
  have fin : ∀ a ∈ F2, H1 a = none → H a = none := fun a _ e => s0.free (r1.same.free e)
  have ty : TyOk (tyE Y.sg Y.ms (.dsl k v) kd) (.dct [(ky, dv)]) := by
    show TyOk (if tyE Y.sg Y.ms v kd = 0 then 1 else 2) _
    split
    · rename_i z
      have t2 := r2.ty
      rw [z] at t2
      show (dv.pure && true) = true
      rw [show dv.pure = true from t2]
      rfl
    · trivial
  have fr : FrOk (frE Y.sg Y.ms (.dsl k v) kd) H (.ref t) (.dct [(ky, dv)]) (t :: F2) := by
    show FrOk (if frE Y.sg Y.ms v kd ≤ 1 then 1 else 2) _ _ _ _
    refine ⟨fun e => ?_, fun _ _ => ⟨t, F2, rfl, rfl, ht, nt⟩⟩
    split at e
    · rename_i z
      obtain ⟨n1, n2⟩ := r2.fr.1 z
      exact ⟨List.nodup_cons.mpr ⟨nt, n1⟩, fun a ha => by
        rcases List.mem_cons.mp ha with w | w
        · rw [w]
          exact ht
        · exact fin a w (n2 a w)⟩
    · omega
  have al' : ∀ a ∈ F2, H a = none ∨ InAl s Fs (alP Y.sg Y.ms v kd).1 a := fun a ha => by
    rcases r2.al a ha with w | w
    · exact .inl (fin a ha w)
    · exact .inr w
  refine q _ _ (t :: F2) (Rs.mk0 (fun a o e => ?_) rv ty fr (fun _ a ha => ?_) fun _ a ha => al' a ha)
  · rw [upd_ne (ne_of_none e ht)]
    exact r2.same _ _ (r1.same _ _ (s0 _ _ e))
  · rcases List.mem_cons.mp ha with w | w
    · rw [w]
      exact .inl ht
    · exact al' a w
theorem mth_none1 {m : MT} {o b : IE} {e : Expr} (hm : ∀ x y, mthD m x [y] = .bad) : PE X e (tE Y (gc Y X) kd (.mth m o (.cons b .nil))) ∧ (okT (.mth m o (.cons b .nil)) = true → PT X e (tT Y (gc Y X) kd (.mth m o (.cons b .nil)))) := by
  have no : ∀ s d, evE Y.Φ Y.M (.mth m o (.cons b .nil)) s ≠ .ok d := fun s d g1 => by
    obtain ⟨da, ea, g2⟩ := bind_ok (show (evE Y.Φ Y.M o s).bind _ = _ from g1)
    obtain ⟨ds, eb0, g3⟩ := bind_ok g2
    obtain ⟨db, eb, g4⟩ := bind_ok (show (evE Y.Φ Y.M b s).bind _ = _ from eb0)
    obtain ⟨_, e0, g5⟩ := bind_ok g4
    cases e0
    cases g5
    rw [hm] at g3
    cases g3
  exact ⟨PE.no fun σ H Q ⟨s, Fs, d, rl, g1, q⟩ => no s d g1, fun _ => PT.no fun σ H Q ⟨s, Fs, d, k, rl, g1, q⟩ => no s d g1⟩
theorem mth_none {m : MT} {o : IE} {es : IEs} {e : Expr} (hm : ∀ x xs, mthD m x xs = .bad) : PE X e (tE Y (gc Y X) kd (.mth m o es)) ∧ (okT (.mth m o es) = true → PT X e (tT Y (gc Y X) kd (.mth m o es))) := by
  have no : ∀ s d, evE Y.Φ Y.M (.mth m o es) s ≠ .ok d := fun s d g1 => by
    obtain ⟨da, ea, g2⟩ := bind_ok (show (evE Y.Φ Y.M o s).bind _ = _ from g1)
    obtain ⟨ds, eb0, g3⟩ := bind_ok g2
    rw [hm] at g3
    cases g3
  exact ⟨PE.no fun σ H Q ⟨s, Fs, d, rl, g1, q⟩ => no s d g1, fun _ => PT.no fun σ H Q ⟨s, Fs, d, k, rl, g1, q⟩ => no s d g1⟩
theorem mth_none2 {m : MT} {o b c : IE} {e : Expr} (hm : ∀ x y z, mthD m x [y, z] = .bad) : PE X e (tE Y (gc Y X) kd (.mth m o (.cons b (.cons c .nil)))) ∧ (okT (.mth m o (.cons b (.cons c .nil))) = true → PT X e (tT Y (gc Y X) kd (.mth m o (.cons b (.cons c .nil))))) := by
  have no : ∀ s d, evE Y.Φ Y.M (.mth m o (.cons b (.cons c .nil))) s ≠ .ok d := fun s d g1 => by
    obtain ⟨da, ea, g2⟩ := bind_ok (show (evE Y.Φ Y.M o s).bind _ = _ from g1)
    obtain ⟨ds, eb0, g3⟩ := bind_ok g2
    obtain ⟨db, eb, g4⟩ := bind_ok (show (evE Y.Φ Y.M b s).bind _ = _ from eb0)
    obtain ⟨dr, e0, g5⟩ := bind_ok g4
    cases g5
    obtain ⟨dc, ec, g6⟩ := bind_ok (show (evE Y.Φ Y.M c s).bind _ = _ from e0)
    obtain ⟨dn, en, g7⟩ := bind_ok g6
    cases en
    cases g7
    rw [hm] at g3
    cases g3
  exact ⟨PE.no fun σ H Q ⟨s, Fs, d, rl, g1, q⟩ => no s d g1, fun _ => PT.no fun σ H Q ⟨s, Fs, d, k, rl, g1, q⟩ => no s d g1⟩
theorem s_srs (C : Ctx Y N X) {a : IE} {x : Expr} {p p2 p3 p4 : Pos} (hg : glb X.env.scope (Str.ofString "sorted") = true) (hg2 : glb X.env.scope (Str.ofString "set") = true) (hx : plainE x = true) (ha : PE X x (tE Y (gc Y X) kd a)) :
    PE X (.Call (.Name (Str.ofString "sorted") p2) [.Call (.Name (Str.ofString "set") p3) [x] [] p4] [] p) (tE Y (gc Y X) kd (.srs a)) := by
  have inner := pe_callTy (pos := p4) (p := p3) (cr_setI C.calm) (glb_ok hg2) (C.bn _ (by decide)) (show bootBuiltins (Str.ofString "set") = some (.type "set") by decide +kernel) (pa_cons ha pa_nil (star_cons hx [] X.env)) (by decide) (by decide) (star_cons hx [] X.env) rfl
  refine PE.imp (pe_callB (cr_sortedSet C.calm) (glb_ok hg) (C.bn _ (by decide)) (show bootBuiltins (Str.ofString "sorted") = some (.builtin "sorted") by decide +kernel) (pa_cons inner pa_nil (star_cons (show plainE (.Call (.Name (Str.ofString "set") p3) [x] [] p4) = true from rfl) [] X.env)) (by decide) (by decide) (star_cons (show plainE (.Call (.Name (Str.ofString "set") p3) [x] [] p4) = true from rfl) [] X.env) rfl) fun σ H Q h => ?_
  obtain ⟨s, Fs, d, rl, h1, q⟩ := h
  obtain ⟨d0, ed, h2⟩ := bind_ok (show (evE Y.Φ Y.M a s).bind _ = _ from h1)
  refine ⟨s, Fs, d0, rl, ed, fun v H1 F r => ?_⟩
  unfold srsD at h2
  split at h2
  · rename_i xs
    split at h2
    · rename_i is hi
      obtain ⟨_, hc, h3⟩ := bind_ok h2
      cases h3
      have hz := of_decide_eq_true (chk_ok hc)
      have rp := r.rep
      cases rp with
      | tup e rr =>
      obtain ⟨e1, e2⟩ := rr.ints hi
      subst e1
      refine ⟨_, is, rfl, .inl e, hz, fun t c ht hc => ?_⟩
      refine ⟨t, _, c, rfl, upd_same, by omega, fun ns u h1 h2 _ hu => ?_⟩
      have en : ns = sortU is := rising_uniq h1 sortU_pw fun z => by
        rw [h2 z, sortU_mem]
        exact decide_eq_true_iff
      subst en
      have hu1 : H1 u = none := by
        cases q2 : H1 u with
        | none => rfl
        | some o =>
          rw [upd_ne (ne_of_none q2 ht), q2] at hu
          cases hu
      have sm2 : Same H1 (upd (upd H1 t (SetO X.w t (fun j => decide (j ∈ is)) c)) u (.lst ((sortU is).map V.int))) := (same_laid ht).trans (same_laid hu)
      have rv : Rep (gc Y X) (upd (upd H1 t (SetO X.w t (fun j => decide (j ∈ is)) c)) u (.lst ((sortU is).map V.int))) (.ref u) (.lst ((sortU is).map D.int)) [u] := .lst upd_same (Reps.of_ints _)
      have nw : ∀ b ∈ [u], H b = none := fun b hb => by
        rw [List.mem_singleton.mp hb]
        exact r.same.free hu1
      have ty : TyOk 1 (.lst ((sortU is).map D.int)) := pureAll_mem fun d hd => by
        obtain ⟨i, _, rfl⟩ := List.mem_map.mp hd
        rfl
      exact q _ _ [u] ⟨r.same.trans sm2, rv, ty, FrOk.back r.same (show FrOk (fr1 1) H1 (.ref u) (.lst ((sortU is).map D.int)) [u] from FrOk.of_fr1 rv ty fun _ => ⟨u, [], rfl, rfl, hu1, by simp⟩), (fun b hb => .inl (nw b hb)), fun b hb => nomatch hb⟩
    · cases h2
  · rename_i xs
    split at h2
    · rename_i is hi
      obtain ⟨_, hc, h3⟩ := bind_ok h2
      cases h3
      have hz := of_decide_eq_true (chk_ok hc)
      have rp := r.rep
      cases rp with
      | lst e rr =>
      obtain ⟨e1, e2⟩ := rr.ints hi
      subst e1
      refine ⟨_, is, rfl, .inr (SqL.of e), hz, fun t c ht hc => ?_⟩
      refine ⟨t, _, c, rfl, upd_same, by omega, fun ns u h1 h2 _ hu => ?_⟩
      have en : ns = sortU is := rising_uniq h1 sortU_pw fun z => by
        rw [h2 z, sortU_mem]
        exact decide_eq_true_iff
      subst en
      have hu1 : H1 u = none := by
        cases q2 : H1 u with
        | none => rfl
        | some o =>
          rw [upd_ne (ne_of_none q2 ht), q2] at hu
          cases hu
      have sm2 : Same H1 (upd (upd H1 t (SetO X.w t (fun j => decide (j ∈ is)) c)) u (.lst ((sortU is).map V.int))) := (same_laid ht).trans (same_laid hu)
      have rv : Rep (gc Y X) (upd (upd H1 t (SetO X.w t (fun j => decide (j ∈ is)) c)) u (.lst ((sortU is).map V.int))) (.ref u) (.lst ((sortU is).map D.int)) [u] := .lst upd_same (Reps.of_ints _)
      have nw : ∀ b ∈ [u], H b = none := fun b hb => by
        rw [List.mem_singleton.mp hb]
        exact r.same.free hu1
      have ty : TyOk 1 (.lst ((sortU is).map D.int)) := pureAll_mem fun d hd => by
        obtain ⟨i, _, rfl⟩ := List.mem_map.mp hd
        rfl
      exact q _ _ [u] ⟨r.same.trans sm2, rv, ty, FrOk.back r.same (show FrOk (fr1 1) H1 (.ref u) (.lst ((sortU is).map D.int)) [u] from FrOk.of_fr1 rv ty fun _ => ⟨u, [], rfl, rfl, hu1, by simp⟩), (fun b hb => .inl (nw b hb)), fun b hb => nomatch hb⟩
    · cases h2
  · cases h2
theorem s_lsp (C : Ctx Y N X) {a : IE} {x : Expr} {p p2 : Pos} (hg : glb X.env.scope (biName .list) = true) (hn : plainN (biName .list) = true) (hx : plainE x = true) (ha : PE X x (tE Y (gc Y X) kd a)) :
    PE X (.Call (.Name (biName .list) p2) [x] [] p) (tE Y (gc Y X) kd (.lsp a)) := by
  refine PE.imp (s_bi (b := .list) (es := .cons a .nil) C hg hn (by simp [hx]) (s_cons hx ha s_nil)) fun σ H Q h => ?_
  obtain ⟨s, Fs, d, rl, h1, q⟩ := h
  obtain ⟨d0, ed, h2⟩ := bind_ok (show (evE Y.Φ Y.M a s).bind _ = _ from h1)
  have fin : ∀ xs, d = .lst xs → pureAll xs = true → evE Y.Φ Y.M (.bi .list (.cons a .nil)) s = .ok d → tE Y (gc Y X) kd (.bi .list (.cons a .nil)) σ H Q := fun xs e px ev => by
    refine ⟨s, Fs, d, rl, ev, fun v H1 F r => q v H1 F ?_⟩
    obtain ⟨sm, rp, ty, fr, al, an⟩ := r
    subst e
    cases rp with
    | lst e rr =>
    rename_i b vs F0
    have e0 := rr.pure_nil px
    subst e0
    have fb : H b = none := by
      have f2 : frE Y.sg Y.ms (.bi .list (.cons a .nil)) kd ≤ 2 := by
        show fr1 _ ≤ 2
        unfold fr1
        split <;> omega
      obtain ⟨b', F', h3, h4, h5, _⟩ := fr.2 f2 rfl
      cases h4
      exact h5
    have rv : Rep (gc Y X) H1 (.ref b) (.lst xs) [b] := .lst e rr
    have nb : ∀ c ∈ [b], H c = none := fun c hc => by
      rw [List.mem_singleton.mp hc]
      exact fb
    exact ⟨sm, rv, (show TyOk 1 (.lst xs) from px), ⟨fun _ => ⟨by simp, nb⟩, fun _ _ => ⟨b, [], rfl, rfl, fb, by simp⟩⟩, (fun c hc => .inl (nb c hc)), fun c hc => nomatch hc⟩
  split at h2
  · rename_i xs
    obtain ⟨_, hc, h3⟩ := bind_ok h2
    cases h3
    exact fin xs rfl (chk_ok hc) (by
      show (evEs Y.Φ Y.M (.cons a .nil) s).bind _ = _
      simp only [evEs, ed]
      rfl)
  · rename_i xs
    obtain ⟨_, hc, h3⟩ := bind_ok h2
    cases h3
    exact fin xs rfl (chk_ok hc) (by
      show (evEs Y.Φ Y.M (.cons a .nil) s).bind _ = _
      simp only [evEs, ed]
      rfl)
  · cases h2
theorem s_pix (C : Ctx Y N X) {a b : IE} {l r : Expr} {p : Pos} (hp : plainE r = true) (ha : PE X l (tE Y (gc Y X) kd a)) (hb : PE X r (tE Y (gc Y X) kd b)) : PE X (.Subscript l r p) (tE Y (gc Y X) kd (.pix a b)) := by
  refine PE.imp (s_idx C hp ha hb) fun σ H Q h => ?_
  obtain ⟨s, Fs, d, rl, h1, q⟩ := h
  obtain ⟨x, ex, h2⟩ := bind_ok (show (evE Y.Φ Y.M a s).bind _ = _ from h1)
  obtain ⟨y, ey, h3⟩ := bind_ok h2
  obtain ⟨u, eu, h4⟩ := bind_ok h3
  obtain ⟨_, hc, h5⟩ := bind_ok h4
  cases h5
  refine ⟨s, Fs, d, rl, ?_, fun v H1 F r => q v H1 F (Rs.pure r.same r.rep (chk_ok hc))⟩
  show (evE Y.Φ Y.M a s).bind _ = _
  rw [ex]
  show (evE Y.Φ Y.M b s).bind _ = _
  rw [ey]
  exact eu
theorem s_upper (C : Ctx Y N X) {a : IE} {x : Expr} {ap p : Pos} (hb : baseB x = true) (hl : (ap.endLine == p.line) = true) (ha : PE X x (tE Y (gc Y X) kd a)) :
    PE X (.Call (.Attribute x (Str.ofString "upper") ap) [] [] p) (tE Y (gc Y X) kd (.mth .upper a .nil)) := by
  refine PE.imp (pe_upper ha (base_of hb _ _ _) hl) fun σ H Q h => ?_
  obtain ⟨s, Fs, d, rl, h1, q⟩ := h
  obtain ⟨da, ea, h2⟩ := bind_ok (show (evE Y.Φ Y.M a s).bind _ = _ from h1)
  obtain ⟨ds, eb0, h3⟩ := bind_ok h2
  cases eb0
  refine ⟨s, Fs, da, rl, ea, fun v H1 F r => ?_⟩
  cases da with
  | str z =>
    obtain ⟨_, hc, h4⟩ := bind_ok (show (chk _).bind _ = _ from h3)
    cases h4
    have rp := r.rep
    cases rp
    exact ⟨⟨z, rfl⟩, z, rfl, rfl, of_decide_eq_true (chk_ok hc), tE_pure q r.same (.str _) rfl⟩
  | _ => cases h3
end
end Ev

/-! Part C: every expression of the text runs as the small language reckons. -/
namespace Ev
open PySem PySem.Spec PyProof.Rows L2
section
variable (sg ms : Nat → Sig)
mutual
/-- what is asked of an expression's kinds: the arguments' -/
def wE : IE → (Nat → Nat) → Bool
  | .bin _ a b, kd => wE a kd && wE b kd
  | .neg a, kd => wE a kd
  | .not a, kd => wE a kd
  | .bo _ a b, kd => wE a kd && wE b kd
  | .cmp _ a b, kd => wE a kd && wE b kd
  | .cmp2 _ _ a b c, kd => wE a kd && (wE b kd && wE c kd)
  | .ife c a b, kd => wE c kd && (wE a kd && wE b kd)
  | .tup es, kd => wEs es kd
  | .lst es, kd => wEs es kd
  | .idx a b, kd => wE a kd && wE b kd
  | .slc a l h, kd => wE a kd && (wO l kd && wO h kd)
  | .rev a, kd => wE a kd
  | .evr a lo, kd => wE a kd && wO lo kd
  | .srs a, kd => wE a kd
  | .lsp a, kd => wE a kd
  | .pix a b, kd => wE a kd && wE b kd
  | .comp elt tg it c, kd => wI it kd && (wO c (kdT kd tg (tyI sg ms it kd)) && wE elt (kdT kd tg (tyI sg ms it kd)))
  | .call f es, kd => argB sg ms kd (sg f).ps es && wEs es kd
  | .calld f m es, kd => argB sg ms kd ((sg f).ps.take ((sg f).ps.length - m)) es && (decide (m ≤ (sg f).ps.length) && wEs es kd)
  | .bi _ es, kd => wEs es kd
  | .isi a _, kd => wE a kd
  | .mth _ o es, kd => wE o kd && wEs es kd
  | .omt m o es, kd => argB sg ms kd (ms m).ps es && (wE o kd && wEs es kd)
  | .mk _, _ => true
  | .dsp es, kd => all0 sg ms es kd && wEs es kd
  | .dsl k v, kd => wE k kd && wE v kd
  | .dct ks _, _ => match ks with
    | .nil => true
    | _ => false
  | .lrg a, kd => wE a kd
  | _, _ => true
termination_by structural e => e
def wEs : IEs → (Nat → Nat) → Bool
  | .nil, _ => true
  | .cons e es, kd => wE e kd && wEs es kd
termination_by structural e => e
def wO : IEo → (Nat → Nat) → Bool
  | .no, _ => true
  | .so e, kd => wE e kd
termination_by structural e => e
def wI : II → (Nat → Nat) → Bool
  | .el e, kd => wE e kd
  | .rg1 a, kd => wE a kd
  | .rg2 a b, kd => wE a kd && wE b kd
  | .rg3 a b c, kd => wE a kd && (wE b kd && wE c kd)
  | .enu a, kd => wE a kd
  | .zip a b, kd => wE a kd && wE b kd
  | .rvs a, kd => wE a kd
  | .itms a, kd => wE a kd
termination_by structural e => e
end
end
theorem mEs_plain {Y : SX} {N : List Str} {sc : Scope} : ∀ {es : IEs} {xs : List Expr}, mEs Y N es sc xs = true → xs.all plainE = true
  | .nil, xs, h => by
    simp only [mEs] at h
    cases xs with
    | nil => rfl
    | cons x xs => cases h
  | .cons e es, xs, h => by
    simp only [mEs] at h
    split at h
    · obtain ⟨h1, r0⟩ := and2 h
      obtain ⟨h2, h3⟩ := and2 r0
      rw [List.all_cons, h1, mEs_plain h3]
      rfl
    · cases h
theorem boOp_eq {op : BoolOp} {o : Bool} (h : op = boOp o) : op = boOp o := h
section
variable {Y : SX} {N : List Str}
theorem both {X : Cx} {kd : Nat → Nat} {e : Expr} {ie : IE} (hp : PE X e (tE Y (gc Y X) kd ie)) (hd : defT e = true) : PE X e (tE Y (gc Y X) kd ie) ∧ (okT ie = true → PT X e (tT Y (gc Y X) kd ie)) := ⟨hp, fun _ => pt_def hp hd⟩
mutual
theorem sndE : ∀ (ie : IE) {X : Cx} {sc : Scope} {kd : Nat → Nat} {e : Expr}, Ctx Y N X → X.env.scope = sc → mE Y N ie sc e = true → wE Y.sg Y.ms ie kd = true → PE X e (tE Y (gc Y X) kd ie) ∧ (okT ie = true → PT X e (tT Y (gc Y X) kd ie))
  | .var i, X, sc, kd, e, C, hs, h, hw => by
    have hp := s_var (kd := kd) C hs h
    refine ⟨hp, fun _ => pt_def hp ?_⟩
    simp only [mE] at h
    split at h
    · rfl
    · cases h
  | .non, X, sc, kd, e, C, hs, h, hw => by
    simp only [mE] at h
    split at h
    · refine both (PE.imp pe_non fun σ H Q h => by
        obtain ⟨s, Fs, d, rl, h1, q⟩ := h
        cases h1
        exact tE_pure q (Same.refl H) .non rfl
        ) rfl
    · cases h
  | .bl b, X, sc, kd, e, C, hs, h, hw => by
    simp only [mE] at h
    split at h
    · have e := of_decide_eq_true h
      subst e
      refine both (PE.imp pe_bl fun σ H Q h => by
        obtain ⟨s, Fs, d, rl, h1, q⟩ := h
        cases h1
        exact tE_pure q (Same.refl H) (.bl _) rfl
        ) rfl
    · cases h
  | .int n, X, sc, kd, e, C, hs, h, hw => by
    simp only [mE] at h
    split at h
    · have e := of_decide_eq_true h
      subst e
      refine both (PE.imp pe_int fun σ H Q h => by
        obtain ⟨s, Fs, d, rl, h1, q⟩ := h
        cases h1
        exact tE_pure q (Same.refl H) (.int _) rfl
        ) rfl
    · obtain ⟨h1, r0⟩ := and2 h
      obtain ⟨h2, h3⟩ := and2 r0
      obtain ⟨tt, ht⟩ := C.ci _ _ (of_decide_eq_true h3)
      refine both (PE.imp (pe_glob (v := .int n) (glb_ok (by rw [hs]; exact h1)) ht ⟨_, rfl⟩ (plainN_ok h2).1) fun σ H Q h => by
        obtain ⟨s, Fs, d, rl, h1, q⟩ := h
        cases h1
        exact tE_pure q (Same.refl H) (.int _) rfl
        ) rfl
    · cases h
  | .str t, X, sc, kd, e, C, hs, h, hw => by
    simp only [mE] at h
    split at h
    · have e := of_decide_eq_true h
      subst e
      refine both (PE.imp pe_str fun σ H Q h => by
        obtain ⟨s, Fs, d, rl, h1, q⟩ := h
        cases h1
        exact tE_pure q (Same.refl H) (.str _) rfl
        ) rfl
    · obtain ⟨h1, r0⟩ := and2 h
      obtain ⟨h2, h3⟩ := and2 r0
      obtain ⟨tt, ht⟩ := C.cs _ _ (of_decide_eq_true h3)
      refine both (PE.imp (pe_glob (v := .str t) (glb_ok (by rw [hs]; exact h1)) ht ⟨_, rfl⟩ (plainN_ok h2).1) fun σ H Q h => by
        obtain ⟨s, Fs, d, rl, h1, q⟩ := h
        cases h1
        exact tE_pure q (Same.refl H) (.str _) rfl
        ) rfl
    · cases h
  | .bin op a b, X, sc, kd, e, C, hs, h, hw => by
    simp only [mE] at h
    split at h
    · obtain ⟨h1, r0⟩ := and2 h
      obtain ⟨h2, h3⟩ := and2 r0
      have e := of_decide_eq_true h1
      subst e
      obtain ⟨w1, w2⟩ := and2 (show (wE Y.sg Y.ms a kd && wE Y.sg Y.ms b kd) = true from hw)
      exact both (s_bin (op := op) (sndE a C hs h2 w1).1 (sndE b C hs h3 w2).1) rfl
    · cases h
  | .neg a, X, sc, kd, e, C, hs, h, hw => by
    simp only [mE] at h
    split at h
    · exact both (s_neg (sndE a C hs h (show wE Y.sg Y.ms a kd = true from hw)).1) rfl
    · cases h
  | .not a, X, sc, kd, e, C, hs, h, hw => by
    simp only [mE] at h
    split at h
    · have ih := sndE a C hs h (show wE Y.sg Y.ms a kd = true from hw)
      exact ⟨s_not ih.1, fun ht => t_not (ih.2 ht)⟩
    · cases h
  | .bo o a b, X, sc, kd, e, C, hs, h, hw => by
    obtain ⟨w1, w2⟩ := and2 (show (wE Y.sg Y.ms a kd && wE Y.sg Y.ms b kd) = true from hw)
    simp only [mE] at h
    split at h
    · obtain ⟨h1, r0⟩ := and2 h
      obtain ⟨h2, h3⟩ := and2 r0
      have e := of_decide_eq_true h1
      subst e
      have iha := sndE a C hs h2 w1
      have ihb := sndE b C hs h3 w2
      refine ⟨s_bo o iha.1 (pe_one ihb.1), fun ht => ?_⟩
      obtain ⟨t1, t2⟩ := and2 (show (okT a && okT b) = true from ht)
      refine t_bo o (iha.2 t1) ?_
      cases o
      · exact pw_and1 (ihb.2 t2)
      · exact pw_or1 (ihb.2 t2)
    · obtain ⟨h1, r0⟩ := and2 h
      obtain ⟨h2, h3⟩ := and2 r0
      have e := of_decide_eq_true h1
      subst e
      have iha := sndE a C hs h2 w1
      have ihb := sndE b C hs h3 w2
      refine ⟨s_bo o iha.1 ihb.1, fun ht => ?_⟩
      obtain ⟨t1, t2⟩ := and2 (show (okT a && okT b) = true from ht)
      exact t_bo o (iha.2 t1) (pw_of (ihb.2 t2))
    · cases h
  | .cmp op a b, X, sc, kd, e, C, hs, h, hw => by
    simp only [mE] at h
    split at h
    · obtain ⟨h1, r0⟩ := and2 h
      obtain ⟨h0, r1⟩ := and2 r0
      obtain ⟨h2, h3⟩ := and2 r1
      have e := of_decide_eq_true h1
      subst e
      obtain ⟨w1, w2⟩ := and2 (show (wE Y.sg Y.ms a kd && wE Y.sg Y.ms b kd) = true from hw)
      have ia := (sndE a C hs h2 w1).1
      have ib := (sndE b C hs h3 w2).1
      exact ⟨s_cmp C ia ib (by simpa using h0), fun _ => t_cmp C ia ib (by simpa using h0)⟩
    · cases h
  | .cmp2 op op' a b c, X, sc, kd, e, C, hs, h, hw => by
    simp only [mE] at h
    split at h
    · obtain ⟨h1, r0⟩ := and2 h
      obtain ⟨h1', r1⟩ := and2 r0
      obtain ⟨h0, r2⟩ := and2 r1
      obtain ⟨h2, r3⟩ := and2 r2
      obtain ⟨h3, h4⟩ := and2 r3
      have e := of_decide_eq_true h1
      subst e
      have e := of_decide_eq_true h1'
      subst e
      obtain ⟨w1, w2⟩ := and2 (show (wE Y.sg Y.ms a kd && (wE Y.sg Y.ms b kd && wE Y.sg Y.ms c kd)) = true from hw)
      obtain ⟨w2, w3⟩ := and2 w2
      have ia := (sndE a C hs h2 w1).1
      have ib := (sndE b C hs h3 w2).1
      have ic := (sndE c C hs h4 w3).1
      exact ⟨s_cmp2 C ia ib ic (by simpa using h0), fun _ => t_cmp2 C ia ib ic (by simpa using h0)⟩
    · cases h
  | .ife c a b, X, sc, kd, e, C, hs, h, hw => by
    simp only [mE] at h
    split at h
    · obtain ⟨h1, r0⟩ := and2 h
      obtain ⟨h2, r1⟩ := and2 r0
      obtain ⟨h3, h4⟩ := and2 r1
      obtain ⟨w1, w2⟩ := and2 (show (wE Y.sg Y.ms c kd && (wE Y.sg Y.ms a kd && wE Y.sg Y.ms b kd)) = true from hw)
      obtain ⟨w2, w3⟩ := and2 w2
      exact ⟨s_ife ((sndE c C hs h2 w1).2 h1) (sndE a C hs h3 w2).1 (sndE b C hs h4 w3).1, fun ht => nomatch ht⟩
    · cases h
  | .tup es, X, sc, kd, e, C, hs, h, hw => by
    simp only [mE] at h
    split at h
    · exact both (s_tup (sndEs es C hs h (show wEs Y.sg Y.ms es kd = true from hw))) rfl
    · cases h
  | .lst es, X, sc, kd, e, C, hs, h, hw => by
    simp only [mE] at h
    split at h
    · exact both (s_lst (sndEs es C hs h (show wEs Y.sg Y.ms es kd = true from hw))) rfl
    · cases h
  | .idx a b, X, sc, kd, e, C, hs, h, hw => by
    simp only [mE] at h
    split at h
    · obtain ⟨h1, r0⟩ := and2 h
      obtain ⟨h2, h3⟩ := and2 r0
      obtain ⟨w1, w2⟩ := and2 (show (wE Y.sg Y.ms a kd && wE Y.sg Y.ms b kd) = true from hw)
      exact both (s_idx C h1 (sndE a C hs h2 w1).1 (sndE b C hs h3 w2).1) rfl
    · cases h
  | .slc a lo hi, X, sc, kd, e, C, hs, h, hw => by
    simp only [mE] at h
    split at h
    · obtain ⟨h1, r0⟩ := and2 h
      obtain ⟨h2, h3⟩ := and2 r0
      obtain ⟨w1, w2⟩ := and2 (show (wE Y.sg Y.ms a kd && (wO Y.sg Y.ms lo kd && wO Y.sg Y.ms hi kd)) = true from hw)
      obtain ⟨w2, w3⟩ := and2 w2
      exact both (s_slc (sndE a C hs h1 w1).1 (sndO lo C hs h2 w2) (sndO hi C hs h3 w3)) rfl
    · cases h
  | .rev a, X, sc, kd, e, C, hs, h, hw => by
    simp only [mE] at h
    split at h
    · exact both (s_rev (sndE a C hs h (show wE Y.sg Y.ms a kd = true from hw)).1) rfl
    · cases h
  | .evr a lo, X, sc, kd, e, C, hs, h, hw => by
    simp only [mE] at h
    split at h
    · obtain ⟨h1, h2⟩ := and2 h
      obtain ⟨w1, w2⟩ := and2 (show (wE Y.sg Y.ms a kd && wO Y.sg Y.ms lo kd) = true from hw)
      exact both (s_evr (sndE a C hs h1 w1).1 (sndO lo C hs h2 w2)) rfl
    · cases h
  | .comp elt tg it ifs, X, sc, kd, e, C, hs, h, hw => by
    simp only [mE] at h
    split at h
    · rename_i x t i cs asy scope p
      obtain ⟨h1, r0⟩ := and2 h
      obtain ⟨h2, r1⟩ := and2 r0
      obtain ⟨h3, r2⟩ := and2 r1
      obtain ⟨h4, r3⟩ := and2 r2
      obtain ⟨h5, r4⟩ := and2 r3
      obtain ⟨h6, h7⟩ := and2 r4
      have e := of_decide_eq_true h1
      subst e
      obtain ⟨w1, w2⟩ := and2 (show (wI Y.sg Y.ms it kd && (wO Y.sg Y.ms ifs (kdT kd tg (tyI Y.sg Y.ms it kd)) && wE Y.sg Y.ms elt (kdT kd tg (tyI Y.sg Y.ms it kd)))) = true from hw)
      obtain ⟨w2, w3⟩ := and2 w2
      exact both (s_comp (p := p) C hs h2 h3 h4 (sndI it C hs h5 w1) (fun X' C' hs' hg => by
        have := sndC ifs (X := X') C' hs' h6 w2
        rw [hg] at this
        exact this) (fun X' C' hs' hg => by
        have := (sndE elt (X := X') C' hs' h7 w3).1
        rw [hg] at this
        exact this)) rfl
    · cases h
  | .call f es, X, sc, kd, e, C, hs, h, hw => by
    simp only [mE] at h
    split at h
    · obtain ⟨h1, r0⟩ := and2 h
      obtain ⟨h2, r1⟩ := and2 r0
      obtain ⟨h3, h4⟩ := and2 r1
      obtain ⟨w1, w2⟩ := and2 (show (argB Y.sg Y.ms kd (Y.sg f).ps es && wEs Y.sg Y.ms es kd) = true from hw)
      exact both (s_call C (of_decide_eq_true h1) (by rw [hs]; exact h2) h3 (mEs_plain h4) w1 (sndEs es C hs h4 w2)) rfl
    · cases h
  | .calld f m es, X, sc, kd, e, C, hs, h, hw => by
    simp only [mE] at h
    split at h
    · obtain ⟨h1, r0⟩ := and2 h
      obtain ⟨h2, r1⟩ := and2 r0
      obtain ⟨h3, h4⟩ := and2 r1
      obtain ⟨w1, r2⟩ := and2 (show (argB Y.sg Y.ms kd ((Y.sg f).ps.take ((Y.sg f).ps.length - m)) es && (decide (m ≤ (Y.sg f).ps.length) && wEs Y.sg Y.ms es kd)) = true from hw)
      obtain ⟨w2, w3⟩ := and2 r2
      have h1 := of_decide_eq_true h1
      exact both (s_calld C h1.1 h1.2 (by rw [hs]; exact h2) h3 (mEs_plain h4) w1 (of_decide_eq_true w2) (sndEs es C hs h4 w3)) rfl
    · cases h
  | .bi b es, X, sc, kd, e, C, hs, h, hw => by
    simp only [mE] at h
    split at h
    · obtain ⟨h1, r0⟩ := and2 h
      obtain ⟨h2, r1⟩ := and2 r0
      obtain ⟨h3, h4⟩ := and2 r1
      have e := of_decide_eq_true h1
      subst e
      exact both (s_bi C (by rw [hs]; exact h2) h3 (mEs_plain h4) (sndEs es C hs h4 (show wEs Y.sg Y.ms es kd = true from hw))) rfl
    · cases h
  | .isi a ts, X, sc, kd, e, C, hs, h, hw => by
    simp only [mE] at h
    split at h
    · obtain ⟨h1, r0⟩ := and2 h
      obtain ⟨h2, r1⟩ := and2 r0
      obtain ⟨h3, r2⟩ := and2 r1
      obtain ⟨h4, r3⟩ := and2 r2
      obtain ⟨h5, r4⟩ := and2 r3
      obtain ⟨h6, h7⟩ := and2 r4
      have e := of_decide_eq_true h1
      subst e
      have e := of_decide_eq_true h3
      subst e
      exact both (s_isi C (by rw [hs]; exact h2) (by rw [hs]; exact h4) (of_decide_eq_true h5) h6 (sndE a C hs h7 (show wE Y.sg Y.ms a kd = true from hw)).1) rfl
    · cases h
  | .pix a b, X, sc, kd, e, C, hs, h, hw => by
    simp only [mE] at h
    split at h
    · obtain ⟨h1, h2⟩ := and2 h
      obtain ⟨h2, h3⟩ := and2 h2
      obtain ⟨w1, w2⟩ := and2 (show (wE Y.sg Y.ms a kd && wE Y.sg Y.ms b kd) = true from hw)
      exact both (s_pix C h1 (sndE a C hs h2 w1).1 (sndE b C hs h3 w2).1) rfl
    · cases h
  | .lsp a, X, sc, kd, e, C, hs, h, hw => by
    simp only [mE] at h
    split at h
    · obtain ⟨h1, r0⟩ := and2 h
      obtain ⟨h2, r1⟩ := and2 r0
      obtain ⟨h3, r2⟩ := and2 r1
      obtain ⟨h4, h5⟩ := and2 r2
      have e := of_decide_eq_true h1
      subst e
      exact both (s_lsp C (by rw [hs]; exact h2) h3 h4 (sndE a C hs h5 (show wE Y.sg Y.ms a kd = true from hw)).1) rfl
    · cases h
  | .srs a, X, sc, kd, e, C, hs, h, hw => by
    simp only [mE] at h
    split at h
    · obtain ⟨h1, r0⟩ := and2 h
      obtain ⟨h2, r1⟩ := and2 r0
      obtain ⟨h3, r2⟩ := and2 r1
      obtain ⟨h4, r3⟩ := and2 r2
      obtain ⟨h5, h6⟩ := and2 r3
      have e := of_decide_eq_true h1
      subst e
      have e := of_decide_eq_true h3
      subst e
      exact both (s_srs C (by rw [hs]; exact h2) (by rw [hs]; exact h4) h5 (sndE a C hs h6 (show wE Y.sg Y.ms a kd = true from hw)).1) rfl
    · cases h
  | .mth m o es, X, sc, kd, e, C, hs, h, hw => by
    simp only [mE] at h
    split at h
    · obtain ⟨h1, r0⟩ := and2 h
      obtain ⟨h2, r1⟩ := and2 r0
      obtain ⟨h3, r2⟩ := and2 r1
      obtain ⟨h4, r3⟩ := and2 r2
      obtain ⟨h5, h6⟩ := and2 r3
      have e := of_decide_eq_true h1
      subst e
      have e := of_decide_eq_true h2
      subst e
      obtain ⟨w1, w2⟩ := and2 (show (wE Y.sg Y.ms o kd && wEs Y.sg Y.ms es kd) = true from hw)
      cases es with
      | nil => exact both (s_upper C h3 (of_decide_eq_true h4) (sndE o C hs h5 w1).1) rfl
      | cons b r => simp only [mEs] at h6; cases h6
    · obtain ⟨h1, r0⟩ := and2 h
      obtain ⟨h2, r1⟩ := and2 r0
      obtain ⟨h3, r2⟩ := and2 r1
      obtain ⟨h4, h5⟩ := and2 r2
      have e := of_decide_eq_true h1
      subst e
      obtain ⟨w1, w2⟩ := and2 (show (wE Y.sg Y.ms o kd && wEs Y.sg Y.ms es kd) = true from hw)
      have ho := (sndE o C hs h4 w1).1
      cases es with
      | nil => simp only [mEs] at h5; cases h5
      | cons b r =>
        cases r with
        | cons b' r' =>
          simp only [mEs] at h5
          obtain ⟨_, r3⟩ := and2 h5
          obtain ⟨_, h7⟩ := and2 r3
          cases h7
        | nil =>
          simp only [mEs] at h5
          obtain ⟨p1, r3⟩ := and2 h5
          obtain ⟨p2, _⟩ := and2 r3
          obtain ⟨w3, _⟩ := and2 (show (wE Y.sg Y.ms b kd && wEs Y.sg Y.ms .nil kd) = true from w2)
          have hb := (sndE b C hs p2 w3).1
          cases m with
          | get => exact both (s_get C h2 (of_decide_eq_true h3) p1 ho hb) rfl
          | index => exact both (s_index C h2 (of_decide_eq_true h3) p1 ho hb) rfl
          | upper => exact mth_none1 fun da db => by cases da <;> rfl
          | getd => exact mth_none1 fun da db => by cases da <;> rfl
          | _ => exact mth_none fun da ds => rfl
    · obtain ⟨h1, r0⟩ := and2 h
      obtain ⟨h2, r1⟩ := and2 r0
      obtain ⟨h3, r2⟩ := and2 r1
      obtain ⟨h4, h5⟩ := and2 r2
      have e := of_decide_eq_true h1
      subst e
      obtain ⟨w1, w2⟩ := and2 (show (wE Y.sg Y.ms o kd && wEs Y.sg Y.ms es kd) = true from hw)
      have ho := (sndE o C hs h4 w1).1
      cases es with
      | nil => simp only [mEs] at h5; cases h5
      | cons b r =>
        simp only [mEs] at h5
        obtain ⟨p1, r3⟩ := and2 h5
        obtain ⟨p2, r4⟩ := and2 r3
        obtain ⟨w3, w4⟩ := and2 (show (wE Y.sg Y.ms b kd && wEs Y.sg Y.ms r kd) = true from w2)
        have hb := (sndE b C hs p2 w3).1
        cases r with
        | nil => simp only [mEs] at r4; cases r4
        | cons c r' =>
          simp only [mEs] at r4
          obtain ⟨p3, r5⟩ := and2 r4
          obtain ⟨p4, r6⟩ := and2 r5
          obtain ⟨w5, w6⟩ := and2 (show (wE Y.sg Y.ms c kd && wEs Y.sg Y.ms r' kd) = true from w4)
          have hc := (sndE c C hs p4 w5).1
          cases r' with
          | cons b' r'' => simp only [mEs] at r6; cases r6
          | nil =>
            cases m with
            | getd => exact both (s_getd C h2 (of_decide_eq_true h3) p1 p3 ho hb hc) rfl
            | get => exact mth_none2 fun da db dc => by cases da <;> rfl
            | index => exact mth_none2 fun da db dc => by cases da <;> rfl
            | upper => exact mth_none2 fun da db dc => by cases da <;> rfl
            | _ => exact mth_none fun da ds => rfl
    · cases h
  | .omt m o es, X, sc, kd, e, C, hs, h, hw => by
    simp only [mE] at h
    split at h
    · obtain ⟨h1, r0⟩ := and2 h
      obtain ⟨h2, r1⟩ := and2 r0
      obtain ⟨h3, r2⟩ := and2 r1
      obtain ⟨h4, r3⟩ := and2 r2
      obtain ⟨h5, h6⟩ := and2 r3
      obtain ⟨w1, r4⟩ := and2 (show (argB Y.sg Y.ms kd (Y.ms m).ps es && (wE Y.sg Y.ms o kd && wEs Y.sg Y.ms es kd)) = true from hw)
      obtain ⟨w2, w3⟩ := and2 r4
      exact both (s_omt C (of_decide_eq_true h1) h2 (of_decide_eq_true h3) (of_decide_eq_true h4) (mEs_plain h6) w1 (sndE o C hs h5 w2).1 (sndEs es C hs h6 w3)) rfl
    · cases h
  | .mk c, X, sc, kd, e, C, hs, h, hw => by
    simp only [mE] at h
    split at h
    · obtain ⟨h1, r0⟩ := and2 h
      obtain ⟨h2, h3⟩ := and2 r0
      exact both (s_mk C (of_decide_eq_true h1) (by rw [hs]; exact h2) h3) rfl
    · cases h
  | .dsp es, X, sc, kd, e, C, hs, h, hw => by
    simp only [mE] at h
    split at h
    · obtain ⟨h1, r0⟩ := and2 h
      obtain ⟨h2, h3⟩ := and2 r0
      obtain ⟨w1, w2⟩ := and2 (show (all0 Y.sg Y.ms es kd && wEs Y.sg Y.ms es kd) = true from hw)
      obtain ⟨g1, g2⟩ := sndPs es C hs h3 w2
      exact both (s_dsp g2 g1 (of_decide_eq_true h1) (by simp) (of_decide_eq_true h2) w1) rfl
    · cases h
  | .dsl k v, X, sc, kd, e, C, hs, h, hw => by
    simp only [mE] at h
    split at h
    · obtain ⟨h1, h2⟩ := and2 h
      obtain ⟨w1, w2⟩ := and2 (show (wE Y.sg Y.ms k kd && wE Y.sg Y.ms v kd) = true from hw)
      exact both (s_dsl (pps_cons (sndE k C hs h1 w1).1 (sndE v C hs h2 w2).1 pps_nil)) rfl
    · cases h
  | .lrg a, X, sc, kd, e, C, hs, h, hw => by
    simp only [mE] at h
    split at h
    · obtain ⟨h1, r0⟩ := and2 h
      obtain ⟨h2, r1⟩ := and2 r0
      obtain ⟨h3, r2⟩ := and2 r1
      obtain ⟨h4, r3⟩ := and2 r2
      obtain ⟨h5, h6⟩ := and2 r3
      have e := of_decide_eq_true h1
      subst e
      have e := of_decide_eq_true h3
      subst e
      exact both (s_lrg C (by rw [hs]; exact h2) (by rw [hs]; exact h4) h5 (sndE a C hs h6 (show wE Y.sg Y.ms a kd = true from hw)).1) rfl
    · cases h
  | .dct ks vs, X, sc, kd, e, C, hs, h, hw => by
    simp only [mE] at h
    split at h
    · exact both s_dct0 rfl
    · cases h
theorem sndPs : ∀ (es : IEs) {X : Cx} {sc : Scope} {kd : Nat → Nat} {ks : List (Option Expr)} {vs : List Expr} {p : Pos}, Ctx Y N X → X.env.scope = sc → mPs Y N es sc ks vs = true → wEs Y.sg Y.ms es kd = true → ks.all (·.isSome) = true ∧ PPs X p ks vs (trsOf Y (gc Y X) kd es)
  | .nil, X, sc, kd, ks, vs, p, C, hs, h, hw => by
    simp only [mPs] at h
    cases ks with
    | cons k ks => cases h
    | nil =>
      cases vs with
      | cons v vs => cases h
      | nil => exact ⟨rfl, pps_nil⟩
  | .cons k .nil, X, sc, kd, ks, vs, p, C, hs, h, hw => by
    simp only [mPs] at h
    cases h
  | .cons k (.cons v r), X, sc, kd, ks, vs, p, C, hs, h, hw => by
    simp only [mPs] at h
    split at h
    · obtain ⟨h1, r0⟩ := and2 h
      obtain ⟨h2, h3⟩ := and2 r0
      obtain ⟨w1, r1⟩ := and2 (show (wE Y.sg Y.ms k kd && (wE Y.sg Y.ms v kd && wEs Y.sg Y.ms r kd)) = true from hw)
      obtain ⟨w2, w3⟩ := and2 r1
      obtain ⟨g1, g2⟩ := sndPs r (p := p) C hs h3 w3
      exact ⟨by rw [List.all_cons, g1]; rfl, pps_cons (sndE k C hs h1 w1).1 (sndE v C hs h2 w2).1 g2⟩
    · cases h
theorem sndEs : ∀ (es : IEs) {X : Cx} {sc : Scope} {kd : Nat → Nat} {xs : List Expr}, Ctx Y N X → X.env.scope = sc → mEs Y N es sc xs = true → wEs Y.sg Y.ms es kd = true → PA X xs (tEs Y (gc Y X) kd es)
  | .nil, X, sc, kd, xs, C, hs, h, hw => by
    simp only [mEs] at h
    cases xs with
    | nil => exact s_nil
    | cons x xs => cases h
  | .cons e es, X, sc, kd, xs, C, hs, h, hw => by
    simp only [mEs] at h
    split at h
    · obtain ⟨h1, r0⟩ := and2 h
      obtain ⟨h2, h3⟩ := and2 r0
      obtain ⟨w1, w2⟩ := and2 (show (wE Y.sg Y.ms e kd && wEs Y.sg Y.ms es kd) = true from hw)
      exact s_cons h1 (sndE e C hs h2 w1).1 (sndEs es C hs h3 w2)
    · cases h
theorem sndO : ∀ (o : IEo) {X : Cx} {sc : Scope} {kd : Nat → Nat} {x : Option Expr}, Ctx Y N X → X.env.scope = sc → mO Y N o sc x = true → wO Y.sg Y.ms o kd = true → PO X x (tPt Y (gc Y X) kd o)
  | .no, X, sc, kd, x, C, hs, h, hw => by
    simp only [mO] at h
    cases x with
    | none => exact p_no
    | some y => cases h
  | .so e, X, sc, kd, x, C, hs, h, hw => by
    simp only [mO] at h
    split at h
    · exact p_so (sndE e C hs h (show wE Y.sg Y.ms e kd = true from hw)).1
    · cases h
theorem sndC : ∀ (o : IEo) {X : Cx} {sc : Scope} {kd : Nat → Nat} {xs : List Expr}, Ctx Y N X → X.env.scope = sc → mC Y N o sc xs = true → wO Y.sg Y.ms o kd = true → PTs X xs (tIf Y (gc Y X) kd o)
  | .no, X, sc, kd, xs, C, hs, h, hw => by
    simp only [mC] at h
    cases xs with
    | nil =>
      exact ⟨fun pins s σ H Q I h => by
        obtain ⟨sg, Fs, k, rl, h1, q⟩ := h
        cases h1
        exact pts_nil.run pins s σ H Q I (q H (Same.refl H))⟩
    | cons y ys => cases h
  | .so e, X, sc, kd, xs, C, hs, h, hw => by
    simp only [mC] at h
    split at h
    · obtain ⟨h1, h2⟩ := and2 h
      have ih := (sndE e C hs h2 (show wE Y.sg Y.ms e kd = true from hw)).2 h1
      exact ⟨fun pins s σ H Q I h => by
        obtain ⟨sg, Fs, k, rl, h1, q⟩ := h
        obtain ⟨d, ed, h2⟩ := bind_ok (show (evE Y.Φ Y.M e sg).bind _ = _ from h1)
        exact (pts_one ih).run pins s σ H Q I ⟨sg, Fs, d, k, rl, ed, h2, q⟩⟩
    · cases h
theorem sndI : ∀ (it : II) {X : Cx} {sc : Scope} {kd : Nat → Nat} {t x : Expr}, Ctx Y N X → X.env.scope = sc → mI Y N it sc t x = true → wI Y.sg Y.ms it kd = true → PI X t x (tIt Y (gc Y X) kd it)
  | .el e, X, sc, kd, t, x, C, hs, h, hw => by
    simp only [mI] at h
    exact i_el (sndE e C hs h (show wE Y.sg Y.ms e kd = true from hw)).1
  | .rg1 a, X, sc, kd, t, x, C, hs, h, hw => by
    simp only [mI] at h
    split at h
    · obtain ⟨h1, r0⟩ := and2 h
      obtain ⟨h2, r1⟩ := and2 r0
      obtain ⟨h3, h4⟩ := and2 r1
      have e := of_decide_eq_true h1
      subst e
      exact i_rg1 C (by rw [hs]; exact h2) h3 (sndE a C hs h4 (show wE Y.sg Y.ms a kd = true from hw)).1
    · cases h
  | .rg2 a b, X, sc, kd, t, x, C, hs, h, hw => by
    simp only [mI] at h
    split at h
    · obtain ⟨h1, r0⟩ := and2 h
      obtain ⟨h2, r1⟩ := and2 r0
      obtain ⟨h3, r2⟩ := and2 r1
      obtain ⟨h4, r3⟩ := and2 r2
      obtain ⟨h5, h6⟩ := and2 r3
      have e := of_decide_eq_true h1
      subst e
      obtain ⟨w1, w2⟩ := and2 (show (wE Y.sg Y.ms a kd && wE Y.sg Y.ms b kd) = true from hw)
      exact i_rg2 C (by rw [hs]; exact h2) h3 h4 (sndE a C hs h5 w1).1 (sndE b C hs h6 w2).1
    · cases h
  | .enu a, X, sc, kd, t, x, C, hs, h, hw => by
    simp only [mI] at h
    split at h
    · obtain ⟨h0, r0⟩ := and2 h
      obtain ⟨h1, r1⟩ := and2 r0
      obtain ⟨h2, r2⟩ := and2 r1
      obtain ⟨h3, h4⟩ := and2 r2
      have e := of_decide_eq_true h1
      subst e
      cases t with
      | Tuple es k p => exact i_enu C (by rw [hs]; exact h2) h3 (sndE a C hs h4 (show wE Y.sg Y.ms a kd = true from hw)).1
      | _ => cases h0
    · cases h
  | .zip a b, X, sc, kd, t, x, C, hs, h, hw => by
    simp only [mI] at h
    split at h
    · obtain ⟨h0, r0⟩ := and2 h
      obtain ⟨h1, r1⟩ := and2 r0
      obtain ⟨h2, r2⟩ := and2 r1
      obtain ⟨h3, r3⟩ := and2 r2
      obtain ⟨h4, r4⟩ := and2 r3
      obtain ⟨h5, h6⟩ := and2 r4
      have e := of_decide_eq_true h1
      subst e
      obtain ⟨w1, w2⟩ := and2 (show (wE Y.sg Y.ms a kd && wE Y.sg Y.ms b kd) = true from hw)
      cases t with
      | Tuple es k p => exact i_zip C (by rw [hs]; exact h2) h3 h4 (sndE a C hs h5 w1).1 (sndE b C hs h6 w2).1
      | _ => cases h0
    · cases h
  | .rvs a, X, sc, kd, t, x, C, hs, h, hw => by
    simp only [mI] at h
    split at h
    · obtain ⟨h1, r0⟩ := and2 h
      obtain ⟨h2, r1⟩ := and2 r0
      obtain ⟨h3, h4⟩ := and2 r1
      have e := of_decide_eq_true h1
      subst e
      exact i_rvs C (by rw [hs]; exact h2) h3 (sndE a C hs h4 (show wE Y.sg Y.ms a kd = true from hw)).1
    · cases h
  | .rg3 a b c, X, sc, kd, t, x, C, hs, h, hw => by
    simp only [mI] at h
    split at h
    · obtain ⟨h1, r0⟩ := and2 h
      obtain ⟨h2, r1⟩ := and2 r0
      obtain ⟨h3, r2⟩ := and2 r1
      obtain ⟨h4, r3⟩ := and2 r2
      obtain ⟨h5, r4⟩ := and2 r3
      obtain ⟨h6, r5⟩ := and2 r4
      obtain ⟨h7, h8⟩ := and2 r5
      have e := of_decide_eq_true h1
      subst e
      obtain ⟨w1, r6⟩ := and2 (show (wE Y.sg Y.ms a kd && (wE Y.sg Y.ms b kd && wE Y.sg Y.ms c kd)) = true from hw)
      obtain ⟨w2, w3⟩ := and2 r6
      exact i_rg3 C (by rw [hs]; exact h2) h3 h4 h5 (sndE a C hs h6 w1).1 (sndE b C hs h7 w2).1 (sndE c C hs h8 w3).1
    · cases h
  | .itms a, X, sc, kd, t, x, C, hs, h, hw => by
    simp only [mI] at h
    split at h
    · obtain ⟨h0, r0⟩ := and2 h
      obtain ⟨h1, r1⟩ := and2 r0
      obtain ⟨h2, r2⟩ := and2 r1
      obtain ⟨h3, h4⟩ := and2 r2
      have e := of_decide_eq_true h1
      subst e
      cases t with
      | Tuple es k p => exact i_itms h2 (of_decide_eq_true h3) (sndE a C hs h4 (show wE Y.sg Y.ms a kd = true from hw)).1
      | _ => cases h0
    · cases h
end
end
end Ev

/-! Part D1: who may be written: the slots' lists, kept apart. -/
namespace Ev
open PySem PySem.Spec PyProof.Rows L2
/-- the world of a def's run, or of a loop's: P stays as in H0, B may come back, Hb: the heap at the call -/
structure Wd where
  P : Addr → Prop
  B : Addr → Prop
  Hb : Hp
  H0 : Hp
  s0 : Sg
  F0 : Nat → List Addr
structure WW (w : Wd) : Prop where
  sb : Same w.Hb w.H0
  pb : ∀ a o, w.Hb a = some o → w.P a
  pt : ∀ a, w.P a → ∃ o, w.H0 a = some o
  fB : ∀ a, w.Hb a = none → w.B a
/-- what is a slot's alone (m: 0, 1 all; 2 the outermost list; 3 nothing) -/
def Us (m : Nat) (d : Option (Option D)) (F : List Addr) : List Addr :=
  if m ≤ 1 then F else if m = 2 then (match d with
    | some (some d) => if d.isL then F.take 1 else []
    | _ => []) else []
theorem Us_sub {m : Nat} {d : Option (Option D)} {F : List Addr} {a : Addr} (h : a ∈ Us m d F) : a ∈ F := by
  unfold Us at h
  split at h
  · exact h
  · split at h
    · split at h
      · split at h
        · exact List.mem_of_mem_take h
        · exact nomatch h
      · exact nomatch h
    · exact nomatch h
theorem Us_three {m : Nat} {d : Option (Option D)} {F : List Addr} (h : 3 ≤ m) : Us m d F = [] := by
  unfold Us
  rw [if_neg (by omega), if_neg (by omega)]
theorem Us_nil {m : Nat} {d : Option (Option D)} {a : Addr} (h : a ∈ Us m d []) : False := nomatch Us_sub h
theorem Us_one {m : Nat} {d : Option (Option D)} {F : List Addr} (h : m ≤ 1) : Us m d F = F := by
  unfold Us
  rw [if_pos h]
theorem Us_two {d : Option (Option D)} {F : List Addr} {a : Addr} (h : a ∈ Us 2 d F) : ∃ d', d = some (some d') ∧ d'.isL = true ∧ a ∈ F.take 1 := by
  unfold Us at h
  rw [if_neg (by omega), if_pos rfl] at h
  split at h
  · split at h
    · rename_i h1
      exact ⟨_, rfl, h1, h⟩
    · exact nomatch h
  · exact nomatch h
theorem Us_mono {m n : Nat} {d : Option (Option D)} {F : List Addr} {a : Addr} (h : m ≤ n) (ha : a ∈ Us n d F) : a ∈ Us m d F := by
  by_cases h1 : m ≤ 1
  · rw [Us_one h1]
    exact Us_sub ha
  · by_cases h2 : 3 ≤ n
    · rw [Us_three h2] at ha
      exact nomatch ha
    · have e : m = n := by omega
      rw [e]
      exact ha
structure FI (G : GC) (kd md : Nat → Nat) (fz : List Nat) (w : Wd) (σ : Sg) (σc : L2.St) (H : Hp) (Fs : Nat → List Addr) : Prop where
  rel : RelE G kd σ σc H Fs
  nd : ∀ i, md i ≤ 1 → (Fs i).Nodup
  top : ∀ (i : Nat) d, σ[i]? = some (some d) → md i ≤ 2 → d.isL = true → ∀ a F', Fs i = a :: F' → a ∉ F'
  dj : ∀ i j, i ≠ j → ∀ a ∈ Us (md i) σ[i]? (Fs i), a ∉ Fs j
  pr : ∀ i, i ∉ fz → ∀ a ∈ Us (md i) σ[i]? (Fs i), ¬ w.P a
  bd : ∀ i, ∀ a ∈ Fs i, w.B a
  pin : ∀ i ∈ fz, σ[i]? = w.s0[i]? ∧ Fs i = w.F0 i
  imm : Imm w.H0 H
  kp : ∀ a, w.P a → H a = w.H0 a
  ww : WW w
section
variable {G : GC} {kd md : Nat → Nat} {fz : List Nat} {w : Wd} {σ : Sg} {σc : L2.St} {H H' : Hp} {Fs : Nat → List Addr}
theorem FI.pH (f : FI G kd md fz w σ σc H Fs) {a : Addr} (h : w.P a) : ∃ o, H a = some o := by
  rw [f.kp a h]
  exact f.ww.pt a h
theorem FI.sb (f : FI G kd md fz w σ σc H Fs) : Same w.Hb H := fun a o e => by
  rw [f.kp a (f.ww.pb a o e)]
  exact f.ww.sb a o e
theorem FI.fb (f : FI G kd md fz w σ σc H Fs) {a : Addr} (e : H a = none) : w.B a := f.ww.fB a (f.sb.free e)
theorem FI.same (f : FI G kd md fz w σ σc H Fs) (s : Same H H') : FI G kd md fz w σ σc H' Fs :=
  ⟨f.rel.same s, f.nd, f.top, f.dj, f.pr, f.bd, f.pin, f.imm.trans (same_imm s), fun a h => by
    obtain ⟨o, e⟩ := f.pH h
    rw [s a o e, ← e]
    exact f.kp a h, f.ww⟩
/-- what of al's slots is nobody's alone (but xs's, that go) -/
def alB (md : Nat → Nat) (xs : List Nat) (al : Al) : Bool := al.1.all (fun k => decide (3 ≤ md k) || xs.contains k) && al.2.all (fun k => decide (2 ≤ md k) || xs.contains k)
theorem FI.sep (f : FI G kd md fz w σ σc H Fs) {xs : List Nat} {al : Al} (hb : alB md xs al = true) {j : Nat} (hj : j ∉ xs) {a : Addr} (ha : a ∈ Us (md j) σ[j]? (Fs j)) (h : InAl σ Fs al a) : False := by
  unfold alB at hb
  rw [Bool.and_eq_true, List.all_eq_true, List.all_eq_true] at hb
  rcases h with ⟨k, hk, h⟩ | ⟨k, hk, h⟩
  · by_cases e : j = k
    · subst e
      have := hb.1 j hk
      rw [Bool.or_eq_true] at this
      rcases this with z | z
      · rw [Us_three (of_decide_eq_true z)] at ha
        exact nomatch ha
      · exact hj (by simpa using z)
    · exact f.dj j k e a ha h
  · by_cases e : j = k
    · subst e
      have := hb.2 j hk
      rw [Bool.or_eq_true] at this
      rcases this with z | z
      · have z := of_decide_eq_true z
        by_cases h3 : 3 ≤ md j
        · rw [Us_three h3] at ha
          exact nomatch ha
        · have e2 : md j = 2 := by omega
          rw [e2] at ha
          obtain ⟨d, e1, hl, ht⟩ := Us_two ha
          unfold inn at h
          rw [e1] at h
          have h : a ∈ innF d (Fs j) := h
          unfold innF at h
          rw [if_pos hl] at h
          cases q : Fs j with
          | nil =>
            rw [q] at h
            exact nomatch h
          | cons b F' =>
            rw [q] at h ht
            have ht := List.mem_singleton.mp ht
            subst ht
            exact f.top j d e1 (by omega) hl _ _ q h
      · exact hj (by simpa using z)
    · refine f.dj j k e a ha ?_
      unfold inn at h
      split at h
      · exact innF_sub h
      · exact h
theorem inAl_fs {al : Al} {a : Addr} (h : InAl σ Fs al a) : ∃ k, a ∈ Fs k := by
  rcases h with ⟨k, _, h⟩ | ⟨k, _, h⟩
  · exact ⟨k, h⟩
  · refine ⟨k, ?_⟩
    unfold inn at h
    split at h
    · exact innF_sub h
    · exact h
theorem FI.bal (f : FI G kd md fz w σ σc H Fs) {al : Al} {a : Addr} (h : H a = none ∨ InAl σ Fs al a) : w.B a := by
  rcases h with h | h
  · exact f.fb h
  · obtain ⟨k, h⟩ := inAl_fs h
    exact f.bd k a h
theorem set_some {i j : Nat} {d d' : D} (h : (σ.set i (some d))[j]? = some (some d')) : (i = j ∧ d' = d) ∨ (i ≠ j ∧ σ[j]? = some (some d')) := by
  by_cases e : i = j
  · subst e
    by_cases l : i < σ.length
    · rw [List.getElem?_set_self l] at h
      cases h
      exact .inl ⟨rfl, rfl⟩
    · rw [List.getElem?_eq_none (by rw [List.length_set]; omega)] at h
      cases h
  · rw [List.getElem?_set_ne e] at h
    exact .inr ⟨e, h⟩
theorem fsT_ne {i j : Nat} {F : List Addr} (h : j ≠ i) : fsT Fs i F j = Fs j := by
  unfold fsT
  rw [if_neg h]
theorem fsT_self {i : Nat} {F : List Addr} : fsT Fs i F i = F := by
  unfold fsT
  rw [if_pos rfl]
/-- a value stored -/
theorem FI.asg (f : FI G kd md fz w σ σc H Fs) {i fr : Nat} {v : V} {d : D} {F : List Addr} {al : Al} (s : Same H H') (rv : Rep G H' v d F) (ty : TyOk (kd i) d) (fo : FrOk fr H v d F) (ha : ∀ a ∈ F, H a = none ∨ InAl σ Fs al a)
    (hi : i ∉ fz) (hm : 3 ≤ md i ∨ fr ≤ md i) (hb : alB md [i] al = true) : FI G kd md fz w (σ.set i (some d)) (σc.set i (some v)) H' (fsT Fs i F) := by
  have f' := f.same s
  have trk : ∀ k, ∀ a ∈ Fs k, H a ≠ none := fun k a h e => by
    obtain ⟨o, q⟩ := f.rel.tr k a h
    rw [q] at e
    cases e
  have fresh : ∀ a ∈ Us (md i) (σ.set i (some d))[i]? F, H a = none := fun a h => by
    rcases hm with hm | hm
    · rw [Us_three hm] at h
      exact nomatch h
    · by_cases h1 : md i ≤ 1
      · exact (fo.1 (by omega)).2 a (Us_sub h)
      · by_cases h3 : 3 ≤ md i
        · rw [Us_three h3] at h
          exact nomatch h
        · have e2 : md i = 2 := by omega
          rw [e2] at h
          obtain ⟨d', e1, hl, ht⟩ := Us_two h
          rcases set_some e1 with ⟨_, rfl⟩ | ⟨z, _⟩
          · obtain ⟨b, F', _, rfl, hn, _⟩ := fo.2 (by omega) hl
            have ht := List.mem_singleton.mp ht
            subst ht
            exact hn
          · exact absurd rfl z
  refine ⟨f'.rel.set rv ty, fun j hj => ?_, fun j d' hd hj hl a F' e => ?_, fun j k hjk a ha' => ?_, fun j hj a ha' => ?_, fun j a ha' => ?_, fun j hj => ?_, f'.imm, f'.kp, f.ww⟩
  · by_cases e : j = i
    · subst e
      rw [fsT_self]
      rcases hm with hm | hm
      · omega
      · exact (fo.1 (by omega)).1
    · rw [fsT_ne e]
      exact f.nd j hj
  · rcases set_some hd with ⟨rfl, rfl⟩ | ⟨z, hd⟩
    · rw [fsT_self] at e
      rcases hm with hm | hm
      · omega
      · obtain ⟨b, F2, _, e2, _, hn⟩ := fo.2 (by omega) hl
        rw [e2] at e
        cases e
        exact hn
    · rw [fsT_ne (Ne.symm z)] at e
      exact f.top j d' hd hj hl a F' e
  · by_cases e : j = i
    · subst e
      rw [fsT_self] at ha'
      have := fresh a ha'
      rw [fsT_ne (Ne.symm hjk)]
      exact fun z => trk k a z this
    · rw [fsT_ne e, List.getElem?_set_ne (Ne.symm e)] at ha'
      by_cases e2 : k = i
      · subst e2
        rw [fsT_self]
        intro z
        rcases ha a z with q | q
        · exact trk j a (Us_sub ha') q
        · exact f.sep hb (fun z => e (List.mem_singleton.mp z)) ha' q
      · rw [fsT_ne e2]
        exact f.dj j k hjk a ha'
  · by_cases e : j = i
    · subst e
      rw [fsT_self] at ha'
      have := fresh a ha'
      intro hp
      obtain ⟨o, q⟩ := f.pH hp
      rw [q] at this
      cases this
    · rw [fsT_ne e, List.getElem?_set_ne (Ne.symm e)] at ha'
      exact f.pr j hj a ha'
  · by_cases e : j = i
    · subst e
      rw [fsT_self] at ha'
      exact f.bal (ha a ha')
    · rw [fsT_ne e] at ha'
      exact f.bd j a ha'
  · have e : j ≠ i := fun z => hi (z ▸ hj)
    rw [fsT_ne e, List.getElem?_set_ne (Ne.symm e)]
    exact f.pin j hj
/-- slots forgotten -/
theorem FI.drop (f : FI G kd md fz w σ σc H Fs) {σ' : Sg} {ts : List Nat} (hts : ∀ k ∈ ts, k ∉ fz) (h1 : ∀ k : Nat, k ∉ ts → σ'[k]? = σ[k]?) (h2 : ∀ k : Nat, k ∈ ts → ∀ d, σ'[k]? ≠ some (some d)) (hl : σ'.length = σ.length) : FI G kd md fz w σ' σc H (fsW Fs ts) := by
  have o1 : ∀ k, k ∉ ts → fsW Fs ts k = Fs k := fun k h => by
    unfold fsW
    rw [if_neg h]
  have o2 : ∀ k, k ∈ ts → fsW Fs ts k = [] := fun k h => by
    unfold fsW
    rw [if_pos h]
  refine ⟨⟨fun k d e => ?_, fun k d e => ?_, by rw [f.rel.len, hl], fun k a ha => ?_⟩, fun k hk => ?_, fun k d e hk hL a F' e' => ?_, fun j k hjk a ha => ?_, fun k hk a ha => ?_, fun k a ha => ?_, fun k hk => ?_, f.imm, f.kp, f.ww⟩
  · by_cases m : k ∈ ts
    · exact absurd e (h2 k m d)
    · rw [h1 k m] at e
      rw [o1 k m]
      exact f.rel.rep k d e
  · by_cases m : k ∈ ts
    · exact absurd e (h2 k m d)
    · rw [h1 k m] at e
      exact f.rel.ty k d e
  · by_cases m : k ∈ ts
    · rw [o2 k m] at ha
      exact nomatch ha
    · rw [o1 k m] at ha
      exact f.rel.tr k a ha
  · by_cases m : k ∈ ts
    · rw [o2 k m]
      exact List.nodup_nil
    · rw [o1 k m]
      exact f.nd k hk
  · by_cases m : k ∈ ts
    · exact absurd e (h2 k m d)
    · rw [h1 k m] at e
      rw [o1 k m] at e'
      exact f.top k d e hk hL a F' e'
  · by_cases m : j ∈ ts
    · rw [o2 j m] at ha
      exact (Us_nil ha).elim
    · rw [o1 j m, h1 j m] at ha
      by_cases m2 : k ∈ ts
      · rw [o2 k m2]
        exact fun z => nomatch z
      · rw [o1 k m2]
        exact f.dj j k hjk a ha
  · by_cases m : k ∈ ts
    · rw [o2 k m] at ha
      exact (Us_nil ha).elim
    · rw [o1 k m, h1 k m] at ha
      exact f.pr k hk a ha
  · by_cases m : k ∈ ts
    · rw [o2 k m] at ha
      exact nomatch ha
    · rw [o1 k m] at ha
      exact f.bd k a ha
  · have m : k ∉ ts := fun z => hts k z hk
    rw [o1 k m, h1 k m]
    exact f.pin k hk
/-- slots bound to a walked item, or to a tuple's -/
theorem FI.bind (f : FI G kd md fz w σ σc H Fs) {σ' : Sg} {σc' : L2.St} {Fs' : Nat → List Addr} {ts : List Nat} {F : List Addr} (s : Same H H') (rl : RelE G kd σ' σc' H' Fs') (bd : Bd σ σ' Fs Fs' ts F) (hts : ∀ k ∈ ts, k ∉ fz) (hm : F = [] ∨ ∀ k ∈ ts, 3 ≤ md k)
    (hs : ∀ j, j ∉ ts → ∀ a ∈ Us (md j) σ[j]? (Fs j), a ∉ F) (hB : ∀ a ∈ F, w.B a) : FI G kd md fz w σ' σc' H' Fs' := by
  have f' := f.same s
  have em : ∀ k ∈ ts, 3 ≤ md k ∨ Fs' k = [] := fun k hk => by
    rcases hm with hm | hm
    · right
      cases q : Fs' k with
      | nil => rfl
      | cons a r =>
        have := bd.fin k hk a (by rw [q]; exact List.mem_cons_self ..)
        rw [hm] at this
        exact nomatch this
    · exact .inl (hm k hk)
  have emU : ∀ k ∈ ts, ∀ a, a ∉ Us (md k) σ'[k]? (Fs' k) := fun k hk a ha => by
    rcases em k hk with z | z
    · rw [Us_three z] at ha
      exact nomatch ha
    · rw [z] at ha
      exact Us_nil ha
  refine ⟨rl, fun k hk => ?_, fun k d e hk hL a F' e' => ?_, fun j k hjk a ha => ?_, fun k hk a ha => ?_, fun k a ha => ?_, fun k hk => ?_, f'.imm, f'.kp, f.ww⟩
  · by_cases m : k ∈ ts
    · rcases em k m with z | z
      · omega
      · rw [z]
        exact List.nodup_nil
    · rw [bd.fout k m]
      exact f.nd k hk
  · by_cases m : k ∈ ts
    · rcases em k m with z | z
      · omega
      · rw [z] at e'
        cases e'
    · rw [bd.sout k m] at e
      rw [bd.fout k m] at e'
      exact f.top k d e hk hL a F' e'
  · by_cases m : j ∈ ts
    · exact (emU j m a ha).elim
    · rw [bd.fout j m, bd.sout j m] at ha
      by_cases m2 : k ∈ ts
      · exact fun z => hs j m a ha (bd.fin k m2 a z)
      · rw [bd.fout k m2]
        exact f.dj j k hjk a ha
  · by_cases m : k ∈ ts
    · exact (emU k m a ha).elim
    · rw [bd.fout k m, bd.sout k m] at ha
      exact f.pr k hk a ha
  · by_cases m : k ∈ ts
    · exact hB a (bd.fin k m a ha)
    · rw [bd.fout k m] at ha
      exact f.bd k a ha
  · have m : k ∉ ts := fun z => hts k z hk
    rw [bd.fout k m, bd.sout k m]
    exact f.pin k hk
/-- one slot's thing taken over by another -/
theorem FI.mov (f : FI G kd md fz w σ σc H Fs) {i j : Nat} {d : D} {v : V} (hd : σ[j]? = some (some d)) (hv : σc[j]? = some (some v)) (hi : i ∉ fz) (hj : j ∉ fz) (hij : i ≠ j) (hk : kd j ≤ kd i) (hm : md j ≤ md i) :
    FI G kd md fz w ((σ.set i (some d)).set j none) (σc.set i (some v)) H (fsT (fsT Fs j []) i (Fs j)) := by
  have rv : Rep G H v d (Fs j) := by
    obtain ⟨u, e1, e2⟩ := f.rel.rep j d hd
    rw [hv] at e1
    cases e1
    exact e2
  have gs : ∀ k : Nat, k ≠ i → k ≠ j → ((σ.set i (some d)).set j none)[k]? = σ[k]? := fun k h1 h2 => by
    rw [List.getElem?_set_ne (Ne.symm h2), List.getElem?_set_ne (Ne.symm h1)]
  have gi : ∀ d', ((σ.set i (some d)).set j none)[i]? = some (some d') → d' = d := fun d' e => by
    rw [List.getElem?_set_ne (Ne.symm hij)] at e
    rcases set_some e with ⟨_, h⟩ | ⟨h, _⟩
    · exact h
    · exact absurd rfl h
  have gj : ∀ d', ((σ.set i (some d)).set j none)[j]? ≠ some (some d') := fun d' e => by
    by_cases l : j < (σ.set i (some d)).length
    · rw [List.getElem?_set_self l] at e
      cases e
    · rw [List.getElem?_eq_none (by rw [List.length_set]; omega)] at e
      cases e
  have Fi : fsT (fsT Fs j []) i (Fs j) i = Fs j := fsT_self
  have Fj : fsT (fsT Fs j []) i (Fs j) j = [] := by rw [fsT_ne (Ne.symm hij), fsT_self]
  have Fk : ∀ k, k ≠ i → k ≠ j → fsT (fsT Fs j []) i (Fs j) k = Fs k := fun k h1 h2 => by rw [fsT_ne h1, fsT_ne h2]
  have Ui : ∀ a, a ∈ Us (md i) ((σ.set i (some d)).set j none)[i]? (Fs j) → a ∈ Us (md j) σ[j]? (Fs j) := fun a ha => by
    refine Us_mono hm ?_
    by_cases h2 : md i = 2
    · rw [h2] at ha ⊢
      obtain ⟨d', e1, hl, ht⟩ := Us_two ha
      have e := gi d' e1
      subst e
      unfold Us
      rw [if_neg (by omega), if_pos rfl, hd]
      show a ∈ if d'.isL then _ else _
      rw [if_pos hl]
      exact ht
    · by_cases h1 : md i ≤ 1
      · rw [Us_one h1] at ha ⊢
        exact ha
      · rw [Us_three (by omega)] at ha
        exact nomatch ha
  refine ⟨⟨fun k d' e => ?_, fun k d' e => ?_, by rw [List.length_set, List.length_set, List.length_set, f.rel.len], fun k a ha => ?_⟩, fun k hk' => ?_, fun k d' e hk' hL a F' e' => ?_, fun x y hxy a ha => ?_, fun k hk' a ha => ?_, fun k a ha => ?_, fun k hk' => ?_, f.imm, f.kp, f.ww⟩
  · by_cases h1 : k = i
    · subst h1
      have e2 := gi d' e
      subst e2
      rw [Fi]
      have l : k < σ.length := by
        rw [List.getElem?_set_ne (Ne.symm hij)] at e
        have := (List.getElem?_eq_some_iff.mp e).1
        rwa [List.length_set] at this
      exact ⟨v, List.getElem?_set_self (by rw [f.rel.len]; exact l), rv⟩
    · by_cases h2 : k = j
      · subst h2
        exact absurd e (gj d')
      · rw [gs k h1 h2] at e
        rw [Fk k h1 h2, List.getElem?_set_ne (Ne.symm h1)]
        exact f.rel.rep k d' e
  · by_cases h1 : k = i
    · subst h1
      have e2 := gi d' e
      subst e2
      exact TyOk.mono hk (f.rel.ty j d' hd)
    · by_cases h2 : k = j
      · subst h2
        exact absurd e (gj d')
      · rw [gs k h1 h2] at e
        exact f.rel.ty k d' e
  · by_cases h1 : k = i
    · subst h1
      rw [Fi] at ha
      exact f.rel.tr j a ha
    · by_cases h2 : k = j
      · subst h2
        rw [Fj] at ha
        exact nomatch ha
      · rw [Fk k h1 h2] at ha
        exact f.rel.tr k a ha
  · by_cases h1 : k = i
    · subst h1
      rw [Fi]
      exact f.nd j (by omega)
    · by_cases h2 : k = j
      · subst h2
        rw [Fj]
        exact List.nodup_nil
      · rw [Fk k h1 h2]
        exact f.nd k hk'
  · by_cases h1 : k = i
    · subst h1
      have e2 := gi d' e
      subst e2
      rw [Fi] at e'
      exact f.top j d' hd (by omega) hL a F' e'
    · by_cases h2 : k = j
      · subst h2
        exact absurd e (gj d')
      · rw [gs k h1 h2] at e
        rw [Fk k h1 h2] at e'
        exact f.top k d' e hk' hL a F' e'
  · by_cases x1 : x = i
    · subst x1
      rw [Fi] at ha
      have ha := Ui a ha
      by_cases y2 : y = j
      · subst y2
        rw [Fj]
        exact fun z => nomatch z
      · rw [Fk y (Ne.symm hxy) y2]
        exact f.dj j y (Ne.symm y2) a ha
    · by_cases x2 : x = j
      · subst x2
        rw [Fj] at ha
        exact (Us_nil ha).elim
      · rw [Fk x x1 x2, gs x x1 x2] at ha
        by_cases y1 : y = i
        · subst y1
          rw [Fi]
          exact f.dj x j x2 a ha
        · by_cases y2 : y = j
          · subst y2
            rw [Fj]
            exact fun z => nomatch z
          · rw [Fk y y1 y2]
            exact f.dj x y hxy a ha
  · by_cases h1 : k = i
    · subst h1
      rw [Fi] at ha
      exact f.pr j hj a (Ui a ha)
    · by_cases h2 : k = j
      · subst h2
        rw [Fj] at ha
        exact (Us_nil ha).elim
      · rw [Fk k h1 h2, gs k h1 h2] at ha
        exact f.pr k hk' a ha
  · by_cases h1 : k = i
    · subst h1
      rw [Fi] at ha
      exact f.bd j a ha
    · by_cases h2 : k = j
      · subst h2
        rw [Fj] at ha
        exact nomatch ha
      · rw [Fk k h1 h2] at ha
        exact f.bd k a ha
  · have h1 : k ≠ i := fun z => hi (z ▸ hk')
    have h2 : k ≠ j := fun z => hj (z ▸ hk')
    rw [Fk k h1 h2, gs k h1 h2]
    exact f.pin k hk'
/-- a slot's own list written -/
theorem FI.put (f : FI G kd md fz w σ σc H Fs) {i : Nat} {d d' : D} {a : Addr} {F' Fn : List Addr} {o' : HO} {al : Al} (s : Same H H') (hd : σ[i]? = some (some d)) (hL : d.isL = true) (hv : σc[i]? = some (some (.ref a))) (hF : Fs i = a :: F')
    (hi : i ∉ fz) (hm : md i ≤ 2) {o : HO} (ho : H' a = some o) (hmu : Mu o = true) (rv : Rep G (upd H' a o') (.ref a) d' (a :: Fn)) (ty : TyOk (kd i) d') (hL' : d'.isL = true) (hn : a ∉ Fn)
    (hal : ∀ b ∈ Fn, b ∈ F' ∨ H b = none ∨ InAl σ Fs al b) (hb : alB md [] al = true) (h1 : md i ≤ 1 → Fn.Nodup ∧ ∀ b ∈ Fn, b ∈ F' ∨ H b = none) :
    FI G kd md fz w (σ.set i (some d')) σc (upd H' a o') (fsT Fs i (a :: Fn)) := by
  have f' := f.same s
  have li : i < σ.length := (List.getElem?_eq_some_iff.mp hd).1
  have aU : a ∈ Us (md i) σ[i]? (Fs i) := by
    refine Us_mono hm ?_
    unfold Us
    rw [if_neg (by omega), if_pos rfl, hd]
    show a ∈ if d.isL then _ else _
    rw [if_pos hL, hF]
    exact List.mem_singleton.mpr rfl
  have trk : ∀ k, ∀ b ∈ Fs k, H b ≠ none := fun k b h e => by
    obtain ⟨o, q⟩ := f.rel.tr k b h
    rw [q] at e
    cases e
  have aP : ¬ w.P a := f.pr i hi a aU
  have nU : ∀ b ∈ Us (md i) (σ.set i (some d'))[i]? (a :: Fn), b ∈ Us (md i) σ[i]? (Fs i) ∨ H b = none := fun b hb' => by
    by_cases m1 : md i ≤ 1
    · rw [Us_one m1] at hb' ⊢
      rcases List.mem_cons.mp hb' with rfl | hb'
      · left
        rw [hF]
        exact List.mem_cons_self ..
      · rcases (h1 m1).2 b hb' with z | z
        · left
          rw [hF]
          exact List.mem_cons_of_mem _ z
        · exact .inr z
    · have e2 : md i = 2 := by omega
      rw [e2] at hb'
      obtain ⟨_, _, _, ht⟩ := Us_two hb'
      have ht := List.mem_singleton.mp ht
      subst ht
      exact .inl aU
  have sp : ∀ j, j ≠ i → ∀ b ∈ Us (md j) σ[j]? (Fs j), b ∉ a :: Fn := fun j hj b hb' z => by
    rcases List.mem_cons.mp z with rfl | z
    · exact f.dj j i hj b hb' (by rw [hF]; exact List.mem_cons_self ..)
    · rcases hal b z with z | z | z
      · exact f.dj j i hj b hb' (by rw [hF]; exact List.mem_cons_of_mem _ z)
      · exact trk j b (Us_sub hb') z
      · exact f.sep hb (fun y => nomatch y) hb' z
  have im : Imm H' (upd H' a o') ∨ True := .inr trivial
  have ne : ∀ b, b ≠ a → upd H' a o' b = H' b := fun b h => upd_ne h
  have rep' : ∀ (j : Nat) (e : D), j ≠ i → σ[j]? = some (some e) → ∃ u, σc[j]? = some (some u) ∧ Rep G (upd H' a o') u e (Fs j) := fun j e hj he => by
    obtain ⟨u, e1, e2⟩ := f'.rel.rep j e he
    refine ⟨u, e1, e2.stay (fun b o2 q => ?_) fun b hb' => ne b fun z => ?_⟩
    · by_cases z : b = a
      · subst z
        rw [ho] at q
        cases q
        exact ⟨fun z => by rw [hmu] at z; (cases z), o', upd_same⟩
      · rw [ne b z]
        exact ⟨fun _ => q, o2, q⟩
    · subst z
      exact f.dj i j (Ne.symm hj) b aU hb'
  refine ⟨⟨fun j e he => ?_, fun j e he => ?_, by rw [f.rel.len, List.length_set], fun j b hb' => ?_⟩, fun j hj => ?_, fun j e he hj hl b F2 e2 => ?_, fun j k hjk b hb' => ?_, fun j hj b hb' => ?_, fun j b hb' => ?_, fun j hj => ?_, f'.imm.trans fun b o2 q => ?_, fun b hp => ?_, f.ww⟩
  · rcases set_some he with ⟨rfl, rfl⟩ | ⟨z, he⟩
    · rw [fsT_self]
      exact ⟨_, hv, rv⟩
    · rw [fsT_ne (Ne.symm z)]
      exact rep' j e (Ne.symm z) he
  · rcases set_some he with ⟨rfl, rfl⟩ | ⟨z, he⟩
    · exact ty
    · exact f.rel.ty j e he
  · by_cases e : j = i
    · subst e
      rw [fsT_self] at hb'
      exact rv.there b hb'
    · rw [fsT_ne e] at hb'
      obtain ⟨o2, q⟩ := f'.rel.tr j b hb'
      by_cases z : b = a
      · subst z
        exact ⟨o', upd_same⟩
      · exact ⟨o2, by rw [ne b z]; exact q⟩
  · by_cases e : j = i
    · subst e
      rw [fsT_self]
      exact List.nodup_cons.mpr ⟨hn, (h1 hj).1⟩
    · rw [fsT_ne e]
      exact f.nd j hj
  · rcases set_some he with ⟨rfl, rfl⟩ | ⟨z, he⟩
    · rw [fsT_self] at e2
      cases e2
      exact hn
    · rw [fsT_ne (Ne.symm z)] at e2
      exact f.top j e he hj hl b F2 e2
  · by_cases e : j = i
    · subst e
      rw [fsT_self] at hb'
      rw [fsT_ne (Ne.symm hjk)]
      rcases nU b hb' with z | z
      · exact f.dj j k hjk b z
      · exact fun y => trk k b y z
    · rw [fsT_ne e, List.getElem?_set_ne (Ne.symm e)] at hb'
      by_cases e2 : k = i
      · subst e2
        rw [fsT_self]
        exact sp j e b hb'
      · rw [fsT_ne e2]
        exact f.dj j k hjk b hb'
  · by_cases e : j = i
    · subst e
      rw [fsT_self] at hb'
      rcases nU b hb' with z | z
      · exact f.pr j hj b z
      · intro hp
        obtain ⟨o2, q⟩ := f.pH hp
        rw [q] at z
        cases z
    · rw [fsT_ne e, List.getElem?_set_ne (Ne.symm e)] at hb'
      exact f.pr j hj b hb'
  · by_cases e : j = i
    · subst e
      rw [fsT_self] at hb'
      rcases List.mem_cons.mp hb' with rfl | hb'
      · exact f.bd j b (by rw [hF]; exact List.mem_cons_self ..)
      · rcases hal b hb' with z | z | z
        · exact f.bd j b (by rw [hF]; exact List.mem_cons_of_mem _ z)
        · exact f.fb z
        · exact f.bal (.inr z)
    · rw [fsT_ne e] at hb'
      exact f.bd j b hb'
  · have e : j ≠ i := fun z => hi (z ▸ hj)
    rw [fsT_ne e, List.getElem?_set_ne (Ne.symm e)]
    exact f.pin j hj
  · by_cases z : b = a
    · subst z
      rw [ho] at q
      cases q
      exact ⟨fun z => by rw [hmu] at z; (cases z), o', upd_same⟩
    · rw [ne b z]
      exact ⟨fun _ => q, o2, q⟩
  · have z : b ≠ a := fun z => aP (z ▸ hp)
    rw [ne b z]
    exact f'.kp b hp
/-- into a loop: what is walked stays -/
theorem FI.enter (f : FI G kd md fz w σ σc H Fs) {P1 : Addr → Prop} {fx : List Nat} {al : Al} (s : Same H H') (pt : ∀ a, P1 a → ∃ o, H' a = some o) (ha : ∀ a, P1 a → H a = none ∨ InAl σ Fs al a) (hf : ∀ k, k ∈ al.1 ∨ k ∈ al.2 → k ∈ fx) :
    FI G kd md (fz ++ fx) ⟨fun a => w.P a ∨ P1 a, w.B, w.Hb, H', σ, Fs⟩ σ σc H' Fs := by
  have f' := f.same s
  refine ⟨f'.rel, f.nd, f.top, f.dj, fun i hi a ha' hp => ?_, f.bd, fun i _ => ⟨rfl, rfl⟩, Imm.refl _, fun _ _ => rfl, ⟨f'.sb, fun a o e => .inl (f.ww.pb a o e), fun a hp => ?_, f.ww.fB⟩⟩
  · rcases hp with hp | hp
    · exact f.pr i (fun z => hi (List.mem_append_left _ z)) a ha' hp
    · rcases ha a hp with z | z
      · obtain ⟨o, q⟩ := f.rel.tr i a (Us_sub ha')
        rw [q] at z
        cases z
      · have nx : i ∉ fx := fun z => hi (List.mem_append_right _ z)
        rcases z with ⟨k, hk, z⟩ | ⟨k, hk, z⟩
        · exact f.dj i k (fun e => nx (e ▸ hf k (.inl hk))) a ha' z
        · refine f.dj i k (fun e => nx (e ▸ hf k (.inr hk))) a ha' ?_
          unfold inn at z
          split at z
          · exact innF_sub z
          · exact z
  · rcases hp with hp | hp
    · exact f'.pH hp
    · exact pt a hp
/-- out of the loop -/
theorem FI.leave (f : FI G kd md fz w σ σc H Fs) {P1 : Addr → Prop} {fx : List Nat} {σ' : Sg} {σc' : L2.St} {H1 H2 : Hp} {Fs' : Nat → List Addr} (s : Same H H1)
    (g : FI G kd md (fz ++ fx) ⟨fun a => w.P a ∨ P1 a, w.B, w.Hb, H1, σ, Fs⟩ σ' σc' H2 Fs') : FI G kd md fz w σ' σc' H2 Fs' := by
  have f' := f.same s
  refine ⟨g.rel, g.nd, g.top, g.dj, fun i hi a ha => ?_, g.bd, fun i hi => ?_, f'.imm.trans g.imm, fun a hp => ?_, f.ww⟩
  · by_cases m : i ∈ fx
    · obtain ⟨e1, e2⟩ := g.pin i (List.mem_append_right _ m)
      rw [e1, e2] at ha
      exact f.pr i hi a ha
    · exact fun hp => g.pr i (fun z => by rcases List.mem_append.mp z with z | z; exact hi z; exact m z) a ha (.inl hp)
  · obtain ⟨e1, e2⟩ := g.pin i (List.mem_append_left _ hi)
    obtain ⟨e3, e4⟩ := f.pin i hi
    exact ⟨e1.trans e3, e2.trans e4⟩
  · rw [g.kp a (.inl hp)]
    exact f'.kp a hp
end
end Ev

/-! Part D2: statements: their readings; lists written. -/
namespace Ev
open PySem PySem.Spec PyProof.Rows L2
/-- a def's static facts -/
structure Fk where
  kd : Nat → Nat
  md : Nat → Nat
  rty : Nat
  rfr : Nat
section
variable (Y : SX) (G : GC) (K : Fk)
structure Ret (w : Wd) (v : V) (d : D) (F : List Addr) (H' : Hp) : Prop where
  same : Same w.Hb H'
  rep : Rep G H' v d F
  ty : TyOk K.rty d
  fr : FrOk (fr0 K.rty K.rfr) w.Hb v d F
  bd : ∀ a ∈ F, w.B a
abbrev FK (fz : List Nat) (w : Wd) (σ : Sg) (σc : L2.St) (H : Hp) (Fs : Nat → List Addr) : Prop := FI G K.kd K.md fz w σ σc H Fs
def Post (fz : List Nat) (w : Wd) (D : Ends) : Fl → Prop
  | .nx σ' => ∀ σc' H' Fs', FK G K fz w σ' σc' H' Fs' → D.nx σc' H'
  | .bk σ' => ∀ σc' H' Fs', FK G K fz w σ' σc' H' Fs' → D.bk σc' H'
  | .ct σ' => ∀ σc' H' Fs', FK G K fz w σ' σc' H' Fs' → D.ct σc' H'
  | .rt d => ∀ v H' F, Ret G K w v d F H' → D.rt v H'
def tS (fz : List Nat) (s : IS) : TS := fun D σc H => ∃ w σ Fs f, FK G K fz w σ σc H Fs ∧ evS Y.Φ Y.M s σ = .ok f ∧ Post G K fz w D f
def tSs (fz : List Nat) (s : ISs) : TS := fun D σc H => ∃ w σ Fs f, FK G K fz w σ σc H Fs ∧ evSs Y.Φ Y.M s σ = .ok f ∧ Post G K fz w D f
end
/-- the context of a def's statements -/
structure CtxS (Y : SX) (N : List Str) (X : Cx) : Prop extends Ctx Y N X where
  fnT : ∀ x, X.fn x = true
  po : PassesOwn (model X.prog X.w) X.A X.env X.xe
  kf : X.env.scope.kind = .function
theorem loc_fn {Y : SX} {N : List Str} {X : Cx} (C : CtxS Y N X) {x : Str} (h : locB X.env.scope x = true) : Loc X.env.scope x ∧ (X.fn x = true ∨ X.env.scope.names.lookup x = some .local) := ⟨locB_ok h, .inl (C.fnT x)⟩
def notComp : Expr → Bool
  | .ListComp .. => false
  | .SetComp .. => false
  | .DictComp .. => false
  | _ => true
theorem sw_no {e : Expr} (h : notComp e = true) (t : Option Expr) (l : Nat) (env : Env) : swapsWith e t l env = pure false := by
  cases e <;> first | rfl | (simp [notComp] at h)
theorem get_ok {σ : Sg} {i : Nat} {d : D} (h : getV σ i = .ok d) : σ[i]? = some (some d) := by
  unfold getV at h
  split at h
  · cases h
    assumption
  · cases h
section
variable {Y : SX} {N : List Str} {X : Cx} {K : Fk} {fz : List Nat}
/-- name = e -/
theorem d_asg {i : Nat} {e : IE} {w : Wd} {σ : Sg} {σc : L2.St} {H : Hp} {Fs : Nat → List Addr} {f : Fl} {D : Ends} (hi : i ∉ fz) (ht : tyE Y.sg Y.ms e K.kd ≤ K.kd i) (hm : 3 ≤ K.md i ∨ frE Y.sg Y.ms e K.kd ≤ K.md i) (hb : alB K.md [i] (alP Y.sg Y.ms e K.kd).1 = true)
    (fi : FK (gc Y X) K fz w σ σc H Fs) (he : evS Y.Φ Y.M (.asg i e) σ = .ok f) (po : Post (gc Y X) K fz w D f) : tAsg (tE Y (gc Y X) K.kd e) (gName i) D σc H := by
  obtain ⟨d, ed, h2⟩ := bind_ok (show (evE Y.Φ Y.M e σ).bind _ = _ from he)
  cases h2
  exact ⟨σ, Fs, d, fi.rel, ed, fun v H' F rs => po _ _ _ (fi.asg rs.same rs.rep (TyOk.mono ht rs.ty) rs.fr rs.al hi hm hb)⟩
end
/-! ### lists written -/
def muName : MU → Str
  | .append => "append" | .extend => "extend" | .clear => "clear" | .reverse => "reverse" | .insert => "insert" | .pop => "pop" | .popAt => "pop" | .remove => "remove" | .set => ""
def rIns : V → List V → Hp → VK → Prop := fun x vs H Q => ∃ (l : Addr) (xs : List V) (i : Int) (y : V), x = .ref l ∧ vs = [.int i, y] ∧ H l = some (.lst xs) ∧ xs.length < sizeLine ∧ 0 ≤ i ∧ i < 2 ^ 63 ∧
  Q .non (upd H l (.lst (xs.take i.toNat ++ [y] ++ xs.drop i.toNat)))
def rMu : MU → V → List V → Hp → VK → Prop
  | .append => rAppend | .extend => rExtend | .clear => rClear | .reverse => rReverse
  | .insert => rIns
  | _ => fun _ _ _ _ => False
def muArgs : MU → Nat
  | .append => 1 | .extend => 1 | .clear => 0 | .reverse => 0 | .insert => 2 | _ => 7
section
variable {G : GC} {H : Hp} {Q : VK}
theorem stay_upd {v : V} {d : D} {F : List Addr} {a : Addr} {o o' : HO} (r : Rep G H v d F) (ho : H a = some o) (hmu : Mu o = true) (hn : a ∉ F) : Rep G (upd H a o') v d F :=
  r.stay (fun b o2 q => by
    by_cases z : b = a
    · subst z
      rw [ho] at q
      cases q
      exact ⟨fun z => by rw [hmu] at z; (cases z), o', upd_same⟩
    · rw [upd_ne z]
      exact ⟨fun _ => q, o2, q⟩) fun b hb => upd_ne fun z => hn (z ▸ hb)
theorem stays_upd {vs : List V} {ds : List D} {F : List Addr} {a : Addr} {o o' : HO} (r : Reps G H vs ds F) (ho : H a = some o) (hmu : Mu o = true) (hn : a ∉ F) : Reps G (upd H a o') vs ds F :=
  r.stay (fun b o2 q => by
    by_cases z : b = a
    · subst z
      rw [ho] at q
      cases q
      exact ⟨fun z => by rw [hmu] at z; (cases z), o', upd_same⟩
    · rw [upd_ne z]
      exact ⟨fun _ => q, o2, q⟩) fun b hb => upd_ne fun z => hn (z ▸ hb)
theorem mu_ok {m : MU} {xs ds : List D} {d' : D} (h : muD m (.lst xs) ds = .ok d') (hm : m ≠ .set) {a : Addr} {vs0 vs : List V} {F' Fe : List Addr} (ha : H a = some (.lst vs0)) (r0 : Reps G H vs0 xs F') (r : Reps G H vs ds Fe) (n1 : a ∉ F') (n2 : a ∉ Fe)
    (q : ∀ ws ys Fn, d' = .lst ys → Reps G (upd H a (.lst ws)) ws ys Fn → (∀ b ∈ Fn, b ∈ F' ∨ b ∈ Fe ∧ (m = .extend → ∀ d, ds = [d] → b ∈ innF d Fe)) → ((F' ++ Fe).Nodup → Fn.Nodup) → Q .non (upd H a (.lst ws))) : rMu m (.ref a) vs H Q := by
  unfold muD at h
  split at h
  · rename_i xs' y e1
    cases e1
    obtain ⟨_, hc, h⟩ := bind_ok h
    cases h
    obtain ⟨v, e, rv⟩ := r.one
    subst e
    refine ⟨a, vs0, v, rfl, rfl, ha, by rw [r0.length]; exact of_decide_eq_true (chk_ok hc), q _ _ (F' ++ (Fe ++ [])) rfl ?_ (fun b hb => ?_) fun nd => by rw [List.append_nil]; exact nd⟩
    · exact Reps.append (stays_upd r0 ha rfl n1) (.cons (stay_upd rv ha rfl n2) .nil)
    · rw [List.append_nil] at hb
      rcases List.mem_append.mp hb with hb | hb
      · exact .inl hb
      · exact .inr ⟨hb, fun e => nomatch e⟩
  · rename_i xs' ys e1
    cases e1
    obtain ⟨_, hc, h⟩ := bind_ok h
    cases h
    obtain ⟨v, e, rv⟩ := r.one
    subst e
    cases rv with
    | lst eb rb =>
    rename_i b zs Fb
    refine ⟨a, b, vs0, zs, rfl, rfl, ha, eb, by rw [r0.length, rb.length]; exact of_decide_eq_true (chk_ok hc), q _ _ (F' ++ Fb) rfl ?_ (fun c hc' => ?_) fun nd => ?_⟩
    · exact Reps.append (stays_upd r0 ha rfl n1) (stays_upd rb ha rfl fun z => n2 (List.mem_cons_of_mem _ z))
    · rcases List.mem_append.mp hc' with hb | hb
      · exact .inl hb
      · refine .inr ⟨List.mem_cons_of_mem _ hb, fun _ d e => ?_⟩
        cases e
        exact hb
    · exact nd.sublist (List.Sublist.append_left (List.sublist_cons_self _ _) _)
  · rename_i xs' e1
    cases e1
    cases h
    cases r
    exact ⟨a, vs0, rfl, rfl, ha, q [] [] [] rfl .nil (fun b hb => nomatch hb) fun _ => List.nodup_nil⟩
  · rename_i xs' e1
    cases e1
    cases h
    cases r
    obtain ⟨Fn, rn, pm⟩ := (stays_upd (o' := .lst vs0.reverse) r0 ha rfl n1).rev
    exact ⟨a, vs0, rfl, rfl, ha, q _ _ Fn rfl rn (fun b hb => .inl (pm.mem_iff.mp hb)) fun nd => by
      rw [List.append_nil] at nd
      exact pm.nodup_iff.mpr nd⟩
  · rename_i xs' i y e1
    cases e1
    obtain ⟨_, hc, h⟩ := bind_ok h
    have hz := chk_ok hc
    rw [Bool.and_eq_true] at hz
    have e0 := of_decide_eq_true hz.2
    cases h
    subst e0
    obtain ⟨u, v, F1, F2, e, eF, ru, rv⟩ := r.two
    subst e
    subst eF
    have eu := ru.scalar
    subst eu
    have e1 : F1 = [] := by
      cases ru
      rfl
    subst e1
    refine ⟨a, vs0, 0, v, rfl, rfl, ha, by rw [r0.length]; exact of_decide_eq_true hz.1, Int.le_refl _, by decide, q _ _ (F2 ++ F') rfl ?_ (fun b hb => ?_) fun nd => ?_⟩
    · exact .cons (stay_upd rv ha rfl n2) (stays_upd r0 ha rfl n1)
    · rcases List.mem_append.mp hb with hb | hb
      · exact .inr ⟨hb, fun e => nomatch e⟩
      · exact .inl hb
    · exact (List.perm_append_comm.nodup_iff).mp nd
  · exact absurd rfl hm
  · exact absurd rfl hm
  · exact absurd rfl hm
  · cases h
def muKd (m : MU) (ds : List D) : Prop := match m with
    | .append => pureAll ds = true
    | .insert => pureAll ds = true
    | .set => pureAll ds = true
    | .extend => ∀ d ∈ ds, d.ep = true
    | _ => True
theorem putN_pure {kvs : List (D × D)} {k v : D} {q : NestedKey} (h : pureN kvs = true) (hv : v.pure = true) : pureN (putN kvs k q v) = true := by
  rw [pureN_eq] at h ⊢
  refine pureAll_mem fun d hd => ?_
  unfold putN at hd
  split at hd
  · rw [List.map_map] at hd
    obtain ⟨p, hp, e⟩ := List.mem_map.mp hd
    by_cases e1 : nkT p.1 = some q
    · rw [Function.comp, if_pos e1] at e
      rw [← e]
      exact hv
    · rw [Function.comp, if_neg e1] at e
      rw [← e]
      exact mem_pureAll h (List.mem_map_of_mem hp)
  · rw [List.map_append] at hd
    rcases List.mem_append.mp hd with z | z
    · exact mem_pureAll h z
    · rw [List.mem_singleton.mp z]
      exact hv
theorem mu_ty {m : MU} {d0 : D} {ds : List D} {d' : D} {k : Nat} (h : muD m d0 ds = .ok d') (t : TyOk k d0) (hk : 2 ≤ k ∨ muKd m ds) : TyOk k d' := by
  by_cases k2 : 2 ≤ k
  · match k, k2 with
    | _ + 2, _ => trivial
  · replace hk := hk.resolve_left k2
    have t1 : d0.ep = true := TyOk.mono (by omega : k ≤ 1) t
    have k1 : k = 0 → d0.pure = true := fun e => by
      subst e
      exact t
    have fin : ∀ z : D, d0.pure = false → z.ep = true → TyOk k z := fun z hp hz => by
      match k, k1, k2 with
      | 0, k1, _ => rw [k1 rfl] at hp; cases hp
      | 1, _, _ => exact hz
      | _ + 2, _, k2 => omega
    unfold muD at h
    split at h
    · rename_i xs y
      obtain ⟨_, hc, h⟩ := bind_ok h
      cases h
      refine fin _ rfl ?_
      show pureAll (xs ++ [y]) = true
      rw [pureAll_append, show pureAll xs = true from t1]
      exact hk
    · rename_i xs ys
      obtain ⟨_, hc, h⟩ := bind_ok h
      cases h
      refine fin _ rfl ?_
      show pureAll (xs ++ ys) = true
      rw [pureAll_append, show pureAll xs = true from t1]
      have := (show ∀ d ∈ [D.lst ys], d.ep = true from hk) _ (List.mem_cons_self ..)
      simpa [D.ep] using this
    · cases h
      exact fin _ rfl rfl
    · cases h
      exact fin _ rfl (show pureAll _ = true from pureAll_sub (show pureAll _ = true from t1) fun d hd => List.mem_reverse.mp hd)
    · rename_i xs i y
      obtain ⟨_, hc, h⟩ := bind_ok h
      cases h
      refine fin _ rfl (show pureAll _ = true from pureAll_mem fun d hd => ?_)
      rcases List.mem_cons.mp hd with z | z
      · subst z
        exact mem_pureAll (show pureAll _ = true from hk) (List.mem_cons_of_mem _ (List.mem_cons_self ..))
      · exact mem_pureAll (show pureAll _ = true from t1) z
    · split at h
      · cases h
        refine fin _ rfl (show pureAll _ = true from pureAll_mem fun d hd => ?_)
        rcases List.mem_or_eq_of_mem_set hd with z | z
        · exact mem_pureAll (show pureAll _ = true from t1) z
        · subst z
          exact mem_pureAll (show pureAll _ = true from hk) (List.mem_cons_self ..)
      · cases h
    · rename_i kvs v kd
      split at h
      · rename_i q hq
        obtain ⟨_, hc, h⟩ := bind_ok h
        cases h
        refine fin _ rfl ?_
        show pureV (putD kvs q v) = true
        have hv : v.pure = true := mem_pureAll (show pureAll _ = true from hk) (List.mem_cons_self ..)
        have t2 : pureV kvs = true := t1
        rw [pureV_eq] at t2 ⊢
        refine pureAll_mem fun d hd => ?_
        unfold putD at hd
        split at hd
        · rw [List.map_map] at hd
          obtain ⟨p, hp, e⟩ := List.mem_map.mp hd
          by_cases e1 : p.1 = q
          · rw [Function.comp, if_pos e1] at e
            rw [← e]
            exact hv
          · rw [Function.comp, if_neg e1] at e
            rw [← e]
            exact mem_pureAll t2 (List.mem_map_of_mem hp)
        · rw [List.map_append] at hd
          rcases List.mem_append.mp hd with z | z
          · exact mem_pureAll t2 z
          · rw [List.mem_singleton.mp z]
            exact hv
      · split at h
        · rename_i q hq
          obtain ⟨_, hc, h⟩ := bind_ok h
          cases h
          have hv : v.pure = true := mem_pureAll (show pureAll _ = true from hk) (List.mem_cons_self ..)
          exact fin _ rfl (putN_pure rfl hv)
        · cases h
    · rename_i kvs v kd
      split at h
      · rename_i q hq
        obtain ⟨_, hc, h⟩ := bind_ok h
        cases h
        have hv : v.pure = true := mem_pureAll (show pureAll _ = true from hk) (List.mem_cons_self ..)
        exact fin _ rfl (putN_pure t1 hv)
      · cases h
    · cases h
end
section
variable (sg ms : Nat → Sig)
/-- what a list's writing asks of its new things -/
def muB (K : Fk) (i : Nat) (m : MU) (es : IEs) : Bool :=
  (decide (2 ≤ K.kd i) || (match m with
    | .append => all0 sg ms es K.kd
    | .insert => all0 sg ms es K.kd
    | .set => all0 sg ms es K.kd
    | .extend => all1 sg ms es K.kd
    | _ => true)) &&
  ((match m with
    | .extend => alB K.md [] (als sg ms es K.kd).2 && !((als sg ms es K.kd).1.1 ++ (als sg ms es K.kd).1.2).contains i
    | _ => alB K.md [] (als sg ms es K.kd).1) &&
  (decide (K.md i ≤ 2) && (decide (2 ≤ K.md i) || (frs1 sg ms es K.kd && (decide (m ≠ .set) || all0 sg ms es K.kd)))))
end
section
variable {Y : SX} {N : List Str} {X : Cx} {K : Fk} {fz : List Nat}
theorem mu_al {i : Nat} {m : MU} {es : IEs} (hb : muB Y.sg Y.ms K i m es = true) {w : Wd} {σ : Sg} {σc : L2.St} {H H' : Hp} {Fs : Nat → List Addr} (fi : FK (gc Y X) K fz w σ σc H Fs) {d : D} {a : Addr} {F' : List Addr} (hd : σ[i]? = some (some d)) (hL : d.isL = true) (hF : Fs i = a :: F') {vs : List V} {ds : List D} {Fe : List Addr}
    (rs : Rss Y (gc Y X) K.kd es σ Fs H vs ds Fe H') : a ∉ F' ∧ a ∉ Fe ∧ ∃ al, alB K.md [] al = true ∧ (∀ b ∈ Fe, (m = .extend → ∀ d, ds = [d] → b ∈ innF d Fe) → m ≠ .extend ∨ (∃ d, ds = [d]) → H b = none ∨ InAl σ Fs al b) := by
  unfold muB at hb
  obtain ⟨h1, r0⟩ := and2 hb
  obtain ⟨h2, r1⟩ := and2 r0
  obtain ⟨h3, h4⟩ := and2 r1
  have hm := of_decide_eq_true h3
  have aU : a ∈ Us (K.md i) σ[i]? (Fs i) := by
    refine Us_mono hm ?_
    unfold Us
    rw [if_neg (by omega), if_pos rfl, hd]
    show a ∈ if d.isL then _ else _
    rw [if_pos hL, hF]
    exact List.mem_singleton.mpr rfl
  have n1 : a ∉ F' := fi.top i d hd hm hL a F' hF
  have tr : H a ≠ none := fun e => by
    obtain ⟨o, q⟩ := fi.rel.tr i a (by rw [hF]; exact List.mem_cons_self ..)
    rw [q] at e
    cases e
  by_cases me : m = .extend
  · subst me
    obtain ⟨h5, h6⟩ := and2 h2
    refine ⟨n1, fun z => ?_, _, h5, fun b hb' h7 h8 => ?_⟩
    · rcases rs.al a z with q | q
      · exact tr q
      · have nc : ∀ k, k ∈ (als Y.sg Y.ms es K.kd).1.1 ∨ k ∈ (als Y.sg Y.ms es K.kd).1.2 → i ≠ k := fun k hk e => by
          subst e
          have : ((als Y.sg Y.ms es K.kd).1.1 ++ (als Y.sg Y.ms es K.kd).1.2).contains i = true := by
            simpa using hk
          rw [this] at h6
          cases h6
        rcases q with ⟨k, hk, q⟩ | ⟨k, hk, q⟩
        · exact fi.dj i k (nc k (.inl hk)) a aU q
        · refine fi.dj i k (nc k (.inr hk)) a aU ?_
          unfold inn at q
          split at q
          · exact innF_sub q
          · exact q
    · rcases h8 with h8 | ⟨d0, h8⟩
      · exact absurd rfl h8
      · exact rs.an d0 h8 b (h7 rfl d0 h8)
  · have h2 : alB K.md [] (als Y.sg Y.ms es K.kd).1 = true := by
      cases m <;> first | exact h2 | exact absurd rfl me
    refine ⟨n1, fun z => ?_, _, h2, fun b hb' _ _ => rs.al b hb'⟩
    rcases rs.al a z with q | q
    · exact tr q
    · exact fi.sep h2 (fun y => nomatch y) aU q
theorem mu_kind {i : Nat} {m : MU} {es : IEs} (hb : muB Y.sg Y.ms K i m es = true) {σ : Sg} {ds : List D} (he : evEs Y.Φ Y.M es σ = .ok ds) (t : tysOk Y K.kd es ds) : 2 ≤ K.kd i ∨ muKd m ds := by
  unfold muB at hb
  obtain ⟨h1, _⟩ := and2 hb
  rw [Bool.or_eq_true] at h1
  rcases h1 with z | z
  · exact .inl (of_decide_eq_true z)
  · right
    cases m with
    | append => exact all0_pure he z t
    | insert => exact all0_pure he z t
    | set => exact all0_pure he z t
    | extend => exact all1_ep he z t
    | _ => trivial
theorem mu_fin {i : Nat} {m : MU} {es : IEs} (hb : muB Y.sg Y.ms K i m es = true) (hi : i ∉ fz) {w : Wd} {σ : Sg} {σc : L2.St} {H H' : Hp} {Fs : Nat → List Addr} (fi : FK (gc Y X) K fz w σ σc H Fs) {d0 : D} {a : Addr} {F' : List Addr} (hd : σ[i]? = some (some d0)) (h0 : d0.isL = true) (hv : σc[i]? = some (some (.ref a))) (hF : Fs i = a :: F')
    {vs : List V} {ds : List D} {Fe : List Addr} (he : evEs Y.Φ Y.M es σ = .ok ds) (rs : Rss Y (gc Y X) K.kd es σ Fs H vs ds Fe H') {d' : D} (hmu : muD m d0 ds = .ok d') {o o' : HO} (ho : H' a = some o) (hmo : Mu o = true) {Fn : List Addr} (rv : Rep (gc Y X) (upd H' a o') (.ref a) d' (a :: Fn)) (hL' : d'.isL = true)
    (hn : ∀ b ∈ Fn, b ∈ F' ∨ b ∈ Fe ∧ (m = .extend → ∀ d, ds = [d] → b ∈ innF d Fe)) (hx : m = .extend → ∃ d, ds = [d]) (nd : (F' ++ Fe).Nodup → (m = .set → all0 Y.sg Y.ms es K.kd = true) → Fn.Nodup) : FK (gc Y X) K fz w (σ.set i (some d')) σc (upd H' a o') (fsT Fs i (a :: Fn)) := by
  obtain ⟨n1, n2, al, hal, h5⟩ := mu_al hb fi hd h0 hF rs
  have hb0 := hb
  unfold muB at hb0
  obtain ⟨_, r0⟩ := and2 hb0
  obtain ⟨_, r1⟩ := and2 r0
  obtain ⟨h3, h4⟩ := and2 r1
  have key : ∀ b ∈ Fn, b ∈ F' ∨ H b = none ∨ InAl σ Fs al b := fun b hb' => by
    rcases hn b hb' with z | ⟨z, z2⟩
    · exact .inl z
    · right
      refine h5 b z z2 ?_
      by_cases me : m = .extend
      · exact .inr (hx me)
      · exact .inl me
  refine fi.put (al := al) rs.same hd h0 hv hF hi (of_decide_eq_true h3) ho hmo rv (mu_ty hmu (fi.rel.ty i _ hd) (mu_kind hb he rs.ty)) hL' (fun z => ?_) key hal fun m1 => ?_
  · rcases hn a z with z | ⟨z, _⟩
    · exact n1 z
    · exact n2 z
  · rw [Bool.or_eq_true] at h4
    rcases h4 with z | z
    · have := of_decide_eq_true z
      omega
    · obtain ⟨g1, g2⟩ := rs.fr (and2 z).1
      have ndF := fi.nd i m1
      rw [hF, List.nodup_cons] at ndF
      refine ⟨nd (List.nodup_append.mpr ⟨ndF.2, g1, fun b hb1 c hc e => ?_⟩) (fun em => by
        have z2 := (and2 z).2
        rw [Bool.or_eq_true] at z2
        rcases z2 with z2 | z2
        · exact absurd em (of_decide_eq_true z2)
        · exact z2), fun b hb' => ?_⟩
      · subst e
        obtain ⟨o2, q⟩ := fi.rel.tr i b (by rw [hF]; exact List.mem_cons_of_mem _ hb1)
        rw [g2 b hc] at q
        cases q
      · rcases hn b hb' with z | ⟨z, _⟩
        · exact .inl z
        · exact .inr (g2 b z)
theorem mu_lst {m : MU} {d d' : D} {ds : List D} (h : muD m d ds = .ok d') (hm : m ≠ .set) : ∃ xs, d = .lst xs ∧ d'.isL = true ∧ (m = .extend → ∃ d, ds = [d]) := by
  unfold muD at h
  split at h
  · obtain ⟨_, _, h⟩ := bind_ok h
    cases h
    exact ⟨_, rfl, rfl, fun e => nomatch e⟩
  · obtain ⟨_, _, h⟩ := bind_ok h
    cases h
    exact ⟨_, rfl, rfl, fun _ => ⟨_, rfl⟩⟩
  · cases h
    exact ⟨_, rfl, rfl, fun e => nomatch e⟩
  · cases h
    exact ⟨_, rfl, rfl, fun e => nomatch e⟩
  · obtain ⟨_, _, h⟩ := bind_ok h
    cases h
    exact ⟨_, rfl, rfl, fun e => nomatch e⟩
  · exact absurd rfl hm
  · exact absurd rfl hm
  · exact absurd rfl hm
  · cases h
theorem d_mut {i : Nat} {m : MU} {es : IEs} (hm : m ≠ .set) (hi : i ∉ fz) (hb : muB Y.sg Y.ms K i m es = true) {D : Ends} {σc : L2.St} {H : Hp} (h : tS Y (gc Y X) K fz (.mut i .no m es) D σc H) :
    tBM X.K "list" (rMu m) (tVar i) (tEs Y (gc Y X) K.kd es) σc H fun _ H1 => D.nx σc H1 := by
  obtain ⟨w, σ, Fs, f, fi, he, po⟩ := h
  obtain ⟨d, ed, h2⟩ := bind_ok (show (getV σ i).bind _ = _ from he)
  obtain ⟨ds, eds, h3⟩ := bind_ok h2
  obtain ⟨d', ed', h4⟩ := bind_ok h3
  cases h4
  obtain ⟨xs, rfl, hL', hx⟩ := mu_lst ed' hm
  have hd := get_ok ed
  obtain ⟨v, hv, rv⟩ := fi.rel.rep i _ hd
  generalize hF : Fs i = F at rv
  cases rv with
  | lst ea ra =>
  rename_i a vs0 F'
  refine ⟨_, hv, .inl ⟨rfl, _, SqL.of ea⟩, σ, Fs, ds, fi.rel, eds, fun vs H' Fe rs => ?_⟩
  obtain ⟨n1, n2, _⟩ := mu_al hb fi hd rfl hF rs
  refine mu_ok ed' hm (rs.same a _ ea) (ra.same rs.same) rs.rep n1 n2 fun ws ys Fn e1 e2 e3 e4 => ?_
  subst e1
  exact po _ _ _ (mu_fin hb hi fi hd rfl hv hF eds rs ed' (rs.same a _ ea) rfl (.lst upd_same e2) rfl e3 hx fun nd _ => e4 nd)
theorem rss2 {ev ek : IE} {σ : Sg} {Fs : Nat → List Addr} {H H1 H2 : Hp} {x y : V} {dv dk : D} {F1 F2 : List Addr} (r1 : Rs (gc Y X) (tyE Y.sg Y.ms ev K.kd) (frE Y.sg Y.ms ev K.kd) (alP Y.sg Y.ms ev K.kd) σ Fs H x dv F1 H1)
    (r2 : Rs (gc Y X) (tyE Y.sg Y.ms ek K.kd) (frE Y.sg Y.ms ek K.kd) (alP Y.sg Y.ms ek K.kd) σ Fs H1 y dk F2 H2) : Rss Y (gc Y X) K.kd (.cons ev (.cons ek .nil)) σ Fs H [x, y] [dv, dk] (F1 ++ (F2 ++ [])) H2 := by
  refine ⟨r1.same.trans r2.same, .cons (r1.rep.same r2.same) (.cons r2.rep .nil), ⟨r1.ty, r2.ty, trivial⟩, fun hf => ?_, fun b hb' => ?_, fun d e => nomatch e⟩
  · rw [frs1, Bool.and_eq_true, frs1, Bool.and_eq_true] at hf
    obtain ⟨g1, g2⟩ := r1.fr.1 (of_decide_eq_true hf.1)
    obtain ⟨g3, g4⟩ := r2.fr.1 (of_decide_eq_true hf.2.1)
    rw [List.append_nil]
    refine ⟨List.nodup_append.mpr ⟨g1, g3, fun b h1 c h2 e => ?_⟩, fun b hb' => ?_⟩
    · subst e
      obtain ⟨o2, q⟩ := r1.rep.there b h1
      rw [g4 b h2] at q
      cases q
    · rcases List.mem_append.mp hb' with z | z
      · exact g2 b z
      · exact r1.same.free (g4 b z)
  · rw [List.append_nil] at hb'
    rcases List.mem_append.mp hb' with z | z
    · exact (r1.al b z).imp id .left
    · rcases r2.al b z with q | q
      · exact .inl (r1.same.free q)
      · exact .inr (.right (.left q))
def rSet (X : Cx) : TSet := fun o i v H Q => rSetL o i v H Q ∨ rSetD o i v H Q ∨ rSetN X.prog X.w X.K o i v H Q
theorem set_any (hu : X.A.units + 9 < cLine) : PSet X (rSet X) := fun pins s σ H o i v ov iv u Q I r1 r2 r3 h => h.elim (set_list pins s σ H o i v ov iv u Q I r1 r2 r3) fun h => h.elim (set_dict (by omega) pins s σ H o i v ov iv u Q I r1 r2 r3) (set_nested hu pins s σ H o i v ov iv u Q I r1 r2 r3)
theorem put_nested {i : Nat} {ev ek : IE} {D : Ends} (hb : muB Y.sg Y.ms K i .set (.cons ev (.cons ek .nil)) = true) (hi : i ∉ fz) {w : Wd} {σ : Sg} {σc : L2.St} {H H1 H2 : Hp} {Fs : Nat → List Addr} (fi : FK (gc Y X) K fz w σ σc H Fs) {d0 : Ev.D} {a : Addr} {F' : List Addr} (hd : σ[i]? = some (some d0)) (h0 : d0.isL = true) (hv : σc[i]? = some (some (.ref a))) (hF : Fs i = a :: F')
    {dv dk : Ev.D} (eds : evEs Y.Φ Y.M (.cons ev (.cons ek .nil)) σ = .ok [dv, dk]) {kds : List (Ev.D × Ev.D)} {q : NestedKey} (em : muD .set d0 [dv, dk] = .ok (.dcn (putN kds dk q dv))) (hq : nkT dk = some q) {x y : V} {F1 F2 : List Addr}
    (r1 : Rs (gc Y X) (tyE Y.sg Y.ms ev K.kd) (frE Y.sg Y.ms ev K.kd) (alP Y.sg Y.ms ev K.kd) σ Fs H x dv F1 H1) (r2 : Rs (gc Y X) (tyE Y.sg Y.ms ek K.kd) (frE Y.sg Y.ms ek K.kd) (alP Y.sg Y.ms ek K.kd) σ Fs H1 y dk F2 H2)
    {xs : List (NestedKey × Addr × V)} (nd : NDict X.prog X.w X.K H2 a xs) (m : kds.map (fun p => nkT p.1) = xs.map (fun x => some x.1)) (k1 : Reps (gc Y X) H2 (xs.map fun x => V.ref x.2.1) (kds.map Prod.fst) []) (rr : Reps (gc Y X) H2 (xs.map fun x => x.2.2) (kds.map Prod.snd) F') (hl : xs.length < sizeLine)
    (po : Post (gc Y X) K fz w D (.nx (σ.set i (some (.dcn (putN kds dk q dv)))))) : rSet X (.ref a) y x H2 (D.nx σc) := by
  have rs := rss2 r1 r2
  obtain ⟨n1, n2, _⟩ := mu_al hb fi hd h0 hF rs
  obtain ⟨b, e, hk, e2⟩ := nk_rep r2.rep hq
  subst e
  subst e2
  obtain ⟨pm, pk, Fn, rn, hFn, hsub⟩ := putN_rep (q := q) (r1.rep.same r2.same) hq r2.rep m k1 rr
  have nn : a ∉ Fn := fun z => by
    rcases hFn a z with z | z
    · exact n1 z
    · exact n2 (List.mem_append_left _ z)
  have hmu : ∃ o, H2 a = some o ∧ Mu o = true := by
    rcases nd.1 with ⟨_, z⟩ | ⟨_, z⟩
    · exact ⟨_, z, rfl⟩
    · exact ⟨_, z, rfl⟩
  obtain ⟨o0, ho, hmo⟩ := hmu
  refine .inr (.inr ⟨a, xs, b, q, rfl, rfl, nd, hk, hl, fun ob => po _ _ _ (mu_fin hb hi fi hd h0 hv hF eds rs em ho hmo (Fn := Fn) (.dcn upd_same pm ?_ ?_) rfl (fun c hc => ?_) (fun e => nomatch e) (fun nd hz => ?_))⟩)
  · exact stays_upd pk ho hmo fun z => nomatch z
  · exact stays_upd rn ho hmo nn
  · rcases hFn c hc with z | z
    · exact .inl z
    · exact .inr ⟨List.mem_append_left _ z, fun e => nomatch e⟩
  · have hz := hz rfl
    have p1 : F1 = [] := by
      have t := (all0_pure eds hz rs.ty)
      exact r1.rep.pure_nil (mem_pureAll t (List.mem_cons_self ..))
    have := hsub p1
    rw [p1, List.append_nil] at this
    exact (nd.sublist (List.sublist_append_left _ _)).sublist this
theorem d_set {i : Nat} {ev ek : IE} (hi : i ∉ fz) (hb : muB Y.sg Y.ms K i .set (.cons ev (.cons ek .nil)) = true) {D : Ends} {σc : L2.St} {H : Hp} (h : tS Y (gc Y X) K fz (.mut i .no .set (.cons ev (.cons ek .nil))) D σc H) :
    tAsg (tE Y (gc Y X) K.kd ev) (gSub (tVar i) (tE Y (gc Y X) K.kd ek) (rSet X)) D σc H := by
  obtain ⟨w, σ, Fs, f, fi, he, po⟩ := h
  obtain ⟨d, ed, h2⟩ := bind_ok (show (getV σ i).bind _ = _ from he)
  obtain ⟨ds, eds, h3⟩ := bind_ok h2
  obtain ⟨d', ed', h4⟩ := bind_ok h3
  cases h4
  obtain ⟨dv, edv, h5⟩ := bind_ok (show (evE Y.Φ Y.M ev σ).bind _ = _ from eds)
  obtain ⟨dr, edr, h6⟩ := bind_ok h5
  cases h6
  obtain ⟨dk, edk, h7⟩ := bind_ok (show (evE Y.Φ Y.M ek σ).bind _ = _ from edr)
  obtain ⟨dn, edn, h8⟩ := bind_ok h7
  cases edn
  cases h8
  have hd := get_ok ed
  obtain ⟨v, hv, rv⟩ := fi.rel.rep i _ hd
  generalize hF : Fs i = F at rv
  have em := ed'
  unfold muD at ed'
  split at ed'
  · rename_i e1 e2; cases e2
  · rename_i e1 e2; cases e2
  · rename_i e1 e2; cases e2
  · rename_i e1 e2; cases e2
  · rename_i e0 e2; cases e0
  · rename_i xs v' iz e0 e2
    cases e2
    cases rv with
    | lst ea ra =>
    rename_i a vs0 F'
    split at ed'
    · rename_i j hj
      cases ed'
      refine ⟨σ, Fs, dv, fi.rel, edv, fun x H1 F1 r1 => ⟨_, hv, σ, Fs, _, fi.rel.same r1.same, edk, fun y H2 F2 r2 => ?_⟩⟩
      have s2 := r1.same.trans r2.same
      have rs := rss2 r1 r2
      obtain ⟨n1, n2, _⟩ := mu_al hb fi hd rfl hF rs
      have e := r2.rep.scalar
      subst e
      rw [← ra.length] at hj
      have ha2 := s2 a _ ea
      have ra2 := ra.same s2
      obtain ⟨Fn, rn, hFn⟩ := Reps.setN ra2 (r1.rep.same r2.same) j
      refine .inl ⟨a, vs0, iz, j, rfl, rfl, ha2, hj, po _ _ _ (mu_fin hb hi fi hd rfl hv hF eds rs em ha2 rfl (Fn := Fn) (.lst upd_same ?_) rfl (fun b hb' => ?_) (fun e => nomatch e) fun nd _ => ?_)⟩
      · exact stays_upd rn ha2 rfl fun z => by
          rcases hFn.1 a z with z | z
          · exact n1 z
          · exact n2 (List.mem_append_left _ z)
      · rcases hFn.1 b hb' with z | z
        · exact .inl z
        · exact .inr ⟨List.mem_append_left _ z, fun e => nomatch e⟩
      · rw [← List.append_assoc] at nd
        exact hFn.2 (nd.sublist (List.sublist_append_left _ _))
    · cases ed'
  · rename_i kds v' k' e0 e2
    cases e2
    cases rv with
    | dct ea m ra =>
    rename_i a kvs F'
    split at ed'
    · rename_i q hq
      obtain ⟨_, hc, ed'⟩ := bind_ok ed'
      cases ed'
      refine ⟨σ, Fs, dv, fi.rel, edv, fun x H1 F1 r1 => ⟨_, hv, σ, Fs, _, fi.rel.same r1.same, edk, fun y H2 F2 r2 => ?_⟩⟩
      have s2 := r1.same.trans r2.same
      have rs := rss2 r1 r2
      obtain ⟨n1, n2, _⟩ := mu_al hb fi hd rfl hF rs
      obtain ⟨e, _⟩ := key_rep r2.rep hq
      subst e
      have ha2 := s2 a _ ea
      have ra2 := ra.same s2
      obtain ⟨pm, Fn, rn, hFn, hsub⟩ := put_rep (q := q) (r1.rep.same r2.same) m ra2
      have nn : a ∉ Fn := fun z => by
        rcases hFn a z with z | z
        · exact n1 z
        · exact n2 (List.mem_append_left _ z)
      refine .inr (.inl ⟨a, _, rfl, DPut.k ha2 (by rw [show kvs.length = kds.length by simpa using congrArg List.length m]; exact of_decide_eq_true (chk_ok hc)), po _ _ _ (mu_fin hb hi fi hd rfl hv hF eds rs em ha2 rfl (Fn := Fn) (.dct upd_same pm ?_) rfl (fun b hb' => ?_) (fun e => nomatch e) (fun nd hz => ?_))⟩)
      · exact stays_upd rn ha2 rfl nn
      · rcases hFn b hb' with z | z
        · exact .inl z
        · exact .inr ⟨List.mem_append_left _ z, fun e => nomatch e⟩
      · have hz := hz rfl
        have p1 : F1 = [] := by
          have t := (all0_pure eds hz rs.ty)
          exact r1.rep.pure_nil (mem_pureAll t (List.mem_cons_self ..))
        have := hsub p1
        rw [p1, List.append_nil] at this
        exact (nd.sublist (List.sublist_append_left _ _)).sublist this
    · split at ed'
      · rename_i q hq
        obtain ⟨_, hc, ed'⟩ := bind_ok ed'
        cases ed'
        have e0 := List.isEmpty_iff.mp (chk_ok hc)
        subst e0
        refine ⟨σ, Fs, dv, fi.rel, edv, fun x H1 F1 r1 => ⟨_, hv, σ, Fs, _, fi.rel.same r1.same, edk, fun y H2 F2 r2 => ?_⟩⟩
        have s2 := r1.same.trans r2.same
        obtain ⟨eF, ha2, nd⟩ := dct_nd (G := gc Y X) (Rep.dct (G := gc Y X) (s2 a _ ea) m (ra.same s2))
        exact put_nested hb hi fi hd rfl hv hF eds em hq r1 r2 (kds := []) (xs := []) nd rfl .nil (by cases eF; exact .nil) (by rw [sizeLine_eq]; decide) po
      · cases ed'
  · rename_i kds v' k' e0 e2
    cases e2
    have hp : ∃ a, v = .ref a := by
      cases rv with
      | dcn e m ks rr => exact ⟨_, rfl⟩
    obtain ⟨a, rfl⟩ := hp
    split at ed'
    · rename_i q hq
      obtain ⟨_, hc, ed'⟩ := bind_ok ed'
      cases ed'
      refine ⟨σ, Fs, dv, fi.rel, edv, fun x H1 F1 r1 => ⟨_, hv, σ, Fs, _, fi.rel.same r1.same, edk, fun y H2 F2 r2 => ?_⟩⟩
      have s2 := r1.same.trans r2.same
      obtain ⟨xs, F', eF, nd, m2, k1, rr⟩ := dcn_nd (rv.same s2)
      subst eF
      exact put_nested hb hi fi hd rfl hv hF eds em hq r1 r2 nd m2 k1 rr (by rw [show xs.length = kds.length by simpa using (congrArg List.length m2).symm]; exact of_decide_eq_true (chk_ok hc)) po
    · cases ed'
  · cases ed'
end
end Ev

/-! Part D3: statements run as the small language reckons. -/
namespace Ev
open PySem PySem.Spec PyProof.Rows L2
theorem setAll_wipe1 : ∀ {is : List Nat} {ds : List D} {σ : Sg} {i : Nat}, ds.length = is.length → i ∈ is → bindT.setAll is ds (σ.set i none) = bindT.setAll is ds σ
  | [], ds, σ, i, _, h => nomatch h
  | j :: is, [], σ, i, hl, h => by simp at hl
  | j :: is, d :: ds, σ, i, hl, h => by
    show bindT.setAll is ds ((σ.set i none).set j (some d)) = bindT.setAll is ds (σ.set j (some d))
    by_cases e : i = j
    · subst e
      rw [List.set_set]
    · have h2 : i ∈ is := by
        rcases List.mem_cons.mp h with z | z
        · exact absurd z e
        · exact z
      rw [List.set_comm _ _ e]
      exact setAll_wipe1 (by simpa using hl) h2
theorem setAll_wipe {is : List Nat} {ds : List D} (hl : ds.length = is.length) : ∀ (ws : List Nat), (∀ i ∈ ws, i ∈ is) → ∀ σ : Sg, bindT.setAll is ds (ws.foldl (fun s i => s.set i none) σ) = bindT.setAll is ds σ
  | [], _, σ => rfl
  | i :: ws, h, σ => by
    rw [List.foldl_cons, setAll_wipe hl ws (fun j hj => h j (List.mem_cons_of_mem _ hj))]
    exact setAll_wipe1 hl (h i (List.mem_cons_self ..))
theorem bindT_wipe {tg : Tg} {d : D} {σ : Sg} : bindT tg d (wipeT tg σ) = bindT tg d σ := by
  cases tg with
  | one i =>
    show R.ok ((σ.set i none).set i (some d)) = .ok (σ.set i (some d))
    rw [List.set_set]
  | many is =>
    cases d with
    | tup ds =>
      simp only [bindT]
      split
      · rename_i hl
        rw [show wipeT (.many is) σ = is.foldl (fun s i => s.set i none) σ from rfl, setAll_wipe hl is (fun _ h => h)]
      · rfl
    | lst ds =>
      simp only [bindT]
      split
      · rename_i hl
        rw [show wipeT (.many is) σ = is.foldl (fun s i => s.set i none) σ from rfl, setAll_wipe hl is (fun _ h => h)]
      · rfl
    | _ => rfl
section
variable {Y : SX} {N : List Str} {X : Cx} {K : Fk} {fz : List Nat}
theorem d_seq {s : IS} {r : ISs} {D : Ends} {σc : L2.St} {H : Hp} (h : tSs Y (gc Y X) K fz (.cons s r) D σc H) : tSeq (tS Y (gc Y X) K fz s) (tSs Y (gc Y X) K fz r) D σc H := by
  obtain ⟨w, σ, Fs, f, fi, he, po⟩ := h
  obtain ⟨g, eg, h2⟩ := bind_ok (show (evS Y.Φ Y.M s σ).bind _ = _ from he)
  refine ⟨w, σ, Fs, g, fi, eg, ?_⟩
  cases g with
  | nx σ' => exact fun a b c q => ⟨w, σ', c, f, q, h2, po⟩
  | bk σ' => cases h2; exact po
  | ct σ' => cases h2; exact po
  | rt d => cases h2; exact po
theorem d_drop {is : List Nat} {r : ISs} (hd : ∀ k ∈ is, k ∉ fz) {D : Ends} {σc : L2.St} {H : Hp} (h : tSs Y (gc Y X) K fz (.drop is r) D σc H) : tSs Y (gc Y X) K fz r D σc H := by
  obtain ⟨w, σ, Fs, f, fi, he, po⟩ := h
  obtain ⟨h1, h2, h3⟩ := wipeT_get (tg := .many is) (σ := σ)
  exact ⟨w, _, _, f, fi.drop (ts := is) (σ' := wipe is σ) hd h1 h2 h3, he, po⟩
theorem d_if {c : IE} {a b : ISs} {D : Ends} {σc : L2.St} {H : Hp} (h : tS Y (gc Y X) K fz (.ife c a b) D σc H) : tIfS (tT Y (gc Y X) K.kd c) (tSs Y (gc Y X) K fz a) (tSs Y (gc Y X) K fz b) D σc H := by
  obtain ⟨w, σ, Fs, f, fi, he, po⟩ := h
  obtain ⟨d, ed, h2⟩ := bind_ok (show (evE Y.Φ Y.M c σ).bind _ = _ from he)
  obtain ⟨k, ek, h3⟩ := bind_ok h2
  refine ⟨σ, Fs, d, k, fi.rel, ed, ek, fun H' sm => ?_⟩
  cases k with
  | true => exact iteT ⟨w, σ, Fs, f, fi.same sm, h3, po⟩
  | false => exact iteF ⟨w, σ, Fs, f, fi.same sm, h3, po⟩
theorem d_whl {n : Nat} {c : IE} {body : ISs} {D : Ends} {σc : L2.St} {H : Hp} (h : tS Y (gc Y X) K fz (.whl n c body) D σc H) : tWhile (tT Y (gc Y X) K.kd c) (tSs Y (gc Y X) K fz body) D σc H := by
  obtain ⟨w, σ, Fs, f, fi, he, po⟩ := h
  let cf : Sg → R Bool := fun σ => (evE Y.Φ Y.M c σ).bind truth
  let bf : Sg → R Fl := fun σ => evSs Y.Φ Y.M body σ
  have he : whlL cf bf n σ = .ok f := he
  refine ⟨fun m σc' H' => ∃ σ' Fs', FK (gc Y X) K fz w σ' σc' H' Fs' ∧ whlL cf bf m σ' = .ok f, ⟨n, σ, Fs, fi, he⟩, fun m σc' H' hW => ?_⟩
  obtain ⟨σ', Fs', fi', hw⟩ := hW
  cases m with
  | zero => cases hw
  | succ m =>
    obtain ⟨k, ek, h2⟩ := bind_ok (show (cf σ').bind _ = _ from hw)
    obtain ⟨d, ed, ek⟩ := bind_ok ek
    refine ⟨σ', Fs', d, k, fi'.rel, ed, ek, fun H2 sm => ?_⟩
    cases k with
    | false =>
      cases h2
      exact iteF (po _ _ _ (fi'.same sm))
    | true =>
      obtain ⟨g, eg, h3⟩ := bind_ok (show (bf σ').bind _ = _ from h2)
      refine iteT ⟨fun σc2 H2 => ∃ σ2 Fs2, FK (gc Y X) K fz w σ2 σc2 H2 Fs2 ∧ whlL cf bf m σ2 = .ok f, fun σc2 H2 q => ⟨m, Nat.lt_succ_self m, q⟩, w, σ', Fs', g, fi'.same sm, eg, ?_⟩
      cases g with
      | nx s2 => exact fun a b cc q => ⟨s2, cc, q, h3⟩
      | ct s2 => exact fun a b cc q => ⟨s2, cc, q, h3⟩
      | bk s2 => cases h3; exact po
      | rt d => cases h3; exact po
theorem d_for {tg : Tg} {it : II} {body : ISs} {fx : List Nat} (ht : ∀ k ∈ tgs tg, k ∉ fz ++ fx) (hx : ∀ k, k ∈ ((alIW Y K.kd it).un (alI Y.sg Y.ms it K.kd)).1 ∨ k ∈ ((alIW Y K.kd it).un (alI Y.sg Y.ms it K.kd)).2 → k ∈ fx)
    (hty : tyI Y.sg Y.ms it K.kd = 0 ∨ (alB K.md [] (alI Y.sg Y.ms it K.kd) = true ∧ ∀ k ∈ tgs tg, 3 ≤ K.md k ∧ 2 ≤ K.kd k)) {D : Ends} {σc : L2.St} {H : Hp} (h : tS Y (gc Y X) K fz (.for_ tg it body) D σc H) :
    tFor (tIt Y (gc Y X) K.kd it) (gT X.K tg) (tSs Y (gc Y X) K (fz ++ fx) body) D σc H := by
  obtain ⟨w, σ, Fs, f, fi, he, po⟩ := h
  obtain ⟨xs, exs, h2⟩ := bind_ok (show (evI Y.Φ Y.M it σ).bind _ = _ from he)
  refine ⟨σ, Fs, xs, fi.rel, exs, fun J H1 FA P wk => ?_⟩
  let P1 : Addr → Prop := fun a => P a ∨ a ∈ FA
  let w' : Wd := ⟨fun a => w.P a ∨ P1 a, w.B, w.Hb, H1, σ, Fs⟩
  have fe : FK (gc Y X) K (fz ++ fx) w' σ σc H1 Fs := fi.enter (P1 := P1) (al := (alIW Y K.kd it).un (alI Y.sg Y.ms it K.kd)) wk.same (fun a hp => hp.elim (wk.pt a) (wk.ft a))
    (fun a hp => by
      rcases hp with hp | hp
      · exact (wk.alw a hp).imp id .left
      · exact (wk.al a hp).imp id .right) hx
  have sepFA : tyI Y.sg Y.ms it K.kd = 0 ∨ ∀ j, ∀ a ∈ Us (K.md j) σ[j]? (Fs j), a ∉ FA := hty.imp id fun hh j a ha hF => by
    rcases wk.al a hF with z | z
    · obtain ⟨o, q⟩ := fi.rel.tr j a (Us_sub ha)
      rw [q] at z
      cases z
    · exact fi.sep hh.1 (fun y => nomatch y) ha z
  let bdy : Ev.D → Sg → R Fl := fun x σ => (bindT tg x σ).bind fun σ' => evSs Y.Φ Y.M body σ'
  have h2 : forL bdy xs σ = .ok f := h2
  refine ⟨fun i m σc' H' => i + m = xs.length ∧ ∃ σ' Fs', FK (gc Y X) K (fz ++ fx) w' σ' σc' H' Fs' ∧ forL bdy (xs.drop i) σ' = .ok f, ⟨xs.length, by omega, σ, Fs, fe, h2⟩, fun i m σc' H' hW => ?_⟩
  obtain ⟨hm, σ', Fs', f', hfl⟩ := hW
  have prot : ∀ a, P a → H' a = H1 a := fun a ha => f'.kp a (.inr (.inl ha))
  by_cases hi : i < xs.length
  · right
    rw [List.drop_eq_getElem_cons hi] at hfl
    obtain ⟨fb, efb, hfl⟩ := bind_ok (show (bdy xs[i] σ').bind _ = _ from hfl)
    obtain ⟨σb, eb, efb⟩ := bind_ok efb
    obtain ⟨go, yl⟩ := wk.walk.go H' f'.imm prot i _ (List.getElem?_eq_getElem hi)
    refine ⟨go, fun σc2 H2 => ∃ σ2 Fs2, FK (gc Y X) K (fz ++ fx) w' σ2 σc2 H2 Fs2 ∧ forL bdy (xs.drop (i + 1)) σ2 = .ok f, fun σc2 H2 q => ⟨m - 1, by omega, by omega, q⟩, fun x H2 hy => ?_⟩
    obtain ⟨sm, F, rv, hF⟩ := yl x H2 hy
    have fd := f'.drop (ts := tgs tg) (σ' := wipeT tg σ') ht wipeT_get.1 wipeT_get.2.1 wipeT_get.2.2
    rw [← bindT_wipe] at eb
    have tyx := wk.ty _ (List.getElem_mem hi)
    have pure0 : tyI Y.sg Y.ms it K.kd = 0 → F = [] := fun z => by
      rw [z] at tyx
      exact rv.pure_nil tyx
    refine bd_ok (G := gc Y X) eb (fd.rel.same sm) rv (fun k hk => by unfold fsW; rw [if_pos hk]) (fun k hk => ?_) fun σc3 Fs3 rb bd _ => ?_
    · rcases hty with z | z
      · rw [z] at tyx
        exact ⟨TyOk.pure tyx _, .inl tyx⟩
      · exact ⟨TyOk.mono (z.2 k hk).2 trivial, .inr (z.2 k hk).2⟩
    · have fb' := fd.bind sm rb bd ht (by
        rcases hty with z | z
        · exact .inl (pure0 z)
        · exact .inr fun k hk => (z.2 k hk).1) (fun j hj a ha hFa => by
        rcases sepFA with z | z
        · rw [pure0 z] at hFa
          exact nomatch hFa
        · have e1 : fsW Fs' (tgs tg) j = Fs' j := by
            unfold fsW
            rw [if_neg hj]
          rw [e1, wipeT_get.1 j hj] at ha
          by_cases mz : j ∈ fz ++ fx
          · obtain ⟨p1, p2⟩ := f'.pin j mz
            rw [p1, p2] at ha
            exact z j a ha (hF a hFa)
          · exact f'.pr j mz a ha (.inr (.inr (hF a hFa)))) (fun a ha => fi.bal (wk.al a (hF a ha)))
      refine ⟨w', σb, Fs3, fb, fb', efb, ?_⟩
      cases fb with
      | nx s2 => exact fun a b cc q => ⟨s2, cc, q, hfl⟩
      | ct s2 => exact fun a b cc q => ⟨s2, cc, q, hfl⟩
      | bk s2 =>
        cases hfl
        exact fun a b cc q => po a b cc (fi.leave wk.same q)
      | rt d =>
        cases hfl
        exact fun v H3 F3 r => po v H3 F3 ⟨r.same, r.rep, r.ty, r.fr, r.bd⟩
  · left
    have e1 : xs.drop i = [] := List.drop_eq_nil_of_le (by omega)
    rw [e1] at hfl
    cases hfl
    have e2 : i = xs.length := by omega
    subst e2
    exact ⟨wk.walk.stop H' f'.imm prot, po _ _ _ (fi.leave wk.same f')⟩
/-- what may be handed back -/
def rtB (sg ms : Nat → Sig) (K : Fk) (fz : List Nat) (e : IE) : Bool := decide (tyE sg ms e K.kd ≤ K.rty) && (decide (K.rty = 0) || (decide (frE sg ms e K.kd ≤ K.rfr) || match e with
  | .var i => decide (K.md i ≤ K.rfr) && !fz.contains i
  | .rev (.var i) => decide (K.md i ≤ 1) && !fz.contains i
  | .tup (.cons e1 (.cons (.var i) .nil)) => decide (frE sg ms e1 K.kd ≤ 1) && (decide (K.md i ≤ 1) && !fz.contains i)
  | _ => false))
theorem d_ret {e : IE} (hb : rtB Y.sg Y.ms K fz e = true) {D : Ends} {σc : L2.St} {H : Hp} (h : tS Y (gc Y X) K fz (.ret e) D σc H) (hv : K.rty ≠ 0 → frE Y.sg Y.ms e K.kd ≤ K.rfr) : tRet (tE Y (gc Y X) K.kd e) D σc H := by
  obtain ⟨w, σ, Fs, f, fi, he, po⟩ := h
  obtain ⟨d, ed, h2⟩ := bind_ok (show (evE Y.Φ Y.M e σ).bind _ = _ from he)
  cases h2
  refine ⟨σ, Fs, d, fi.rel, ed, fun v H' F rs => po v H' F ⟨fi.sb.trans rs.same, rs.rep, TyOk.mono ?_ rs.ty, ?_, fun a ha => fi.bal (rs.al a ha)⟩⟩
  · unfold rtB at hb
    exact of_decide_eq_true (and2 hb).1
  · by_cases z : K.rty = 0
    · have ty := rs.ty
      unfold rtB at hb
      have := of_decide_eq_true (and2 hb).1
      have ty0 : TyOk 0 d := TyOk.mono (by omega) ty
      exact FrOk.pure ty0 (rs.rep.pure_nil ty0)
    · have h1 := (rs.fr.back fi.sb).up (hv z)
      unfold fr0
      rw [if_neg z]
      exact h1
theorem d_retV {i : Nat} (hb : rtB Y.sg Y.ms K fz (.var i) = true) (hm : K.md i ≤ K.rfr) (hz : i ∉ fz) (h0 : K.rty ≠ 0) {D : Ends} {σc : L2.St} {H : Hp} (h : tS Y (gc Y X) K fz (.ret (.var i)) D σc H) : tRet (tVar i) D σc H := by
  obtain ⟨w, σ, Fs, f, fi, he, po⟩ := h
  obtain ⟨d, ed, h2⟩ := bind_ok (show (evE Y.Φ Y.M (.var i) σ).bind _ = _ from he)
  cases h2
  have hd := get_ok ed
  obtain ⟨v, e1, rv⟩ := fi.rel.rep i d hd
  unfold rtB at hb
  have ht : K.kd i ≤ K.rty := of_decide_eq_true (and2 hb).1
  have free : ∀ a ∈ Us (K.md i) σ[i]? (Fs i), w.Hb a = none := fun a ha => by
    cases q : w.Hb a with
    | none => rfl
    | some o => exact absurd (fi.ww.pb a o q) (fi.pr i hz a ha)
  refine ⟨v, e1, po v H (Fs i) ⟨fi.sb, rv, TyOk.mono ht (fi.rel.ty i d hd), ?_, fi.bd i⟩⟩
  unfold fr0
  rw [if_neg h0]
  refine ⟨fun h1 => ?_, fun h1 hL => ?_⟩
  · have m1 : K.md i ≤ 1 := by omega
    rw [Us_one m1] at free
    exact ⟨fi.nd i m1, free⟩
  · cases d with
    | lst xs =>
      generalize hF : Fs i = F at rv
      cases rv with
      | lst ea ra =>
      rename_i a vs F'
      refine ⟨a, F', rfl, rfl, free a ?_, fi.top i _ hd (by omega) hL a F' hF⟩
      refine Us_mono (show K.md i ≤ 2 by omega) ?_
      unfold Us
      rw [if_neg (by omega), if_pos rfl, hd]
      show a ∈ if Ev.D.isL _ then _ else _
      rw [if_pos hL, hF]
      exact List.mem_singleton.mpr rfl
    | dct kvs =>
      generalize hF : Fs i = F at rv
      cases rv with
      | dct ea em ra =>
      rename_i a vs F'
      refine ⟨a, F', rfl, rfl, free a ?_, fi.top i _ hd (by omega) hL a F' hF⟩
      refine Us_mono (show K.md i ≤ 2 by omega) ?_
      unfold Us
      rw [if_neg (by omega), if_pos rfl, hd]
      show a ∈ if Ev.D.isL _ then _ else _
      rw [if_pos hL, hF]
      exact List.mem_singleton.mpr rfl
    | dcn kvs =>
      generalize hF : Fs i = F at rv
      cases rv with
      | dcn ea em k1 ra =>
      rename_i a oo xs F'
      refine ⟨a, F', rfl, rfl, free a ?_, fi.top i _ hd (by omega) hL a F' hF⟩
      refine Us_mono (show K.md i ≤ 2 by omega) ?_
      unfold Us
      rw [if_neg (by omega), if_pos rfl, hd]
      show a ∈ if Ev.D.isL _ then _ else _
      rw [if_pos hL, hF]
      exact List.mem_singleton.mpr rfl
    | _ => cases hL
theorem ty_revL {k : Nat} {xs : List Ev.D} (t : TyOk k (.lst xs)) : TyOk k (.lst xs.reverse) := by
  match k, t with
  | 0, t => cases t
  | 1, t => exact (show pureAll _ = true from pureAll_sub (show pureAll _ = true from t) fun d hd => List.mem_reverse.mp hd)
  | _ + 2, _ => trivial
theorem ty_revT {k : Nat} {xs : List Ev.D} (t : TyOk k (.tup xs)) : TyOk k (.tup xs.reverse) := by
  match k, t with
  | 0, t => exact (show pureAll _ = true from pureAll_sub (show pureAll _ = true from t) fun d hd => List.mem_reverse.mp hd)
  | 1, t => exact (show pureAll _ = true from pureAll_sub (show pureAll _ = true from t) fun d hd => List.mem_reverse.mp hd)
  | _ + 2, _ => trivial
theorem FI.freeOf {kd md : Nat → Nat} {w : Wd} {σ : Sg} {σc : L2.St} {H : Hp} {Fs : Nat → List Addr} {G : GC} (fi : FI G kd md fz w σ σc H Fs) {i : Nat} (hm : md i ≤ 1) (hz : i ∉ fz) {a : Addr} (ha : a ∈ Fs i) : w.Hb a = none := by
  cases q : w.Hb a with
  | none => rfl
  | some o => exact absurd (fi.ww.pb a o q) (fi.pr i hz a (by rw [Us_one hm]; exact ha))
/-- x[::-1] handed back, x being one's own -/
theorem d_retR {i : Nat} (ht : K.kd i ≤ K.rty) (hm : K.md i ≤ 1) (hz : i ∉ fz) {D : Ends} {σc : L2.St} {H : Hp} (h : tS Y (gc Y X) K fz (.ret (.rev (.var i))) D σc H) : tRet (fun σ H Q => tRevL X.K (tVar i) σ H Q ∨ tRevT X.K (tVar i) σ H Q) D σc H := by
  obtain ⟨w, σ, Fs, f, fi, he, po⟩ := h
  obtain ⟨d, ed, h2⟩ := bind_ok (show (evE Y.Φ Y.M (.rev (.var i)) σ).bind _ = _ from he)
  cases h2
  obtain ⟨d0, ed0, h3⟩ := bind_ok (show (evE Y.Φ Y.M (.var i) σ).bind _ = _ from ed)
  have hd := get_ok (show getV σ i = .ok d0 from ed0)
  obtain ⟨v, e1, rv⟩ := fi.rel.rep i d0 hd
  have ty0 := TyOk.mono ht (fi.rel.ty i d0 hd)
  have nd := fi.nd i hm
  have fr := fun a (ha : a ∈ Fs i) => fi.freeOf hm hz ha
  have bd := fi.bd i
  generalize Fs i = F at rv nd fr bd
  split at h3
  · rename_i xs
    cases h3
    cases rv with
    | lst e r =>
    rename_i a vs F0
    obtain ⟨F', r', pm⟩ := r.rev
    refine .inl ⟨_, e1, a, vs, rfl, SqL.of e, fun t ht0 => po _ _ (t :: F') ?_⟩
    have nt := notin_none r' ht0
    rw [List.nodup_cons] at nd
    refine ⟨fi.sb.trans (same_laid ht0), .lst upd_same (r'.laid ht0), ?_, ?_, fun b hb => ?_⟩
    · exact ty_revL ty0
    · have all : (t :: F').Nodup ∧ ∀ b ∈ t :: F', w.Hb b = none := ⟨List.nodup_cons.mpr ⟨nt, pm.nodup_iff.mpr nd.2⟩, fun b hb => by
        rcases List.mem_cons.mp hb with z | z
        · rw [z]
          exact fi.sb.free ht0
        · exact fr b (List.mem_cons_of_mem _ (pm.mem_iff.mp z))⟩
      exact ⟨fun _ => all, fun _ _ => ⟨t, F', rfl, rfl, all.2 t (List.mem_cons_self ..), nt⟩⟩
    · rcases List.mem_cons.mp hb with z | z
      · rw [z]
        exact fi.fb ht0
      · exact bd b (List.mem_cons_of_mem _ (pm.mem_iff.mp z))
  · rename_i xs
    cases h3
    cases rv with
    | tup e r =>
    rename_i a vs
    obtain ⟨F', r', pm⟩ := r.rev
    refine .inr ⟨_, e1, a, vs, rfl, e, fun t ht0 => po _ _ F' ?_⟩
    refine ⟨fi.sb.trans (same_laid ht0), .tup (SqT.of upd_same) (r'.laid ht0), ?_, ?_, fun b hb => bd b (pm.mem_iff.mp hb)⟩
    · exact ty_revT ty0
    · exact FrOk.noL _ rfl fun _ => ⟨pm.nodup_iff.mpr nd, fun b hb => fr b (pm.mem_iff.mp hb)⟩
  · cases h3
/-- (e, x) handed back, x being one's own -/
theorem d_retT {i : Nat} {e : IE} (ht : tyE Y.sg Y.ms (.tup (.cons e (.cons (.var i) .nil))) K.kd ≤ K.rty) (hf : frE Y.sg Y.ms e K.kd ≤ 1) (hm : K.md i ≤ 1) (hz : i ∉ fz) {D : Ends} {σc : L2.St} {H : Hp} (h : tS Y (gc Y X) K fz (.ret (.tup (.cons e (.cons (.var i) .nil)))) D σc H) :
    tRet (tTup (tCons (tE Y (gc Y X) K.kd e) (tCons (tVar i) tNil))) D σc H := by
  obtain ⟨w, σ, Fs, f, fi, he, po⟩ := h
  obtain ⟨d, ed, h2⟩ := bind_ok (show (evE Y.Φ Y.M (.tup (.cons e (.cons (.var i) .nil))) σ).bind _ = _ from he)
  cases h2
  obtain ⟨ds, eds, h3⟩ := bind_ok (show (evEs Y.Φ Y.M (.cons e (.cons (.var i) .nil)) σ).bind _ = _ from ed)
  obtain ⟨_, hc, h4⟩ := bind_ok h3
  cases h4
  have eds0 := eds
  obtain ⟨d1, ed1, h5⟩ := bind_ok (show (evE Y.Φ Y.M e σ).bind _ = _ from eds)
  obtain ⟨dr, edr, h6⟩ := bind_ok h5
  cases h6
  obtain ⟨d2, ed2, h7⟩ := bind_ok (show (evE Y.Φ Y.M (.var i) σ).bind _ = _ from edr)
  cases h7
  have hd := get_ok (show getV σ i = .ok d2 from ed2)
  obtain ⟨v2, e2, rv2⟩ := fi.rel.rep i d2 hd
  refine ⟨σ, Fs, d1, fi.rel, ed1, fun v1 H1 F1 r1 => ⟨v2, e2, of_decide_eq_true (chk_ok hc), fun t ht0 => ?_⟩⟩
  have nd := fi.nd i hm
  obtain ⟨n1, n2⟩ := r1.fr.1 hf
  have sm := r1.same.trans (same_laid (o := .tup [v1, v2]) ht0)
  refine po _ _ (F1 ++ (Fs i ++ [])) ⟨fi.sb.trans sm, .tup (SqT.of upd_same) (.cons (r1.rep.same (same_laid ht0)) (.cons (rv2.same sm) .nil)), ?_, FrOk.noL _ rfl fun _ => ⟨?_, fun a ha => ?_⟩, fun a ha => ?_⟩
  · refine TyOk.mono ht ?_
    show TyOk (if all0 Y.sg Y.ms (.cons e (.cons (.var i) .nil)) K.kd then 0 else 2) _
    split
    · rename_i z
      exact all0_pure eds0 z ⟨r1.ty, fi.rel.ty i d2 hd, trivial⟩
    · trivial
  · rw [List.append_nil]
    refine List.nodup_append.mpr ⟨n1, nd, fun a ha b hb q => ?_⟩
    subst q
    obtain ⟨o, q⟩ := fi.rel.tr i a hb
    rw [n2 a ha] at q
    cases q
  · rw [List.append_nil] at ha
    rcases List.mem_append.mp ha with z | z
    · exact fi.sb.free (n2 a z)
    · exact fi.freeOf hm hz z
  · rw [List.append_nil] at ha
    rcases List.mem_append.mp ha with z | z
    · exact fi.fb (n2 a z)
    · exact fi.bd i a z
theorem d_retN {D : Ends} {σc : L2.St} {H : Hp} (h : tS Y (gc Y X) K fz .retn D σc H) : tRetN D σc H := by
  obtain ⟨w, σ, Fs, f, fi, he, po⟩ := h
  cases he
  exact po .non H [] ⟨fi.sb, .non, TyOk.pure rfl _, FrOk.pure rfl rfl, fun a ha => nomatch ha⟩
theorem d_tasg {is : List Nat} {e : IE} (ht : ∀ k ∈ is, k ∉ fz) (hty : tyE Y.sg Y.ms e K.kd ≤ 1 ∨ (alB K.md is (alP Y.sg Y.ms e K.kd).2 = true ∧ ∀ k ∈ is, 3 ≤ K.md k ∧ 2 ≤ K.kd k)) {D : Ends} {σc : L2.St} {H : Hp} (h : tS Y (gc Y X) K fz (.tasg is e) D σc H) :
    tAsg (tE Y (gc Y X) K.kd e) (gT X.K (.many is)) D σc H := by
  obtain ⟨w, σ, Fs, f, fi, he, po⟩ := h
  obtain ⟨d, ed, h2⟩ := bind_ok (show (evE Y.Φ Y.M e σ).bind _ = _ from he)
  obtain ⟨σ', eb, h3⟩ := bind_ok h2
  cases h3
  refine ⟨σ, Fs, d, fi.rel, ed, fun v H1 F rs => ?_⟩
  obtain ⟨g1, g2, g3⟩ := wipeT_get (tg := .many is) (σ := σ)
  have fd := fi.drop (ts := is) (σ' := wipeT (.many is) σ) ht g1 g2 g3
  rw [← bindT_wipe] at eb
  have ep1 : tyE Y.sg Y.ms e K.kd ≤ 1 → d.ep = true := fun z => TyOk.mono z rs.ty
  refine bd_many (G := gc Y X) eb (fd.rel.same rs.same) rs.rep (fun k hk => by unfold fsW; rw [if_pos hk]) (fun k hk => ?_) fun σc3 Fs3 rb bd _ => ?_
  · rcases hty with z | z
    · exact .inl (ep1 z)
    · exact .inr (z.2 k hk).2
  · refine po _ _ _ (fd.bind rs.same rb bd ht ?_ (fun j hj a ha hFa => ?_) fun a ha => fi.bal (rs.an a ha))
    · rcases hty with z | z
      · exact .inl (rs.rep.ep_inner (ep1 z))
      · exact .inr fun k hk => (z.2 k hk).1
    · rcases hty with z | z
      · rw [rs.rep.ep_inner (ep1 z)] at hFa
        exact nomatch hFa
      · have e1 : fsW Fs is j = Fs j := by
          unfold fsW
          rw [if_neg hj]
        rw [e1, g1 j hj] at ha
        rcases rs.an a hFa with q | q
        · obtain ⟨o, y⟩ := fi.rel.tr j a (Us_sub ha)
          rw [y] at q
          cases q
        · exact fi.sep z.1 hj ha q
theorem d_tasgk {is ks : List Nat} {e : IE} (ht : ∀ k ∈ is, k ∉ fz) (hk : leK K.kd ks is = true) (ha : alB K.md is (alP Y.sg Y.ms e K.kd).2 = true) (hm : ∀ k ∈ is, 3 ≤ K.md k) {D : Ends} {σc : L2.St} {H : Hp} (h : tS Y (gc Y X) K fz (.tasgk is ks e) D σc H) :
    tAsg (tE Y (gc Y X) K.kd e) (gT X.K (.many is)) D σc H := by
  obtain ⟨w, σ, Fs, f, fi, he, po⟩ := h
  obtain ⟨d, ed, h2⟩ := bind_ok (show (evE Y.Φ Y.M e σ).bind _ = _ from he)
  cases d with
  | tup ds =>
    obtain ⟨_, hc, h2⟩ := bind_ok (show (chk (tyChk ks ds)).bind _ = _ from h2)
    obtain ⟨σ', eb, h3⟩ := bind_ok h2
    cases h3
    refine ⟨σ, Fs, .tup ds, fi.rel, ed, fun v H1 F rs => ?_⟩
    obtain ⟨g1, g2, g3⟩ := wipeT_get (tg := .many is) (σ := σ)
    have fd := fi.drop (ts := is) (σ' := wipeT (.many is) σ) ht g1 g2 g3
    rw [← bindT_wipe] at eb
    refine bd_many2 (G := gc Y X) eb (fd.rel.same rs.same) rs.rep (fun k hk => by unfold fsW; rw [if_pos hk]) (tyP_of hk (chk_ok hc)) fun σc3 Fs3 rb bd _ => ?_
    refine po _ _ _ (fd.bind rs.same rb bd ht (.inr hm) (fun j hj a ha2 hFa => ?_) fun a ha => fi.bal (rs.an a ha))
    have e1 : fsW Fs is j = Fs j := by
      unfold fsW
      rw [if_neg hj]
    rw [e1, g1 j hj] at ha2
    rcases rs.an a hFa with q | q
    · obtain ⟨o, y⟩ := fi.rel.tr j a (Us_sub ha2)
      rw [y] at q
      cases q
    · exact fi.sep ha hj ha2 q
  | _ => cases h2
theorem Reps.erase {G : GC} {H : Hp} : ∀ {vs : List V} {ds : List Ev.D} {F : List Addr}, Reps G H vs ds F → F = [] → ∀ m : Nat, Reps G H (vs.eraseIdx m) (ds.eraseIdx m) []
  | _, _, _, .nil, _, m => by
    rw [List.eraseIdx_nil, List.eraseIdx_nil]
    exact .nil
  | _, _, _, .cons r rs, e, 0 => by
    obtain ⟨_, e2⟩ := List.append_eq_nil_iff.mp e
    subst e2
    exact rs
  | _, _, _, .cons r rs, e, m + 1 => by
    obtain ⟨e1, e2⟩ := List.append_eq_nil_iff.mp e
    subst e1
    exact .cons r (rs.erase e2 m)
theorem ty_lst {k : Nat} {xs ys : List Ev.D} (t : TyOk k (.lst xs)) (h : pureAll xs = true → pureAll ys = true) : TyOk k (.lst ys) := by
  match k, t with
  | 0, t => cases t
  | 1, t => exact h t
  | _ + 2, _ => trivial
theorem d_apop {i j : Nat} {e : IE} (hi : i ∉ fz) (hj : j ∉ fz) (hij : i ≠ j) (mi : K.md i ≤ 2) (mj : K.md j ≤ 2) {D : Ends} {σc : L2.St} {H : Hp} (h : tS Y (gc Y X) K fz (.apop i j e) D σc H) :
    tBM X.K "list" rAppend (tVar i) (tCons (tBM X.K "list" rPopAt (tVar j) (tCons (tE Y (gc Y X) K.kd e) tNil)) tNil) σc H fun _ H1 => D.nx σc H1 := by
  obtain ⟨w, σ, Fs, f, fi, he, po⟩ := h
  obtain ⟨c, ec, h2⟩ := bind_ok (show (getV σ i).bind _ = _ from he)
  obtain ⟨d, ed, h3⟩ := bind_ok h2
  obtain ⟨x, ex, h4⟩ := bind_ok h3
  obtain ⟨p, ep, h5⟩ := bind_ok h4
  cases h5
  unfold apopD at ep
  split at ep
  · rename_i xs ys k
    obtain ⟨_, hc, h6⟩ := bind_ok ep
    have hz := chk_ok hc
    rw [Bool.and_eq_true, Bool.and_eq_true, Bool.and_eq_true] at hz
    obtain ⟨z1, z2, z3, z4⟩ := hz
    split at h6
    · rename_i m hm
      split at h6
      · rename_i v hv0
        cases h6
        have gi := get_ok ec
        have gj := get_ok ed
        obtain ⟨vi, hvi, ri⟩ := fi.rel.rep i _ gi
        obtain ⟨vj, hvj, rj⟩ := fi.rel.rep j _ gj
        generalize hFi : Fs i = Fi at ri
        generalize hFj : Fs j = Fj at rj
        cases ri with
        | lst ea ra =>
        rename_i a va Fa
        cases rj with
        | lst eb rb =>
        rename_i b vb Fb
        have eFb := rb.pure_nil z2
        subst eFb
        have aU : a ∈ Us (K.md i) σ[i]? (Fs i) := by
          refine Us_mono mi ?_
          unfold Us
          rw [if_neg (by omega), if_pos rfl, gi, hFi]
          exact List.mem_singleton.mpr rfl
        have bU : b ∈ Us (K.md j) σ[j]? (Fs j) := by
          refine Us_mono mj ?_
          unfold Us
          rw [if_neg (by omega), if_pos rfl, gj, hFj]
          exact List.mem_singleton.mpr rfl
        have ab : a ≠ b := fun z => fi.dj i j hij a aU (by rw [hFj, z]; exact List.mem_cons_self ..)
        have bFa : b ∉ Fa := fun z => fi.dj j i (Ne.symm hij) b bU (by rw [hFi]; exact List.mem_cons_of_mem _ z)
        have aFa : a ∉ Fa := fi.top i _ gi mi rfl a Fa hFi
        refine ⟨_, hvi, .inl ⟨rfl, _, SqL.of ea⟩, ⟨_, hvj, .inl ⟨rfl, _, SqL.of eb⟩, σ, Fs, _, fi.rel, ex, fun u H1 Fe rs => ?_⟩⟩
        have eu := rs.rep.scalar
        subst eu
        obtain ⟨vv, Fv, e1, rv, sub⟩ := rb.get hv0
        have eFv : Fv = [] := List.eq_nil_iff_forall_not_mem.mpr fun q hq => nomatch sub q hq
        subst eFv
        have hm' : ixN vb.length k = some m := by
          rw [rb.length]
          exact hm
        have hb1 := rs.same b _ eb
        have ha1 := rs.same a _ ea
        refine ⟨b, vb, k, m, vv, rfl, rfl, hb1, of_decide_eq_true z3, of_decide_eq_true z4, (ixN_seq hm').1, e1, ?_⟩
        have rb1 : Reps (gc Y X) (upd H1 b (.lst (vb.eraseIdx m))) (vb.eraseIdx m) (ys.eraseIdx m) [] := stays_upd ((rb.same rs.same).erase rfl m) hb1 rfl fun z => nomatch z
        have fi1 := fi.put (i := j) (al := ([], [])) (Fn := []) rs.same gj rfl hvj hFj hj mj hb1 rfl (Rep.lst (upd_same (o := .lst (vb.eraseIdx m))) rb1) (ty_lst (fi.rel.ty j _ gj) fun hp => pureAll_sub hp fun q hq => List.mem_of_mem_eraseIdx hq) rfl (fun z => nomatch z) (fun q hq => nomatch hq) rfl fun _ => ⟨List.nodup_nil, fun q hq => nomatch hq⟩
        have gi1 : (σ.set j (some (.lst (ys.eraseIdx m))))[i]? = some (some (.lst xs)) := by
          rw [List.getElem?_set_ne (Ne.symm hij)]
          exact gi
        have hF1 : fsT Fs j (b :: []) i = a :: Fa := by
          rw [fsT_ne hij]
          exact hFi
        have ha2 : upd H1 b (.lst (vb.eraseIdx m)) a = some (.lst va) := by
          rw [upd_ne ab]
          exact ha1
        refine ⟨a, va, vv, rfl, rfl, ha2, by rw [ra.length]; exact of_decide_eq_true z1, ?_⟩
        have ra2 := stays_upd (o' := .lst (vb.eraseIdx m)) (ra.same rs.same) hb1 rfl bFa
        have rv2 := stay_upd (o' := .lst (vb.eraseIdx m)) (rv.same rs.same) hb1 rfl fun z => nomatch z
        have ra3 : Reps (gc Y X) (upd (upd H1 b (.lst (vb.eraseIdx m))) a (.lst (va ++ [vv]))) (va ++ [vv]) (xs ++ [v]) (Fa ++ ([] ++ [])) := Reps.append (stays_upd ra2 ha2 rfl aFa) (.cons (stay_upd rv2 ha2 rfl fun z => nomatch z) .nil)
        rw [List.append_nil, List.append_nil] at ra3
        refine po _ _ _ (fi1.put (i := i) (al := ([], [])) (Fn := Fa) (Same.refl _) gi1 rfl hvi hF1 hi mi ha2 rfl (Rep.lst (upd_same (o := .lst (va ++ [vv]))) ra3) (ty_lst (fi.rel.ty i _ gi) fun hp => ?_) rfl aFa (fun q hq => .inl hq) rfl fun m1 => ⟨?_, fun q hq => .inl hq⟩)
        · rw [pureAll_append, hp, Bool.true_and]
          exact (Bool.and_true _).trans (mem_pureAll z2 (List.mem_of_getElem? hv0))
        · have := fi.nd i m1
          rw [hFi, List.nodup_cons] at this
          exact this.2
      · cases h6
    · cases h6
  · cases ep
end
end Ev

/-! Part D5: lists written that stand within a slot's list or tuple. -/
namespace Ev
open PySem PySem.Spec PyProof.Rows L2
theorem imm_upd {H : Hp} {a : Addr} {o o' : HO} (h : H a = some o) (m : Mu o = true) : Imm H (upd H a o') := fun b u q => by
  by_cases z : b = a
  · subst z
    rw [h] at q
    cases q
    exact ⟨fun z => by rw [m] at z; (cases z), o', upd_same⟩
  · rw [upd_ne z]
    exact ⟨fun _ => q, u, q⟩
/-- all but a as it was -/
def But (a : Addr) (H H' : Hp) : Prop := ∀ b o, b ≠ a → H b = some o → H' b = some o
theorem But.of {a : Addr} {H H' : Hp} (s : Same H H') : But a H H' := fun b o _ q => s b o q
theorem But.put {a : Addr} {H H' : Hp} {o : HO} (s : But a H H') : But a H (upd H' a o) := fun b u n q => by
  rw [upd_ne n]
  exact s b u n q
theorem But.trans {a : Addr} {H H1 H2 : Hp} (s : But a H H1) (t : But a H1 H2) : But a H H2 := fun b o n q => t b o n (s b o n q)
theorem sqL_same {K : PySem.W.Frag} {H H' : Hp} {a : Addr} {xs : List V} (s : Same H H') (h : SqL K H a xs) : SqL K H' a xs := by
  rcases h with (h | ⟨o, h⟩) | h
  · exact .inl (.inl (s _ _ h))
  · exact .inl (.inr ⟨o, s _ _ h⟩)
  · exact .inr h
section
variable {G : GC} {H H' : Hp}
theorem imm_but {a : Addr} {o u : HO} (h : H a = some o) (m : Mu o = true) (s : But a H H') (t : H' a = some u) : Imm H H' := fun b z q => by
  by_cases e : b = a
  · subst e
    rw [h] at q
    cases q
    exact ⟨fun z => by rw [m] at z; (cases z), _, t⟩
  · exact ⟨fun _ => s b z e q, z, s b z e q⟩
theorem Rep.but {a : Addr} {o u : HO} (h : H a = some o) (m : Mu o = true) (s : But a H H') (t : H' a = some u) {v : V} {d : D} {F : List Addr} (r : Rep G H v d F) (n : a ∉ F) : Rep G H' v d F :=
  r.stay (imm_but h m s t) fun b hb => by
    obtain ⟨z, q⟩ := r.there b hb
    rw [q, s b z (fun e => n (e ▸ hb)) q]
theorem Reps.but {a : Addr} {o u : HO} (h : H a = some o) (m : Mu o = true) (s : But a H H') (t : H' a = some u) {vs : List V} {ds : List D} {F : List Addr} (r : Reps G H vs ds F) (n : a ∉ F) : Reps G H' vs ds F :=
  r.stay (imm_but h m s t) fun b hb => by
    obtain ⟨z, q⟩ := r.there b hb
    rw [q, s b z (fun e => n (e ▸ hb)) q]
theorem Reps.slot {ys : List D} (py : pureAll ys = true) : ∀ {j : Nat} {vs : List V} {ds : List D} {F : List Addr}, Reps G H vs ds F → F.Nodup → ds[j]? = some (.lst ys) → ∃ a vs0, vs[j]? = some (.ref a) ∧ H a = some (.lst vs0) ∧ a ∈ F ∧ Reps G H vs0 ys [] ∧ ∀ H', But a H H' → ∀ e, Rep G H' (.ref a) e [a] → Reps G H' vs (ds.set j e) F
  | _, _, _, _, .nil, _, h => by simp at h
  | 0, _, _, _, .cons (F := F1) (Fs := Fb) r rs, nd, h => by
    simp at h
    subst h
    cases r with
    | lst e r0 =>
    rename_i a vs0 F0
    have e0 := r0.pure_nil py
    subst e0
    have na : a ∉ Fb := fun z => (List.nodup_append.mp nd).2.2 a (List.mem_cons_self ..) a z rfl
    refine ⟨a, vs0, rfl, e, List.mem_cons_self .., r0, fun H' sm u hu => ?_⟩
    obtain ⟨z, q⟩ := hu.there a (List.mem_cons_self ..)
    exact .cons hu (Reps.but e rfl sm q rs na)
  | j + 1, _, _, _, .cons (F := F1) (Fs := Fb) r rs, nd, h => by
    obtain ⟨a, vs0, h1, h2, h3, h4, h5⟩ := Reps.slot py (j := j) rs (List.nodup_append.mp nd).2.1 (by simpa using h)
    have na : a ∉ F1 := fun z => (List.nodup_append.mp nd).2.2 a z a h3 rfl
    refine ⟨a, vs0, by simpa using h1, h2, List.mem_append_right _ h3, h4, fun H' sm u hu => ?_⟩
    obtain ⟨z, q⟩ := hu.there a (List.mem_cons_self ..)
    exact .cons (Rep.but h2 rfl sm q r na) (h5 H' sm u hu)
def seqD (b : Bool) (ds : List D) : D := if b then .lst ds else .tup ds
theorem Rep.slot {ys : List D} (py : pureAll ys = true) {b : Bool} {j : Nat} {v : V} {ds : List D} {F : List Addr} (r : Rep G H v (seqD b ds) F) (nd : F.Nodup) (h : ds[j]? = some (.lst ys)) :
    ∃ p vs a vs0, v = .ref p ∧ (SqL G.K H p vs ∨ SqT G.K H p vs) ∧ vs.length = ds.length ∧ vs[j]? = some (.ref a) ∧ H a = some (.lst vs0) ∧ a ∈ F ∧ Reps G H vs0 ys [] ∧ ∀ H', But a H H' → ∀ e, Rep G H' (.ref a) e [a] → Rep G H' v (seqD b (ds.set j e)) F := by
  cases b with
  | true =>
    cases (show Rep G H v (.lst ds) F from r) with
    | lst e r0 =>
    rename_i p vs F0
    rw [List.nodup_cons] at nd
    obtain ⟨a, vs0, h1, h2, h3, h4, h5⟩ := r0.slot py nd.2 h
    have ne : p ≠ a := fun z => nd.1 (z ▸ h3)
    exact ⟨p, vs, a, vs0, rfl, .inl (SqL.of e), r0.length, h1, h2, List.mem_cons_of_mem _ h3, h4, fun H' sm u hu => .lst (sm p _ ne e) (h5 H' sm u hu)⟩
  | false =>
    cases (show Rep G H v (.tup ds) F from r) with
    | tup e r0 =>
    rename_i p vs
    obtain ⟨a, vs0, h1, h2, h3, h4, h5⟩ := r0.slot py nd h
    refine ⟨p, vs, a, vs0, rfl, .inr e, r0.length, h1, h2, h3, h4, fun H' sm u hu => ?_⟩
    obtain ⟨z, q⟩ := hu.there a (List.mem_cons_self ..)
    exact .tup (sqt_imm (imm_but h2 rfl sm q) e) (h5 H' sm u hu)
end
section
variable {G : GC} {kd md : Nat → Nat} {fz : List Nat} {w : Wd} {σ : Sg} {σc : L2.St} {H H' : Hp} {Fs : Nat → List Addr}
/-- a list written that stands within a slot's own thing -/
theorem FI.putIn (f : FI G kd md fz w σ σc H Fs) {i : Nat} {d d' : D} {v : V} {a : Addr} {o o' : HO} (s : Same H H') (hd : σ[i]? = some (some d)) (hv : σc[i]? = some (some v)) (hi : i ∉ fz) (hm : md i ≤ 1) (ha : a ∈ Fs i) (ho : H' a = some o) (hmu : Mu o = true)
    (rv : Rep G (upd H' a o') v d' (Fs i)) (ty : TyOk (kd i) d') : FI G kd md fz w (σ.set i (some d')) σc (upd H' a o') Fs := by
  have f' := f.same s
  have aU : a ∈ Us (md i) σ[i]? (Fs i) := by
    rw [Us_one hm]
    exact ha
  have aP : ¬ w.P a := f.pr i hi a aU
  have im : Imm H' (upd H' a o') := imm_upd ho hmu
  have nU : ∀ j, ∀ b ∈ Us (md j) (σ.set i (some d'))[j]? (Fs j), b ∈ Us (md j) σ[j]? (Fs j) := fun j b hb => by
    by_cases e : j = i
    · subst e
      rw [Us_one hm] at hb ⊢
      exact hb
    · rw [List.getElem?_set_ne (Ne.symm e)] at hb
      exact hb
  refine ⟨⟨fun j e he => ?_, fun j e he => ?_, by rw [f.rel.len, List.length_set], fun j b hb => ?_⟩, f.nd, fun j e he hj hl b F2 e2 => ?_, fun j k hjk b hb => f.dj j k hjk b (nU j b hb), fun j hj b hb => f.pr j hj b (nU j b hb), f.bd, fun j hj => ?_, f'.imm.trans im, fun b hp => ?_, f.ww⟩
  · rcases set_some he with ⟨rfl, rfl⟩ | ⟨z, he⟩
    · exact ⟨v, hv, rv⟩
    · obtain ⟨u, e1, e2⟩ := f'.rel.rep j e he
      refine ⟨u, e1, e2.stay im fun b hb => upd_ne fun z2 => ?_⟩
      subst z2
      exact f.dj i j z b aU hb
  · rcases set_some he with ⟨rfl, rfl⟩ | ⟨z, he⟩
    · exact ty
    · exact f.rel.ty j e he
  · obtain ⟨o2, q⟩ := f'.rel.tr j b hb
    exact (im b o2 q).2
  · by_cases e3 : j = i
    · subst e3
      have := f.nd j hm
      rw [e2, List.nodup_cons] at this
      exact this.1
    · rw [List.getElem?_set_ne (Ne.symm e3)] at he
      exact f.top j e he hj hl b F2 e2
  · have e : j ≠ i := fun z => hi (z ▸ hj)
    rw [List.getElem?_set_ne (Ne.symm e)]
    exact f.pin j hj
  · have z : b ≠ a := fun z => aP (z ▸ hp)
    rw [upd_ne z]
    exact f'.kp b hp
/-- a slot of which nothing is told -/
theorem FI.anyC (f : FI G kd md fz w σ σc H Fs) {x : Nat} {u : V} (hx : ∀ d, σ[x]? ≠ some (some d)) : FI G kd md fz w σ (σc.set x (some u)) H Fs := by
  refine ⟨⟨fun j e he => ?_, f.rel.ty, by rw [List.length_set]; exact f.rel.len, f.rel.tr⟩, f.nd, f.top, f.dj, f.pr, f.bd, f.pin, f.imm, f.kp, f.ww⟩
  have ne : x ≠ j := fun z => hx e (z ▸ he)
  rw [List.getElem?_set_ne ne]
  exact f.rel.rep j e he
end
theorem muAt_ok {m : MU} {d kx d' : D} {xs : List D} (h : muAt m d kx xs = .ok d') : ∃ (k : Int) (b : Bool) (ds : List D) (j : Nat) (ys : List D) (y : D), kx = .int k ∧ d = seqD b ds ∧ ixN ds.length k = some j ∧ ds[j]? = some (.lst ys) ∧ pureAll ys = true ∧ muD m (.lst ys) xs = .ok y ∧ d' = seqD b (ds.set j y) := by
  unfold muAt at h
  split at h
  · rename_i ds k
    split at h
    · rename_i j hj
      split at h
      · rename_i ys hy
        obtain ⟨_, hc, h⟩ := bind_ok h
        obtain ⟨y, ey, h⟩ := bind_ok h
        cases h
        exact ⟨k, true, ds, j, ys, y, rfl, rfl, hj, hy, chk_ok hc, ey, rfl⟩
      · cases h
    · cases h
  · rename_i ds k
    split at h
    · rename_i j hj
      split at h
      · rename_i ys hy
        obtain ⟨_, hc, h⟩ := bind_ok h
        obtain ⟨y, ey, h⟩ := bind_ok h
        cases h
        exact ⟨k, false, ds, j, ys, y, rfl, rfl, hj, hy, chk_ok hc, ey, rfl⟩
      · cases h
    · cases h
  · cases h
section
variable {Y : SX} {N : List Str} {X : Cx} {K : Fk} {fz : List Nat}
theorem tE_mono {ie : IE} {kd : Nat → Nat} {σ : L2.St} {H : Hp} {Q Q' : VK} (h : tE Y (gc Y X) kd ie σ H Q) (k : ∀ v H, Q v H → Q' v H) : tE Y (gc Y X) kd ie σ H Q' := by
  obtain ⟨s, Fs, d, rl, e, q⟩ := h
  exact ⟨s, Fs, d, rl, e, fun v H' F r => k _ _ (q v H' F r)⟩
theorem rIx_mono {x y : V} {H : Hp} {Q Q' : VK} (h : rIx X.K x y H Q) (k : ∀ v H, Q v H → Q' v H) : rIx X.K x y H Q' := by
  rcases h with ⟨p, xs, i, v, h1, h2, h3, h4, q⟩ | ⟨p, xs, i, v, h1, h2, h3, h4, q⟩ | ⟨z, i, c, h1, h2, h3, h4, q⟩
  · exact .inl ⟨p, xs, i, v, h1, h2, h3, h4, k _ _ q⟩
  · exact .inr (.inl ⟨p, xs, i, v, h1, h2, h3, h4, k _ _ q⟩)
  · exact .inr (.inr ⟨z, i, c, h1, h2, h3, h4, k _ _ q⟩)
abbrev tAt (Y : SX) (X : Cx) (K : Fk) (i : Nat) (e : IE) : TE := tOp (rIx X.K) (tVar i) (tE Y (gc Y X) K.kd e)
theorem tAt_mono {i : Nat} {e : IE} {σ : L2.St} {H : Hp} {Q Q' : VK} (h : tAt Y X K i e σ H Q) (k : ∀ v H, Q v H → Q' v H) : tAt Y X K i e σ H Q' := by
  obtain ⟨v, hv, h⟩ := h
  exact ⟨v, hv, tE_mono h fun y H2 h => rIx_mono h k⟩
/-- x[e].m(..) -/
theorem d_mutp {i : Nat} {e : IE} {m : MU} {es : IEs} (hm : m ≠ .set) (hi : i ∉ fz) (h1 : K.md i ≤ 1) (h2 : 2 ≤ K.kd i) {D : Ends} {σc : L2.St} {H : Hp} (h : tS Y (gc Y X) K fz (.mut i (.so e) m es) D σc H) :
    tAt Y X K i e σc H fun x H1 => tyV X.K "list" x H1 ∧ tEs Y (gc Y X) K.kd es σc H1 fun xs H2 => rMu m x xs H2 fun _ H3 => D.nx σc H3 := by
  obtain ⟨w, σ, Fs, f, fi, he, po⟩ := h
  obtain ⟨d, ed, g2⟩ := bind_ok (show (getV σ i).bind _ = _ from he)
  obtain ⟨kx, ek, g3⟩ := bind_ok g2
  obtain ⟨xs, exs, g4⟩ := bind_ok g3
  obtain ⟨_, hc, g5⟩ := bind_ok g4
  obtain ⟨d', ed', g6⟩ := bind_ok g5
  cases g6
  have px := chk_ok hc
  obtain ⟨k, b, ds, j, ys, y, rfl, rfl, hj, hy, py, hmu, rfl⟩ := muAt_ok ed'
  have hd := get_ok ed
  obtain ⟨v, hv, rv⟩ := fi.rel.rep i _ hd
  refine ⟨v, hv, σ, Fs, _, fi.rel, ek, fun u H1 F1 r1 => ?_⟩
  have eu := r1.rep.scalar
  subst eu
  have nd := fi.nd i h1
  obtain ⟨p, vs, a, vs0, ev, hs, hl, ha, ea, mem, r0, back⟩ := rv.slot py nd hy
  subst ev
  have at1 : atI vs k = some (.ref a) := by
    unfold atI
    rw [hl, hj]
    exact ha
  have ea1 := r1.same a _ ea
  have hs : SqL X.K H1 p vs ∨ SqT X.K H1 p vs := hs.imp (fun z => sqL_same r1.same z) (sqt_imm (same_imm r1.same))
  have rest : tyV X.K "list" (.ref a) H1 ∧ tEs Y (gc Y X) K.kd es σc H1 fun xs H2 => rMu m (.ref a) xs H2 fun _ H3 => D.nx σc H3 := by
    refine ⟨.inl ⟨rfl, _, SqL.of ea1⟩, σ, Fs, xs, fi.rel.same r1.same, exs, fun us H2 Fe rs => ?_⟩
    have eFe := rs.rep.pure_nil px
    subst eFe
    have sm := r1.same.trans rs.same
    have eb := sm a _ ea
    refine mu_ok hmu hm eb (r0.same sm) rs.rep (fun z => nomatch z) (fun z => nomatch z) fun ws zs Fn e1 e2 e3 e4 => ?_
    have eFn : Fn = [] := List.eq_nil_iff_forall_not_mem.mpr fun q hq => by
      rcases e3 q hq with z | ⟨z, _⟩
      · exact nomatch z
      · exact nomatch z
    subst eFn
    subst e1
    have ty : TyOk (K.kd i) (seqD b (ds.set j (.lst zs))) := TyOk.mono h2 trivial
    exact po _ _ _ (fi.putIn sm hd hv hi h1 mem eb rfl (back _ (But.of sm).put _ (.lst upd_same e2)) ty)
  rcases hs with hs | hs
  · exact .inl ⟨p, vs, k, .ref a, rfl, rfl, hs, at1, rest⟩
  · exact .inr (.inl ⟨p, vs, k, .ref a, rfl, rfl, hs, at1, rest⟩)
/-- what a probe's body does: the list made longer, asked, emptied -/
def tPb (Y : SX) (X : Cx) (K : Fk) (x : Nat) (e c : IE) : TS :=
  tSeq (fun D σ H => tBM X.K "list" rAppend (tVar x) (tEs Y (gc Y X) K.kd (.cons e .nil)) σ H fun _ H1 => D.nx σ H1)
    (tSeq (tIfS (tT Y (gc Y X) K.kd c) (tSeq (tRet (tE Y (gc Y X) K.kd (.bl false))) tNext) tNext)
      (tSeq (fun D σ H => tBM0 X.K "list" rClear (tVar x) σ H fun _ H1 => D.nx σ H1) tNext))
theorem d_prb1 {x j : Nat} {e c : IE} (hj : j ∉ fz) (h1 : K.md j ≤ 1) (h2 : 2 ≤ K.kd j) {w : Wd} {σ0 : Sg} {σc : L2.St} {H : Hp} {Fs : Nat → List Addr} {ds ys : List Ev.D} {d dc : Ev.D} {r : Bool} {i : Nat} {a : Addr} {v : V} {vs0 : List V} {D : Ends} (lj : j < σ0.length)
    (fi : FK (gc Y X) K fz w (σ0.set j (some (.lst ds))) σc H Fs) (hx : σc[x]? = some (some (.ref a))) (hv : σc[j]? = some (some v)) (ea : H a = some (.lst vs0)) (mem : a ∈ Fs j) (r0 : Reps (gc Y X) H vs0 ys [])
    (back : ∀ H', But a H H' → ∀ u, Rep (gc Y X) H' (.ref a) u [a] → Rep (gc Y X) H' v (.lst (ds.set i u)) (Fs j)) (hl : ys.length < line)
    (ee : evE Y.Φ Y.M e (σ0.set j (some (.lst ds))) = .ok d) (pd : d.pure = true) (ec : evE Y.Φ Y.M c (σ0.set j (some (.lst (ds.set i (.lst (ys ++ [d])))))) = .ok dc) (et : truth dc = .ok r)
    (kT : r = true → ∀ H', Same w.Hb H' → D.rt (.bl false) H') (kF : r = false → ∀ H', FK (gc Y X) K fz w (σ0.set j (some (.lst (ds.set i (.lst []))))) σc H' Fs → D.nx σc H') : tPb Y X K x e c D σc H := by
  have ees : evEs Y.Φ Y.M (.cons e .nil) (σ0.set j (some (.lst ds))) = .ok [d] := by
    show (evE Y.Φ Y.M e _).bind _ = _
    rw [ee]
    rfl
  refine ⟨_, hx, .inl ⟨rfl, _, SqL.of ea⟩, _, Fs, [d], fi.rel, ees, fun us H2 Fe rs => ?_⟩
  obtain ⟨y, eu, rv⟩ := rs.rep.one
  subst eu
  have eFe := rv.pure_nil pd
  subst eFe
  have ea2 := rs.same a _ ea
  refine ⟨a, vs0, y, rfl, rfl, ea2, by rw [r0.length]; exact hl, ?_⟩
  have nn : a ∉ ([] : List Addr) := fun z => nomatch z
  have rn1 : Rep (gc Y X) (upd H2 a (.lst (vs0 ++ [y]))) (.ref a) (.lst (ys ++ [d])) [a] := .lst upd_same (Reps.append (stays_upd (r0.same rs.same) ea2 rfl nn) (.cons (stay_upd rv ea2 rfl nn) .nil))
  have gd : ∀ u : Ev.D, (σ0.set j (some u))[j]? = some (some u) := fun u => List.getElem?_set_self lj
  have f2 := fi.putIn rs.same (gd _) hv hj h1 mem ea2 rfl (back _ (But.of rs.same).put _ rn1) (TyOk.mono h2 trivial)
  rw [List.set_set] at f2
  refine ⟨_, Fs, dc, r, f2.rel, ec, et, fun H4 sm => ?_⟩
  cases r with
  | true => exact iteT ⟨_, Fs, .bl false, f2.rel.same sm, rfl, fun u H5 F rs2 => by
      cases rs2.rep
      exact kT rfl H5 (f2.sb.trans (sm.trans rs2.same))⟩
  | false =>
    have e4 := sm a _ (upd_same (H := H2) (a := a) (o := .lst (vs0 ++ [y])))
    refine iteF ⟨_, hx, .inl ⟨rfl, _, SqL.of e4⟩, a, _, rfl, rfl, e4, ?_⟩
    have f3 := f2.putIn sm (gd _) hv hj h1 mem e4 rfl (back _ (((But.of rs.same).put).trans (But.of sm)).put (.lst []) (.lst upd_same .nil)) (TyOk.mono h2 trivial)
    rw [List.set_set] at f3
    exact kF rfl _ f3
/-- for x in j: each list within made longer, asked, emptied -/
def tPbs (Y : SX) (X : Cx) (K : Fk) (g : IEo) (x : Nat) (e c : IE) : TS := match g with
  | .no => tPb Y X K x e c
  | .so g => tSeq (tIfS (tT Y (gc Y X) K.kd g) (tPb Y X K x e c) tNext) tNext
theorem set_back {σ : Sg} {j : Nat} {d : Ev.D} (h : σ[j]? = some (some d)) : σ.set j (some d) = σ := by
  refine List.ext_getElem? fun k => ?_
  by_cases e : j = k
  · subst e
    rw [List.getElem?_set_self (List.getElem?_eq_some_iff.mp h).1, h]
  · rw [List.getElem?_set_ne e]
theorem d_probe {g : IEo} {x j : Nat} {e c : IE} (hx : x ∉ fz) (hj : j ∉ fz) (hxj : x ≠ j) (h1 : K.md j ≤ 1) (h2 : 2 ≤ K.kd j) (h3 : 2 ≤ K.kd x) {D : Ends} {σc : L2.St} {H : Hp} (h : tS Y (gc Y X) K fz (.probe g x j e c) D σc H) :
    tFor (iList X.K (tVar j)) (gName x) (tPbs Y X K g x e c) D σc H := by
  obtain ⟨w, σ, Fs, f, fi, he, po⟩ := h
  obtain ⟨d, ed, g2⟩ := bind_ok (show (getV σ j).bind _ = _ from he)
  split at g2
  · rename_i ds0
    have hd := get_ok ed
    obtain ⟨_, hlx, g2⟩ := bind_ok g2
    have hlx := of_decide_eq_true (chk_ok hlx)
    have lj : j < (σ.set x none).length := by
      rw [List.length_set]
      exact (List.getElem?_eq_some_iff.mp hd).1
    obtain ⟨v, hv, rv⟩ := fi.rel.rep j _ hd
    obtain ⟨p, vs0, ev, ep, lv⟩ : ∃ p vs, v = .ref p ∧ H p = some (.lst vs) ∧ vs.length = ds0.length := by
      generalize Fs j = Fj0 at rv
      cases rv with
      | lst e r => exact ⟨_, _, rfl, e, r.length⟩
    subst ev
    obtain ⟨q1, q2, q3⟩ := wipeT_get (tg := .one x) (σ := σ)
    have fd := fi.drop (ts := [x]) (σ' := σ.set x none) (fun k hk => by rw [List.mem_singleton.mp hk]; exact hx) q1 q2 q3
    have hd0 : (σ.set x none)[j]? = some (some (.lst ds0)) := by
      rw [List.getElem?_set_ne hxj]
      exact hd
    rw [← set_back hd0] at fd
    generalize hσ0 : σ.set x none = σ0 at fd g2 lj
    have nox : ∀ (u : Ev.D) (d : Ev.D), (σ0.set j (some u))[x]? ≠ some (some d) := fun u d z => by
      rw [List.getElem?_set_ne (Ne.symm hxj), ← hσ0] at z
      exact q2 x (List.mem_singleton.mpr rfl) d z
    generalize hG : (fun (u : Ev.D) (σ : Sg) => match g with
        | .no => R.ok true
        | .so g => (evE Y.Φ Y.M g (σ.set x (some u))).bind truth) = gf at g2
    refine ⟨_, hv, p, rfl, ⟨_, SqL.of ep⟩, fun i m σc' H' => i + m = ds0.length ∧ ∃ ds Fs', FK (gc Y X) K fz w (σ0.set j (some (.lst ds))) σc' H' Fs' ∧ ds.length = ds0.length ∧
      prbL gf (fun σ => evE Y.Φ Y.M e σ) (fun σ => (evE Y.Φ Y.M c σ).bind truth) j σ0 i m ds = .ok f ∧ σc'[j]? = some (some (.ref p)), ⟨ds0.length, by omega, ds0, _, fd, rfl, g2, hv⟩, fun i m σc' H' hW => ?_⟩
    obtain ⟨hm, ds, Fs', fi', hl, hp, hv'⟩ := hW
    have gdj : (σ0.set j (some (.lst ds)))[j]? = some (some (.lst ds)) := List.getElem?_set_self lj
    obtain ⟨v2, hv2, rv2⟩ := fi'.rel.rep j _ gdj
    rw [hv'] at hv2
    cases hv2
    generalize hFj : Fs' j = Fj at rv2
    cases rv2 with
    | lst e2 r2 =>
    rename_i vs F2
    have lv2 := r2.length
    cases m with
    | zero =>
      left
      cases (show R.ok (Fl.nx (σ0.set j (some (.lst ds)))) = .ok f from hp)
      exact ⟨⟨vs, SqL.of e2, by omega⟩, po _ _ _ fi'⟩
    | succ m =>
      right
      have hp : (match ds[i]? with
        | none => R.bad
        | some u => (gf u (σ0.set j (some (.lst ds)))).bind fun b => if b then (match u with
            | .lst ys => (chk (pureAll ys && decide (ys.length < line))).bind fun _ => (evE Y.Φ Y.M e (σ0.set j (some (.lst ds)))).bind fun d => (chk d.pure).bind fun _ =>
              ((evE Y.Φ Y.M c (σ0.set j (some (.lst (ds.set i (.lst (ys ++ [d]))))))).bind truth).bind fun r => if r then R.ok (Fl.rt (Ev.D.bl false)) else prbL gf (fun σ => evE Y.Φ Y.M e σ) (fun σ => (evE Y.Φ Y.M c σ).bind truth) j σ0 (i + 1) m (ds.set i (.lst []))
            | _ => .bad)
          else prbL gf (fun σ => evE Y.Φ Y.M e σ) (fun σ => (evE Y.Φ Y.M c σ).bind truth) j σ0 (i + 1) m ds) = .ok f := hp
      split at hp
      · cases hp
      · rename_i u hu
        obtain ⟨b, eb, hp⟩ := bind_ok hp
        obtain ⟨vi, Fi, evi, rvi, sub⟩ := r2.get hu
        obtain ⟨NN, hNN⟩ : ∃ NN : L2.St → Hp → Prop, NN = fun σc2 H2 => ∃ ds Fs', FK (gc Y X) K fz w (σ0.set j (some (.lst ds))) σc2 H2 Fs' ∧ ds.length = ds0.length ∧ prbL gf (fun σ => evE Y.Φ Y.M e σ) (fun σ => (evE Y.Φ Y.M c σ).bind truth) j σ0 (i + 1) m ds = .ok f ∧ σc2[j]? = some (some (.ref p)) := ⟨_, rfl⟩
        refine ⟨⟨vs, vi, SqL.of e2, evi⟩, NN, fun σc2 H2 q => ⟨m, Nat.lt_succ_self m, by omega, by rw [hNN] at q; exact q⟩, fun xv H2 hy => ?_⟩
        obtain ⟨rfl, hy⟩ := hy
        have exv := hy vs (SqL.of e2)
        rw [evi] at exv
        cases exv
        have fa := fi'.anyC (u := vi) (nox _)
        have lx : x < σc'.length := by
          rw [fi'.rel.len, List.length_set, ← hσ0, List.length_set]
          exact hlx
        have hvx : (σc'.set x (some vi))[x]? = some (some vi) := List.getElem?_set_self lx
        have hvj : (σc'.set x (some vi))[j]? = some (some (.ref p)) := by
          rw [List.getElem?_set_ne hxj]
          exact hv'
        have pb : b = true → ∀ H4, Same H2 H4 → tPb Y X K x e c { D with nx := NN, ct := NN, bk := D.nx } (σc'.set x (some vi)) H4 := fun hb H4 sm => by
          subst hb
          rw [if_pos rfl] at hp
          split at hp
          · rename_i ys
            obtain ⟨_, hc, hp⟩ := bind_ok hp
            obtain ⟨dd, ee, hp⟩ := bind_ok hp
            obtain ⟨_, hpd, hp⟩ := bind_ok hp
            obtain ⟨r, er, hp⟩ := bind_ok hp
            obtain ⟨dc, ec, et⟩ := bind_ok er
            have hz := chk_ok hc
            rw [Bool.and_eq_true] at hz
            have nd := fi'.nd j h1
            rw [hFj, List.nodup_cons] at nd
            obtain ⟨a, ws, g1, g2, g3, g4, g5⟩ := r2.slot hz.1 nd.2 hu
            rw [evi] at g1
            cases g1
            have ne : p ≠ a := fun z => nd.1 (z ▸ g3)
            refine d_prb1 hj h1 h2 lj (fa.same sm) hvx hvj (sm a _ g2) (by rw [hFj]; exact List.mem_cons_of_mem _ g3) (g4.same sm) (fun H5 hb u hu => ?_) (of_decide_eq_true hz.2) ee (chk_ok hpd) ec et (fun hr H5 hs => ?_) fun hr H5 f5 => ?_
            · rw [hFj]
              have b2 : But a H2 H5 := (But.of sm).trans hb
              exact .lst (b2 p _ ne e2) (g5 H5 b2 u hu)
            · subst hr
              cases (show R.ok (Fl.rt (Ev.D.bl false)) = .ok f from hp)
              exact po _ _ [] ⟨hs, .bl false, TyOk.pure rfl _, FrOk.pure rfl rfl, fun b hb => nomatch hb⟩
            · subst hr
              show NN _ _
              rw [hNN]
              exact ⟨_, _, f5, by rw [List.length_set]; exact hl, hp, hvj⟩
          · cases hp
        cases g with
        | no =>
          have eb' : b = true := by
            rw [← hG] at eb
            cases eb
            rfl
          exact pb eb' H2 (Same.refl _)
        | so g =>
          rw [← hG] at eb
          obtain ⟨dg, eg, tg⟩ := bind_ok (show (evE Y.Φ Y.M g _).bind truth = _ from eb)
          refine ⟨_, _, dg, b, fi'.rel.set rvi (TyOk.mono h3 trivial), eg, tg, fun H4 sm => ?_⟩
          cases b with
          | true => exact iteT (pb rfl H4 sm)
          | false =>
            refine iteF ?_
            show NN _ _
            rw [hNN]
            exact ⟨ds, Fs', fa.same sm, hl, hp, hvj⟩
  · cases g2
end
/-! ### d.setdefault(k, []).append(x) -/
theorem valD_slot {q : Key} {d : D} : ∀ {kds : List (Key × D)} {kvs : List (Key × V)}, kvs.map Prod.fst = kds.map Prod.fst → valD q kds = some d → ∃ j : Nat, (kds.map Prod.snd)[j]? = some d ∧ valV kvs q = (kvs.map Prod.snd)[j]? ∧ ∀ e, (setK q e kds).map Prod.snd = (kds.map Prod.snd).set j e ∧ (setK q e kds).map Prod.fst = kds.map Prod.fst
  | [], _, _, h => by cases h
  | (x, v) :: kds, [], m, _ => by simp at m
  | (x, v) :: kds, (y, u) :: kvs, m, h => by
    have m1 : y = x := by simpa using (List.cons.inj m).1
    have m2 : kvs.map Prod.fst = kds.map Prod.fst := (List.cons.inj m).2
    subst m1
    unfold valD at h
    by_cases e1 : y = q
    · rw [if_pos e1] at h
      cases h
      refine ⟨0, rfl, valV_pos e1, fun e => ?_⟩
      unfold setK
      rw [if_pos e1]
      exact ⟨rfl, rfl⟩
    · rw [if_neg e1] at h
      obtain ⟨j, h1, h2, h3⟩ := valD_slot m2 h
      refine ⟨j + 1, h1, (valV_neg e1).trans h2, fun e => ?_⟩
      obtain ⟨g1, g2⟩ := h3 e
      unfold setK
      rw [if_neg e1]
      exact ⟨congrArg (v :: ·) g1, congrArg (y :: ·) g2⟩
theorem valD_snoc {q : Key} {d : D} : ∀ {kds : List (Key × D)}, valD q kds = none → valD q (kds ++ [(q, d)]) = some d
  | [], _ => if_pos rfl
  | (x, u) :: r, h => by
    unfold valD at h
    split at h
    · cases h
    · rename_i ne
      show (if x = q then some u else valD q (r ++ [(q, d)])) = _
      rw [if_neg ne]
      exact valD_snoc h
theorem valV_snoc {q : Key} {v : V} : ∀ {kvs : List (Key × V)}, valV kvs q = none → valV (kvs ++ [(q, v)]) q = some v
  | [], _ => valV_pos rfl
  | (x, u) :: r, h => by
    by_cases ne : x = q
    · rw [valV_pos ne] at h
      cases h
    · rw [valV_neg ne] at h
      rw [List.cons_append, valV_neg ne]
      exact valV_snoc h
theorem valN_snoc {q : NestedKey} {k d : D} (hk : nkT k = some q) : ∀ {kds : List (D × D)}, valN q kds = none → valN q (kds ++ [(k, d)]) = some d
  | [], _ => if_pos hk
  | (x, u) :: r, h => by
    unfold valN at h
    split at h
    · cases h
    · rename_i ne
      show (if nkT x = some q then some u else valN q (r ++ [(k, d)])) = _
      rw [if_neg ne]
      exact valN_snoc hk h
theorem valX_snoc {q : NestedKey} {b : Addr} {v : V} : ∀ {xs : List (NestedKey × Addr × V)}, valX q xs = none → valX q (xs ++ [(q, b, v)]) = some v
  | [], _ => if_pos rfl
  | x :: r, h => by
    unfold valX at h
    split at h
    · cases h
    · rename_i ne
      show (if x.1 = q then some x.2.2 else valX q (r ++ [(q, b, v)])) = _
      rw [if_neg ne]
      exact valX_snoc h
theorem valN_slot {q : NestedKey} {d : D} : ∀ {kds : List (D × D)} {xs : List (NestedKey × Addr × V)}, kds.map (fun p => nkT p.1) = xs.map (fun x => some x.1) → valN q kds = some d → ∃ j : Nat, (kds.map Prod.snd)[j]? = some d ∧ valX q xs = (xs.map fun x => x.2.2)[j]? ∧ ∀ e, (setN q e kds).map Prod.snd = (kds.map Prod.snd).set j e ∧ (setN q e kds).map Prod.fst = kds.map Prod.fst
  | [], _, _, h => by cases h
  | p :: kds, [], m, _ => by simp at m
  | p :: kds, x :: xs, m, h => by
    have m1 : nkT p.1 = some x.1 := (List.cons.inj m).1
    have m2 : kds.map (fun p => nkT p.1) = xs.map (fun x => some x.1) := (List.cons.inj m).2
    obtain ⟨pk, pv⟩ := p
    unfold valN at h
    unfold valX
    by_cases e1 : x.1 = q
    · have e2 : nkT pk = some q := m1.trans (congrArg some e1)
      rw [if_pos e2] at h
      cases h
      refine ⟨0, rfl, if_pos e1, fun e => ?_⟩
      unfold setN
      rw [if_pos e2]
      exact ⟨rfl, rfl⟩
    · have e2 : ¬ nkT pk = some q := fun z => e1 (Option.some.inj (m1.symm.trans z))
      rw [if_neg e2] at h
      obtain ⟨j, h1, h2, h3⟩ := valN_slot m2 h
      refine ⟨j + 1, h1, (if_neg e1).trans h2, fun e => ?_⟩
      obtain ⟨g1, g2⟩ := h3 e
      unfold setN
      rw [if_neg e2]
      exact ⟨congrArg (pv :: ·) g1, congrArg (pk :: ·) g2⟩
section
variable {Y : SX} {N : List Str} {X : Cx} {K : Fk} {fz : List Nat}
/-- what follows d.setdefault: x reckoned, laid into the list -/
theorem sdp_rest {i : Nat} {x : IE} (hi : i ∉ fz) (h1 : K.md i ≤ 1) (h2 : 2 ≤ K.kd i) {w : Wd} {σ0 : Sg} {σc : L2.St} {H : Hp} {Fs : Nat → List Addr} {d1 d2 xv : Ev.D} {ys : List Ev.D} {a b : Addr} {vs0 : List V} {D : Ends} (li : i < σ0.length)
    (fi : FK (gc Y X) K fz w (σ0.set i (some d1)) σc H Fs) (hv : σc[i]? = some (some (.ref a))) (eb : H b = some (.lst vs0)) (mem : b ∈ Fs i) (r0 : Reps (gc Y X) H vs0 ys [])
    (back : ∀ H', But b H H' → Rep (gc Y X) H' (.ref b) (.lst (ys ++ [xv])) [b] → Rep (gc Y X) H' (.ref a) d2 (Fs i)) (hl : ys.length < line) (px : xv.pure = true)
    (ex : evE Y.Φ Y.M x (σ0.set i (some d1)) = .ok xv) (po : Post (gc Y X) K fz w D (.nx (σ0.set i (some d2)))) :
    tyV X.K "list" (.ref b) H ∧ tEs Y (gc Y X) K.kd (.cons x .nil) σc H fun xs H2 => rAppend (.ref b) xs H2 fun _ H3 => D.nx σc H3 := by
  have exs : evEs Y.Φ Y.M (.cons x .nil) (σ0.set i (some d1)) = .ok [xv] := by
    show (evE Y.Φ Y.M x _).bind _ = _
    rw [ex]
    rfl
  refine ⟨.inl ⟨rfl, _, SqL.of eb⟩, _, Fs, [xv], fi.rel, exs, fun us H2 Fe rs => ?_⟩
  obtain ⟨y, eu, rv⟩ := rs.rep.one
  subst eu
  have eFe := rv.pure_nil px
  subst eFe
  have eb2 := rs.same b _ eb
  have nn : b ∉ ([] : List Addr) := fun z => nomatch z
  refine ⟨b, vs0, y, rfl, rfl, eb2, by rw [r0.length]; exact hl, ?_⟩
  have rn1 : Rep (gc Y X) (upd H2 b (.lst (vs0 ++ [y]))) (.ref b) (.lst (ys ++ [xv])) [b] := .lst upd_same (Reps.append (stays_upd (r0.same rs.same) eb2 rfl nn) (.cons (stay_upd rv eb2 rfl nn) .nil))
  have gd : (σ0.set i (some d1))[i]? = some (some d1) := List.getElem?_set_self li
  have f2 := fi.putIn rs.same gd hv hi h1 mem eb2 rfl (back _ (But.of rs.same).put rn1) (TyOk.mono h2 trivial)
  rw [List.set_set] at f2
  exact po _ _ _ f2
theorem lstP_of {v : Ev.D} (h : lstP v = true) : ∃ ys, v = .lst ys ∧ pureAll ys = true := by
  cases v <;> simp [lstP] at h
  exact ⟨_, rfl, h⟩
theorem fr_nil {G : GC} {H H2 : Hp} {z : V} {F : List Addr} {q : Al × Al} {σ : Sg} {Fs : Nat → List Addr} (r : Rs G 1 1 q σ Fs H z (.lst []) F H2) : ∃ p, z = .ref p ∧ F = [p] ∧ H2 p = some (.lst []) ∧ H p = none := by
  have rp := r.rep
  cases rp with
  | lst e r0 =>
  cases r0
  exact ⟨_, rfl, rfl, e, (r.fr.1 (Nat.le_refl 1)).2 _ (List.mem_cons_self ..)⟩
theorem sdpN_new {i : Nat} {x : IE} (hi : i ∉ fz) (h1 : K.md i ≤ 1) (h2 : 2 ≤ K.kd i) {w : Wd} {σ : Sg} {σc : L2.St} {H H2 : Hp} {Fs : Nat → List Addr} {d kk xv d2 : Ev.D} {a p b0 : Addr} {F' : List Addr} {D : Ends} {q : NestedKey} {kds : List (Ev.D × Ev.D)} {xs : List (NestedKey × Addr × V)}
    (fi : FK (gc Y X) K fz w σ σc H Fs) (sm : Same H H2) (hd : σ[i]? = some (some d)) (hL : d.isL = true) (hv : σc[i]? = some (some (.ref a))) (hF : Fs i = a :: F') (hq : nkT kk = some q) (rk : Rep (gc Y X) H2 (.ref b0) kk []) (ep : H2 p = some (.lst [])) (np : H p = none)
    (nd : NDict X.prog X.w X.K H2 a xs) (m : kds.map (fun p => nkT p.1) = xs.map (fun x => some x.1)) (k1 : Reps (gc Y X) H2 (xs.map fun x => V.ref x.2.1) (kds.map Prod.fst) []) (ra2 : Reps (gc Y X) H2 (xs.map fun x => x.2.2) (kds.map Prod.snd) F') (hn : valN q kds = none)
    (e2 : appD (.dcn (kds ++ [(kk, .lst [])])) kk xv = .ok d2) (ex : evE Y.Φ Y.M x (σ.set i (some (.dcn (kds ++ [(kk, .lst [])])))) = .ok xv) (po : Post (gc Y X) K fz w D (.nx (σ.set i (some d2)))) (o : Obj) :
    tyV X.K "list" (.ref p) (upd H2 a (.ext (DnOk X.prog X.w a o (putX xs q b0 (.ref p))))) ∧ tEs Y (gc Y X) K.kd (.cons x .nil) σc (upd H2 a (.ext (DnOk X.prog X.w a o (putX xs q b0 (.ref p))))) fun xs H2 => rAppend (.ref p) xs H2 fun _ H3 => D.nx σc H3 := by
  have li : i < σ.length := (List.getElem?_eq_some_iff.mp hd).1
  have ndF := fi.nd i h1
  rw [hF, List.nodup_cons] at ndF
  obtain ⟨o0, ho, hmo⟩ : ∃ o, H2 a = some o ∧ Mu o = true := by
    rcases nd.1 with ⟨_, z⟩ | ⟨_, z⟩
    · exact ⟨_, z, rfl⟩
    · exact ⟨_, z, rfl⟩
  have ap : a ≠ p := fun q => by
    obtain ⟨oa, z⟩ := fi.rel.tr i a (by rw [hF]; exact List.mem_cons_self ..)
    rw [q, np] at z
    cases z
  have e2' : (match nkT kk with
    | some q' => match valN q' (kds ++ [(kk, Ev.D.lst [])]) with
      | some (Ev.D.lst ys) => (chk (decide (ys.length < line) && (pureAll ys && xv.pure))).bind fun _ => R.ok (Ev.D.dcn (setN q' (.lst (ys ++ [xv])) (kds ++ [(kk, Ev.D.lst [])])))
      | _ => .bad
    | none => .bad) = .ok d2 := e2
  have hv2 : valN q (kds ++ [(kk, Ev.D.lst [])]) = some (Ev.D.lst []) := valN_snoc hq hn
  rw [hq] at e2'
  simp only [hv2] at e2'
  obtain ⟨_, hc3, e2'⟩ := bind_ok e2'
  have hz := chk_ok hc3
  rw [Bool.and_eq_true, Bool.and_eq_true] at hz
  cases e2'
  have hx : valX q xs = none := by
    have := valN_none (q := q) m
    rw [hn] at this
    exact Option.not_isSome_iff_eq_none.mp (by rw [this]; simp)
  have pk : putX xs q b0 (.ref p) = xs ++ [(q, b0, .ref p)] := by
    unfold putX
    rw [valX_any, hx]
    rfl
  rw [pk]
  have m' : (kds ++ [(kk, Ev.D.lst [])]).map (fun p => nkT p.1) = (xs ++ [(q, b0, V.ref p)]).map (fun x => some x.1) := by
    rw [List.map_append, List.map_append, m]
    exact congrArg (_ ++ [·]) hq
  have nF : p ∉ F' := fun z => by
    obtain ⟨oa, q⟩ := fi.rel.tr i p (by rw [hF]; exact List.mem_cons_of_mem _ z)
    rw [np] at q
    cases q
  have aF : a ∉ F' ++ ([p] ++ []) := fun z => by
    rcases List.mem_append.mp z with z | z
    · exact ndF.1 z
    · rw [List.append_nil, List.mem_singleton] at z
      exact ap z
  have rn : Reps (gc Y X) (upd H2 a (.ext (DnOk X.prog X.w a o (xs ++ [(q, b0, V.ref p)])))) ((xs ++ [(q, b0, V.ref p)]).map fun x => x.2.2) ((kds ++ [(kk, Ev.D.lst [])]).map Prod.snd) (F' ++ ([p] ++ [])) := by
    refine stays_upd ?_ ho hmo aF
    rw [List.map_append, List.map_append]
    exact Reps.append ra2 (.cons (.lst ep .nil) .nil)
  have kn : Reps (gc Y X) (upd H2 a (.ext (DnOk X.prog X.w a o (xs ++ [(q, b0, V.ref p)])))) ((xs ++ [(q, b0, V.ref p)]).map fun x => V.ref x.2.1) ((kds ++ [(kk, Ev.D.lst [])]).map Prod.fst) [] := by
    refine stays_upd ?_ ho hmo fun z => nomatch z
    rw [List.map_append, List.map_append]
    exact Reps.append k1 (Reps.cons (F := []) (Fs := []) rk .nil)
  have ndn : (F' ++ ([p] ++ [])).Nodup := by
    rw [List.append_nil]
    exact List.nodup_append.mpr ⟨ndF.2, by simp, fun b hb c hc e => by
      rw [List.mem_singleton] at hc
      subst hc
      subst e
      exact nF hb⟩
  have old : ∀ b ∈ F' ++ ([p] ++ []), b ∈ F' ∨ H b = none := fun b hb => by
    rcases List.mem_append.mp hb with z | z
    · exact .inl z
    · rw [List.append_nil, List.mem_singleton] at z
      rw [z]
      exact .inr np
  have fi2 := fi.put (al := ([], [])) sm hd hL hv hF hi (show K.md i ≤ 2 by omega) ho hmo (Rep.dcn upd_same m' kn rn) (TyOk.mono h2 trivial) rfl aF (fun b hb => (old b hb).imp id .inl) rfl fun _ => ⟨ndn, old⟩
  obtain ⟨j, g1, g2, g3⟩ := valN_slot m' hv2
  obtain ⟨b, vs0, f1, f2, f3, f4, f5⟩ := Reps.slot (rfl : pureAll [] = true) rn ndn g1
  rw [valX_snoc hx, f1] at g2
  cases g2
  refine sdp_rest hi h1 h2 li fi2 hv f2 (by rw [fsT_self]; exact List.mem_cons_of_mem _ f3) f4 (fun H' hb hr => ?_) (of_decide_eq_true hz.1) hz.2.2 ex po
  rw [fsT_self]
  obtain ⟨s1, s2⟩ := g3 (.lst ([] ++ [xv]))
  obtain ⟨ou, hu⟩ := hr.there p (List.mem_cons_self ..)
  have m2 : (setN q (.lst ([] ++ [xv])) (kds ++ [(kk, Ev.D.lst [])])).map (fun p => nkT p.1) = (xs ++ [(q, b0, V.ref p)]).map (fun x => some x.1) := by
    have := congrArg (List.map nkT) s2
    rw [List.map_map, List.map_map] at this
    exact this.trans m'
  refine .dcn (hb a _ ap upd_same) m2 ?_ ?_
  · rw [s2]
    exact Reps.but f2 rfl hb hu kn fun z => nomatch z
  · rw [s1]
    exact f5 H' hb _ hr
theorem d_sdp {i : Nat} {k x : IE} (hi : i ∉ fz) (h1 : K.md i ≤ 1) (h2 : 2 ≤ K.kd i) {D : Ends} {σc : L2.St} {H : Hp} (h : tS Y (gc Y X) K fz (.sdp i k x) D σc H) :
    tBM X.K "list" rAppend (tStd X (tVar i) (tE Y (gc Y X) K.kd k) (tE Y (gc Y X) K.kd (.lst .nil))) (tEs Y (gc Y X) K.kd (.cons x .nil)) σc H fun _ H1 => D.nx σc H1 := by
  obtain ⟨w, σ, Fs, f, fi, he, po⟩ := h
  obtain ⟨d, ed, g2⟩ := bind_ok (show (getV σ i).bind _ = _ from he)
  obtain ⟨kk, ek, g3⟩ := bind_ok g2
  obtain ⟨d1, e1, g4⟩ := bind_ok g3
  obtain ⟨xv, ex, g5⟩ := bind_ok g4
  obtain ⟨d2, e2, g6⟩ := bind_ok g5
  cases g6
  have hd := get_ok ed
  have li : i < σ.length := (List.getElem?_eq_some_iff.mp hd).1
  obtain ⟨v, hv, rv⟩ := fi.rel.rep i _ hd
  have nd := fi.nd i h1
  have key : ∃ a, v = .ref a ∧ IsDN X H a ∧ ∀ y H1 F1, Rs (gc Y X) (tyE Y.sg Y.ms k K.kd) (frE Y.sg Y.ms k K.kd) (alP Y.sg Y.ms k K.kd) σ Fs H y kk F1 H1 → ∀ z H2 F2, Rs (gc Y X) 1 1 (alP Y.sg Y.ms (.lst .nil) K.kd) σ Fs H1 z (.lst []) F2 H2 → Std X H2 a y z fun b H3 => tyV X.K "list" b H3 ∧ tEs Y (gc Y X) K.kd (.cons x .nil) σc H3 fun xs H2 => rAppend b xs H2 fun _ H3 => D.nx σc H3 := by
    cases d with
    | dct kds =>
      generalize hF : Fs i = F at rv nd
      have rv0 := rv
      cases rv with
      | dct e m ra =>
      rename_i a kvs F'
      refine ⟨a, rfl, .inl (.inl ⟨_, .inl e⟩), fun y H1 F1 r1 z H2 F2 r2 => ?_⟩
      have sm := r1.same.trans r2.same
      have eD := sm a _ e
      have ra2 := ra.same sm
      obtain ⟨p, rfl, rfl, ep, np1⟩ := fr_nil r2
      have np : H p = none := r1.same.free np1
      have ap : a ≠ p := fun q => by
        rw [q] at e
        rw [np] at e
        cases e
      rw [List.nodup_cons] at nd
      have e1' : (match keyOf kk with
        | some q => (chk (decide (kds.length < line))).bind fun _ => match valD q kds with
          | some v => (chk (lstP v)).bind fun _ => R.ok (Ev.D.dct kds)
          | none => R.ok (Ev.D.dct (kds ++ [(q, Ev.D.lst [])]))
        | none => match nkT kk with
          | some q => (chk kds.isEmpty).bind fun _ => R.ok (Ev.D.dcn [(kk, Ev.D.lst [])])
          | none => .bad) = .ok d1 := e1
      split at e1'
      · rename_i q hq
        obtain ⟨_, hc, e1'⟩ := bind_ok e1'
        have hl := of_decide_eq_true (chk_ok hc)
        obtain ⟨ey, _⟩ := key_rep r1.rep hq
        subst ey
        refine .inl ⟨kvs, q, eD, rfl, by rw [show kvs.length = kds.length by simpa using congrArg List.length m]; exact hl, fun u hu => ?_, fun hn => ?_⟩
        · -- the key is there
          have vs := val_none (q := q) m
          rw [hu] at vs
          obtain ⟨vd, hvd⟩ := Option.isSome_iff_exists.mp vs.symm
          simp only [hvd] at e1'
          obtain ⟨_, hc2, e1'⟩ := bind_ok e1'
          cases e1'
          obtain ⟨ys, rfl, py⟩ := lstP_of (chk_ok hc2)
          have e2' : (match keyOf kk with
            | some q => match valD q kds with
              | some (Ev.D.lst ys) => (chk (decide (ys.length < line) && (pureAll ys && xv.pure))).bind fun _ => R.ok (Ev.D.dct (setK q (.lst (ys ++ [xv])) kds))
              | _ => .bad
            | none => .bad) = .ok d2 := e2
          rw [hq] at e2'
          simp only [hvd] at e2'
          obtain ⟨_, hc3, e2'⟩ := bind_ok e2'
          have hz := chk_ok hc3
          rw [Bool.and_eq_true, Bool.and_eq_true] at hz
          cases e2'
          obtain ⟨j, g1, g2, g3⟩ := valD_slot m hvd
          obtain ⟨b, vs0, f1, f2, f3, f4, f5⟩ := Reps.slot py ra2 nd.2 g1
          rw [hu, f1] at g2
          cases g2
          have ab : a ≠ b := fun q => nd.1 (q ▸ f3)
          have fi2 : FK (gc Y X) K fz w (σ.set i (some (.dct kds))) σc H2 Fs := by
            rw [set_back hd]
            exact fi.same sm
          refine sdp_rest hi h1 h2 li fi2 hv f2 (by rw [hF]; exact List.mem_cons_of_mem _ f3) f4 (fun H' hb hr => ?_) (of_decide_eq_true hz.1) hz.2.2 ex po
          rw [hF]
          obtain ⟨s1, s2⟩ := g3 (.lst (ys ++ [xv]))
          refine .dct (hb a _ ab eD) (m.trans s2.symm) ?_
          rw [s1]
          exact f5 H' hb _ hr
        · -- a new key
          have vs := val_none (q := q) m
          rw [hn] at vs
          have hvd : valD q kds = none := by
            cases hq2 : valD q kds with
            | none => rfl
            | some z => rw [hq2] at vs; cases vs
          simp only [hvd] at e1'
          cases e1'
          have e2' : (match keyOf kk with
            | some q' => match valD q' (kds ++ [(q, Ev.D.lst [])]) with
              | some (Ev.D.lst ys) => (chk (decide (ys.length < line) && (pureAll ys && xv.pure))).bind fun _ => R.ok (Ev.D.dct (setK q' (.lst (ys ++ [xv])) (kds ++ [(q, Ev.D.lst [])])))
              | _ => .bad
            | none => .bad) = .ok d2 := e2
          rw [hq] at e2'
          have hv2 : valD q (kds ++ [(q, Ev.D.lst [])]) = some (Ev.D.lst []) := valD_snoc hvd
          simp only [hv2] at e2'
          obtain ⟨_, hc3, e2'⟩ := bind_ok e2'
          have hz := chk_ok hc3
          rw [Bool.and_eq_true, Bool.and_eq_true] at hz
          cases e2'
          have pk : putK kvs q (.ref p) = kvs ++ [(q, .ref p)] := by
            unfold putK
            rw [valV_any, hn]
            rfl
          rw [pk]
          have m' : (kvs ++ [(q, V.ref p)]).map Prod.fst = (kds ++ [(q, Ev.D.lst [])]).map Prod.fst := by
            rw [List.map_append, List.map_append, m]
            rfl
          have nF : p ∉ F' := fun z => by
            obtain ⟨o, q⟩ := ra.there p z
            rw [np] at q
            cases q
          have aF : a ∉ F' ++ ([p] ++ []) := fun z => by
            rcases List.mem_append.mp z with z | z
            · exact nd.1 z
            · rw [List.append_nil, List.mem_singleton] at z
              exact ap z
          have rn : Reps (gc Y X) (upd H2 a (.dK (kvs ++ [(q, V.ref p)]))) ((kvs ++ [(q, V.ref p)]).map Prod.snd) ((kds ++ [(q, Ev.D.lst [])]).map Prod.snd) (F' ++ ([p] ++ [])) := by
            refine stays_upd ?_ eD rfl aF
            rw [List.map_append, List.map_append]
            exact Reps.append ra2 (.cons (.lst ep .nil) .nil)
          have ndn : (F' ++ ([p] ++ [])).Nodup := by
            rw [List.append_nil]
            exact List.nodup_append.mpr ⟨nd.2, by simp, fun b hb c hc e => by
              rw [List.mem_singleton] at hc
              subst hc
              subst e
              exact nF hb⟩
          have old : ∀ b ∈ F' ++ ([p] ++ []), b ∈ F' ∨ H b = none := fun b hb => by
            rcases List.mem_append.mp hb with z | z
            · exact .inl z
            · rw [List.append_nil, List.mem_singleton] at z
              rw [z]
              exact .inr np
          have fi2 := fi.put (al := ([], [])) sm hd rfl hv hF hi (show K.md i ≤ 2 by omega) eD rfl (Rep.dct upd_same m' rn) (TyOk.mono h2 trivial) rfl aF (fun b hb => (old b hb).imp id .inl) rfl fun _ => ⟨ndn, old⟩
          obtain ⟨j, g1, g2, g3⟩ := valD_slot m' hv2
          obtain ⟨b, vs0, f1, f2, f3, f4, f5⟩ := Reps.slot (rfl : pureAll [] = true) rn ndn g1
          have hvp : valV (kvs ++ [(q, V.ref p)]) q = some (.ref p) := valV_snoc hn
          rw [hvp, f1] at g2
          cases g2
          have ab : a ≠ p := ap
          refine sdp_rest hi h1 h2 li fi2 hv f2 (by rw [fsT_self]; exact List.mem_cons_of_mem _ f3) f4 (fun H' hb hr => ?_) (of_decide_eq_true hz.1) hz.2.2 ex po
          rw [fsT_self]
          obtain ⟨s1, s2⟩ := g3 (.lst ([] ++ [xv]))
          refine .dct (hb a _ ab upd_same) (m'.trans s2.symm) ?_
          rw [s1]
          exact f5 H' hb _ hr
      · split at e1'
        · rename_i q hq
          obtain ⟨_, hc, e1'⟩ := bind_ok e1'
          cases e1'
          have e0 := List.isEmpty_iff.mp (chk_ok hc)
          subst e0
          obtain ⟨b0, ey, hk, eF⟩ := nk_rep r1.rep hq
          subst ey
          subst eF
          obtain ⟨eF, _, nd0⟩ := dct_nd (G := gc Y X) (rv0.same sm)
          cases eF
          exact .inr ⟨[], q, b0, nd0, rfl, (nk_rep (r1.rep.same r2.same) hq).elim fun b z => by cases z.1; exact z.2.1, by rw [sizeLine_eq]; decide, (fun u hu => nomatch hu), fun _ o => sdpN_new (kds := []) hi h1 h2 fi sm hd rfl hv hF hq (r1.rep.same r2.same) ep np nd0 rfl .nil .nil rfl e2 ex po o⟩
        · cases e1'
    | dcn kds =>
      generalize hF : Fs i = F at rv nd
      cases rv with
      | dcn e m k1 ra =>
      rename_i a ob xs F'
      have nd0 := fun (H' : Hp) (s : Same H H') => dcn_nd (G := gc Y X) ((Rep.dcn e m k1 ra).same s)
      have ndc : ∀ H', Same H H' → NDict X.prog X.w X.K H' a xs := fun H' s => ⟨.inl ⟨ob, s a _ e⟩, nkeys (G := gc Y X) m (k1.same s)⟩
      refine ⟨a, rfl, .inr ⟨xs, ndc H (Same.refl H)⟩, fun y H1 F1 r1 z H2 F2 r2 => ?_⟩
      have sm := r1.same.trans r2.same
      have eD := sm a _ e
      have ra2 := ra.same sm
      have k12 := k1.same sm
      obtain ⟨p, rfl, rfl, ep, np1⟩ := fr_nil r2
      have np : H p = none := r1.same.free np1
      rw [List.nodup_cons] at nd
      have e1' : (match nkT kk with
        | some q => (chk (decide (kds.length < line))).bind fun _ => match valN q kds with
          | some v => (chk (lstP v)).bind fun _ => R.ok (Ev.D.dcn kds)
          | none => R.ok (Ev.D.dcn (kds ++ [(kk, Ev.D.lst [])]))
        | none => .bad) = .ok d1 := e1
      split at e1'
      · rename_i q hq
        obtain ⟨_, hc, e1'⟩ := bind_ok e1'
        have hl := of_decide_eq_true (chk_ok hc)
        obtain ⟨b0, ey, hk, eF⟩ := nk_rep (r1.rep.same r2.same) hq
        subst ey
        subst eF
        refine .inr ⟨xs, q, b0, ndc H2 sm, rfl, hk, by rw [show xs.length = kds.length by simpa using (congrArg List.length m).symm]; exact hl, fun u hu => ?_, fun hn o => ?_⟩
        · have vs := valN_none (q := q) m
          rw [hu] at vs
          obtain ⟨vd, hvd⟩ := Option.isSome_iff_exists.mp vs.symm
          simp only [hvd] at e1'
          obtain ⟨_, hc2, e1'⟩ := bind_ok e1'
          cases e1'
          obtain ⟨ys, rfl, py⟩ := lstP_of (chk_ok hc2)
          have e2' : (match nkT kk with
            | some q => match valN q kds with
              | some (Ev.D.lst ys) => (chk (decide (ys.length < line) && (pureAll ys && xv.pure))).bind fun _ => R.ok (Ev.D.dcn (setN q (.lst (ys ++ [xv])) kds))
              | _ => .bad
            | none => .bad) = .ok d2 := e2
          rw [hq] at e2'
          simp only [hvd] at e2'
          obtain ⟨_, hc3, e2'⟩ := bind_ok e2'
          have hz := chk_ok hc3
          rw [Bool.and_eq_true, Bool.and_eq_true] at hz
          cases e2'
          obtain ⟨j, g1, g2, g3⟩ := valN_slot m hvd
          obtain ⟨b, vs0, f1, f2, f3, f4, f5⟩ := Reps.slot py ra2 nd.2 g1
          rw [hu, f1] at g2
          cases g2
          have ab : a ≠ b := fun q => nd.1 (q ▸ f3)
          have fi2 : FK (gc Y X) K fz w (σ.set i (some (.dcn kds))) σc H2 Fs := by
            rw [set_back hd]
            exact fi.same sm
          refine sdp_rest hi h1 h2 li fi2 hv f2 (by rw [hF]; exact List.mem_cons_of_mem _ f3) f4 (fun H' hb hr => ?_) (of_decide_eq_true hz.1) hz.2.2 ex po
          rw [hF]
          obtain ⟨s1, s2⟩ := g3 (.lst (ys ++ [xv]))
          obtain ⟨ou, hu⟩ := hr.there b (List.mem_cons_self ..)
          have m2 : (setN q (.lst (ys ++ [xv])) kds).map (fun p => nkT p.1) = xs.map (fun x => some x.1) := by
            have := congrArg (List.map nkT) s2
            rw [List.map_map, List.map_map] at this
            exact this.trans m
          refine .dcn (hb a _ ab eD) m2 ?_ ?_
          · rw [s2]
            exact Reps.but f2 rfl hb hu k12 fun z => nomatch z
          · rw [s1]
            exact f5 H' hb _ hr
        · have vs := valN_none (q := q) m
          rw [hn] at vs
          have hvd : valN q kds = none := by
            cases hq2 : valN q kds with
            | none => rfl
            | some z => rw [hq2] at vs; cases vs
          simp only [hvd] at e1'
          cases e1'
          exact sdpN_new hi h1 h2 fi sm hd rfl hv hF hq (r1.rep.same r2.same) ep np (ndc H2 sm) m k12 ra2 hvd e2 ex po o
      · cases e1'
    | _ => cases e1
  obtain ⟨a, rfl, isd, rest⟩ := key
  exact ⟨_, hv, a, rfl, isd, σ, Fs, kk, fi.rel, ek, fun y H1 F1 r1 => ⟨σ, Fs, .lst [], fi.rel.same r1.same, rfl, fun z H2 F2 r2 => rest y H1 F1 r1 z H2 F2 r2⟩⟩
end
/-! ### x.append(y), y given away -/
section
variable {G : GC} {kd md : Nat → Nat} {fz : List Nat} {w : Wd} {σ : Sg} {σc : L2.St} {H H' : Hp} {Fs : Nat → List Addr}
/-- a slot's own list written, with things that belong to no other slot -/
theorem FI.put2 (f : FI G kd md fz w σ σc H Fs) {i : Nat} {d d' : D} {a : Addr} {F' Fn : List Addr} {o' : HO} (hd : σ[i]? = some (some d)) (hL : d.isL = true) (hv : σc[i]? = some (some (.ref a))) (hF : Fs i = a :: F')
    (hi : i ∉ fz) (hm : md i ≤ 2) {o : HO} (ho : H a = some o) (hmu : Mu o = true) (rv : Rep G (upd H a o') (.ref a) d' (a :: Fn)) (ty : TyOk (kd i) d') (hL' : d'.isL = true) (hn : a ∉ Fn)
    (hX : ∀ b ∈ Fn, b ∈ F' ∨ ((∀ j, j ≠ i → b ∉ Us (md j) σ[j]? (Fs j)) ∧ w.B b)) (h1 : md i ≤ 1 → Fn.Nodup ∧ ∀ b ∈ Fn, b ∈ F' ∨ ((∀ k, k ≠ i → b ∉ Fs k) ∧ ¬ w.P b)) :
    FI G kd md fz w (σ.set i (some d')) σc (upd H a o') (fsT Fs i (a :: Fn)) := by
  have aU : a ∈ Us (md i) σ[i]? (Fs i) := by
    refine Us_mono hm ?_
    unfold Us
    rw [if_neg (by omega), if_pos rfl, hd]
    show a ∈ if d.isL then _ else _
    rw [if_pos hL, hF]
    exact List.mem_singleton.mpr rfl
  have aP : ¬ w.P a := f.pr i hi a aU
  have nU : ∀ b ∈ Us (md i) (σ.set i (some d'))[i]? (a :: Fn), b ∈ Us (md i) σ[i]? (Fs i) ∨ ((∀ k, k ≠ i → b ∉ Fs k) ∧ ¬ w.P b) := fun b hb' => by
    by_cases m1 : md i ≤ 1
    · rw [Us_one m1] at hb' ⊢
      rcases List.mem_cons.mp hb' with rfl | hb'
      · left
        rw [hF]
        exact List.mem_cons_self ..
      · rcases (h1 m1).2 b hb' with z | z
        · left
          rw [hF]
          exact List.mem_cons_of_mem _ z
        · exact .inr z
    · have e2 : md i = 2 := by omega
      rw [e2] at hb'
      obtain ⟨_, _, _, ht⟩ := Us_two hb'
      have ht := List.mem_singleton.mp ht
      subst ht
      exact .inl aU
  have sp : ∀ j, j ≠ i → ∀ b ∈ Us (md j) σ[j]? (Fs j), b ∉ a :: Fn := fun j hj b hb' z => by
    rcases List.mem_cons.mp z with rfl | z
    · exact f.dj j i hj b hb' (by rw [hF]; exact List.mem_cons_self ..)
    · rcases hX b z with z | z
      · exact f.dj j i hj b hb' (by rw [hF]; exact List.mem_cons_of_mem _ z)
      · exact z.1 j hj hb'
  have ne : ∀ b, b ≠ a → upd H a o' b = H b := fun b h => upd_ne h
  have rep' : ∀ (j : Nat) (e : D), j ≠ i → σ[j]? = some (some e) → ∃ u, σc[j]? = some (some u) ∧ Rep G (upd H a o') u e (Fs j) := fun j e hj he => by
    obtain ⟨u, e1, e2⟩ := f.rel.rep j e he
    refine ⟨u, e1, e2.stay (imm_upd ho hmu) fun b hb' => ne b fun z => ?_⟩
    subst z
    exact f.dj i j (Ne.symm hj) b aU hb'
  refine ⟨⟨fun j e he => ?_, fun j e he => ?_, by rw [f.rel.len, List.length_set], fun j b hb' => ?_⟩, fun j hj => ?_, fun j e he hj hl b F2 e2 => ?_, fun j k hjk b hb' => ?_, fun j hj b hb' => ?_, fun j b hb' => ?_, fun j hj => ?_, f.imm.trans (imm_upd ho hmu), fun b hp => ?_, f.ww⟩
  · rcases set_some he with ⟨rfl, rfl⟩ | ⟨z, he⟩
    · rw [fsT_self]
      exact ⟨_, hv, rv⟩
    · rw [fsT_ne (Ne.symm z)]
      exact rep' j e (Ne.symm z) he
  · rcases set_some he with ⟨rfl, rfl⟩ | ⟨z, he⟩
    · exact ty
    · exact f.rel.ty j e he
  · by_cases e : j = i
    · subst e
      rw [fsT_self] at hb'
      exact rv.there b hb'
    · rw [fsT_ne e] at hb'
      obtain ⟨o2, q⟩ := f.rel.tr j b hb'
      exact (imm_upd ho hmu b o2 q).2
  · by_cases e : j = i
    · subst e
      rw [fsT_self]
      exact List.nodup_cons.mpr ⟨hn, (h1 hj).1⟩
    · rw [fsT_ne e]
      exact f.nd j hj
  · rcases set_some he with ⟨rfl, rfl⟩ | ⟨z, he⟩
    · rw [fsT_self] at e2
      cases e2
      exact hn
    · rw [fsT_ne (Ne.symm z)] at e2
      exact f.top j e he hj hl b F2 e2
  · by_cases e : j = i
    · subst e
      rw [fsT_self] at hb'
      rw [fsT_ne (Ne.symm hjk)]
      rcases nU b hb' with z | z
      · exact f.dj j k hjk b z
      · exact z.1 k (Ne.symm hjk)
    · rw [fsT_ne e, List.getElem?_set_ne (Ne.symm e)] at hb'
      by_cases e2 : k = i
      · subst e2
        rw [fsT_self]
        exact sp j e b hb'
      · rw [fsT_ne e2]
        exact f.dj j k hjk b hb'
  · by_cases e : j = i
    · subst e
      rw [fsT_self] at hb'
      rcases nU b hb' with z | z
      · exact f.pr j hj b z
      · exact z.2
    · rw [fsT_ne e, List.getElem?_set_ne (Ne.symm e)] at hb'
      exact f.pr j hj b hb'
  · by_cases e : j = i
    · subst e
      rw [fsT_self] at hb'
      rcases List.mem_cons.mp hb' with rfl | hb'
      · exact f.bd j b (by rw [hF]; exact List.mem_cons_self ..)
      · rcases hX b hb' with z | z
        · exact f.bd j b (by rw [hF]; exact List.mem_cons_of_mem _ z)
        · exact z.2
    · rw [fsT_ne e] at hb'
      exact f.bd j b hb'
  · have e : j ≠ i := fun z => hi (z ▸ hj)
    rw [fsT_ne e, List.getElem?_set_ne (Ne.symm e)]
    exact f.pin j hj
  · have z : b ≠ a := fun z => aP (z ▸ hp)
    rw [ne b z]
    exact f.kp b hp
end
section
variable {Y : SX} {N : List Str} {X : Cx} {K : Fk} {fz : List Nat}
theorem d_mapp {i j : Nat} (hi : i ∉ fz) (hj : j ∉ fz) (hij : i ≠ j) (mi : K.md i ≤ 2) (mj : K.md i ≤ 1 → K.md j ≤ 1) (ki : 2 ≤ K.kd i) {D : Ends} {σc : L2.St} {H : Hp} (h : tS Y (gc Y X) K fz (.mapp i j) D σc H) :
    tBM X.K "list" rAppend (tVar i) (tCons (tVar j) tNil) σc H fun _ H1 => D.nx σc H1 := by
  obtain ⟨w, σ, Fs, f, fi, he, po⟩ := h
  obtain ⟨c, ec, h2⟩ := bind_ok (show (getV σ i).bind _ = _ from he)
  obtain ⟨d, ed, h3⟩ := bind_ok h2
  split at h3
  · rename_i xs
    obtain ⟨_, hc, h4⟩ := bind_ok h3
    have hl := of_decide_eq_true (chk_ok hc)
    cases h4
    have gi := get_ok ec
    have gj := get_ok ed
    obtain ⟨vi, hvi, ri⟩ := fi.rel.rep i _ gi
    obtain ⟨vj, hvj, rj⟩ := fi.rel.rep j _ gj
    generalize hFi : Fs i = Fi at ri
    cases ri with
    | lst ea ra =>
    rename_i a va Fa
    have aU : a ∈ Us (K.md i) σ[i]? (Fs i) := by
      refine Us_mono mi ?_
      unfold Us
      rw [if_neg (by omega), if_pos rfl, gi, hFi]
      exact List.mem_singleton.mpr rfl
    have aFa : a ∉ Fa := fi.top i _ gi mi rfl a Fa hFi
    have aFj : a ∉ Fs j := fi.dj i j hij a aU
    refine ⟨_, hvi, .inl ⟨rfl, _, SqL.of ea⟩, vj, hvj, a, va, vj, rfl, rfl, ea, by rw [ra.length]; exact hl, ?_⟩
    have e1 : ∀ k : Nat, k ∉ [j] → (σ.set j none)[k]? = σ[k]? := fun k hk => List.getElem?_set_ne fun z => hk (by rw [z]; exact List.mem_singleton.mpr rfl)
    have fd := fi.drop (ts := [j]) (σ' := σ.set j none) (fun k hk => by rw [List.mem_singleton.mp hk]; exact hj) e1 (fun k hk d' z => by
      rw [List.mem_singleton.mp hk] at z
      by_cases l : j < σ.length
      · rw [List.getElem?_set_self l] at z
        cases z
      · rw [List.getElem?_eq_none (by rw [List.length_set]; omega)] at z
        cases z) (List.length_set ..)
    have fo : ∀ k, k ≠ j → fsW Fs [j] k = Fs k := fun k hk => by
      unfold fsW
      rw [if_neg (fun z => hk (List.mem_singleton.mp z))]
    have fj : fsW Fs [j] j = [] := by
      unfold fsW
      rw [if_pos (List.mem_singleton.mpr rfl)]
    have rn : Reps (gc Y X) (upd H a (.lst (va ++ [vj]))) (va ++ [vj]) (xs ++ [d]) (Fa ++ (Fs j ++ [])) := Reps.append (stays_upd ra ea rfl aFa) (.cons (stay_upd rj ea rfl aFj) .nil)
    have aN : a ∉ Fa ++ (Fs j ++ []) := fun z => by
      rw [List.append_nil] at z
      rcases List.mem_append.mp z with z | z
      · exact aFa z
      · exact aFj z
    have gd : (σ.set j none)[i]? = some (some (.lst xs)) := by
      rw [List.getElem?_set_ne (Ne.symm hij)]
      exact gi
    have fp := fd.put2 (i := i) (Fn := Fa ++ (Fs j ++ [])) gd rfl hvi ((fo i hij).trans hFi) hi mi ea rfl (Rep.lst upd_same rn) (TyOk.mono ki trivial) rfl aN (fun b hb => by
      rw [List.append_nil] at hb
      rcases List.mem_append.mp hb with z | z
      · exact .inl z
      · refine .inr ⟨fun k hk y => ?_, fi.bd j b z⟩
        by_cases e : k = j
        · subst e
          rw [fj] at y
          exact Us_nil y
        · rw [fo k e, List.getElem?_set_ne (Ne.symm e)] at y
          exact fi.dj k j e b y z) fun m1 => by
      have mj1 := mj m1
      have n1 := fi.nd i m1
      rw [hFi, List.nodup_cons] at n1
      have uj : ∀ b ∈ Fs j, b ∈ Us (K.md j) σ[j]? (Fs j) := fun b hb => by
        rw [Us_one mj1]
        exact hb
      rw [List.append_nil]
      refine ⟨List.nodup_append.mpr ⟨n1.2, fi.nd j mj1, fun b hb c hc e => ?_⟩, fun b hb => ?_⟩
      · subst e
        exact fi.dj j i (Ne.symm hij) b (uj b hc) (by rw [hFi]; exact List.mem_cons_of_mem _ hb)
      · rcases List.mem_append.mp hb with z | z
        · exact .inl z
        · refine .inr ⟨fun k hk y => ?_, fi.pr j hj b (uj b z)⟩
          by_cases e : k = j
          · subst e
            rw [fj] at y
            exact nomatch y
          · rw [fo k e] at y
            exact fi.dj j k (Ne.symm e) b (uj b z) y
    have es : (σ.set j none).set i (some (.lst (xs ++ [d]))) = (σ.set i (some (.lst (xs ++ [d])))).set j none := List.set_comm _ _ (Ne.symm hij)
    rw [es] at fp
    exact po _ _ _ fp
  · cases h3
theorem d_exp {e : IE} {D : Ends} {σc : L2.St} {H : Hp} (h : tS Y (gc Y X) K fz (.exp e) D σc H) : tE Y (gc Y X) K.kd e σc H fun _ H1 => D.nx σc H1 := by
  obtain ⟨w, σ, Fs, f, fi, he, po⟩ := h
  obtain ⟨d, ed, h2⟩ := bind_ok (show (evE Y.Φ Y.M e σ).bind _ = _ from he)
  cases h2
  exact ⟨σ, Fs, d, fi.rel, ed, fun v H' F rs => po _ _ _ (fi.same rs.same)⟩
end
end Ev

/-! Part D4: the text's statements against the small language's; they run as it reckons. -/
namespace Ev
open PySem PySem.Spec PyProof.Rows L2
def swL (sc : Scope) (x : Str) (px : Pos) (s : Scope) (lp : Pos) : Bool := match sc.names.lookup x with
  | some .cell => true
  | some .local => (px.line == lp.line) && !(s.names.any fun (n, k) => n == x && (k == .local || k == .cell))
  | _ => false
def swOk (sc : Scope) (x : Str) (px : Pos) : Expr → Bool
  | .ListComp _ _ s lp => swL sc x px s lp
  | .SetComp .. => false
  | .DictComp .. => false
  | _ => true
def notTup : Expr → Bool
  | .Tuple .. => false
  | _ => true
section
variable (Y : SX) (N : List Str)
/-- a probe's body -/
def mPb (x : Nat) (e c : IE) (sc : Scope) : List Stmt → Bool
  | [.Expr (.Call (.Attribute o1 a1 ap1) [ev] [] cp1) _, .If t [.Return (some rv) _] [] _, .Expr (.Call (.Attribute o2 a2 ap2) [] [] cp2) _] => decide (a1 = "append") && (mE Y N (.var x) sc o1 && ((ap1.endLine == cp1.line) && (plainE ev && (mE Y N e sc ev && (mE Y N c sc t && (mE Y N (.bl false) sc rv && (decide (a2 = "clear") && (mE Y N (.var x) sc o2 && (ap2.endLine == cp2.line)))))))))
  | _ => false
mutual
def mS : IS → Scope → Stmt → Bool
  | .asg i e, sc, st => match st with
    | .Assign [.Name x px] v _ => decide (N[i]? = some x) && (locB sc x && (swOk sc x px v && mE Y N e sc v))
    | _ => false
  | .mov i j, sc, st => match st with
    | .Assign [.Name x _] (.Name y p) _ => decide (N[i]? = some x) && (locB sc x && mE Y N (.var j) sc (.Name y p))
    | _ => false
  | .tasg is e, sc, st => match st with
    | .Assign [.Tuple ts k p] v _ => mT N sc (.many is) (.Tuple ts k p) && (notTup v && mE Y N e sc v)
    | _ => false
  | .tasgk is _ e, sc, st => match st with
    | .Assign [.Tuple ts k p] v _ => mT N sc (.many is) (.Tuple ts k p) && (notTup v && mE Y N e sc v)
    | _ => false
  | .par _ _ _ _, _, _ => false
  | .mut i p m es, sc, st => match p with
    | .so e => (match st with
      | .Expr (.Call (.Attribute (.Subscript x k _) a ap) xs [] cp) _ => decide (a = muName m) && (decide (muName m ≠ "") && (decide (xs.length = muArgs m ∧ muArgs m < 7) && ((ap.endLine == cp.line) && (mE Y N (.var i) sc x && (plainE k && (mE Y N e sc k && mEs Y N es sc xs))))))
      | _ => false)
    | .no => match m, es, st with
      | .set, .cons ev (.cons ek .nil), .Assign [.Subscript x k _] v _ => mE Y N (.var i) sc x && (plainE k && (mE Y N ek sc k && mE Y N ev sc v))
      | .set, _, _ => false
      | m, es, .Expr (.Call (.Attribute x a ap) xs [] cp) _ => decide (a = muName m) && (decide (muName m ≠ "") && (decide (xs.length = muArgs m ∧ muArgs m < 7) && ((ap.endLine == cp.line) && (mE Y N (.var i) sc x && mEs Y N es sc xs))))
      | _, _, _ => false
  | .ret e, sc, st => match st with
    | .Return (some v) _ => mE Y N e sc v
    | _ => false
  | .retn, _, st => match st with
    | .Return none _ => true
    | _ => false
  | .ife c a b, sc, st => match st with
    | .If t x y _ => mE Y N c sc t && (mSs a sc x && mSs b sc y)
    | _ => false
  | .for_ tg it body, sc, st => match st with
    | .For t i x [] _ => plainE i && (mT N sc tg t && (mI Y N it sc t i && mSs body sc x))
    | _ => false
  | .whl _ c body, sc, st => match st with
    | .While t x [] _ => mE Y N c sc t && mSs body sc x
    | _ => false
  | .brk, _, st => match st with
    | .Break _ => true
    | _ => false
  | .cnt, _, st => match st with
    | .Continue _ => true
    | _ => false
  | .pas, _, st => match st with
    | .Pass _ => true
    | _ => false
  | .nev, _, _ => true
  | .apop i j e, sc, st => match st with
    | .Expr (.Call (.Attribute x a ap) [.Call (.Attribute y b bp) [k] [] cq] [] cp) _ => decide (a = "append") && (decide (b = "pop") && ((ap.endLine == cp.line) && ((bp.endLine == cq.line) && (mE Y N (.var i) sc x && (mE Y N (.var j) sc y && (plainE k && mE Y N e sc k))))))
    | _ => false
  | .mapp i j, sc, st => match st with
    | .Expr (.Call (.Attribute x a ap) [y] [] cp) _ => decide (a = "append") && ((ap.endLine == cp.line) && (mE Y N (.var i) sc x && mE Y N (.var j) sc y))
    | _ => false
  | .exp e, sc, st => match st with
    | .Expr v _ => notComp v && mE Y N e sc v
    | _ => false
  | .sdp i k x, sc, st => match st with
    | .Expr (.Call (.Attribute (.Call (.Attribute y b bp) [ke, .List [] lp] [] cq) a ap) [xe] [] cp) _ => decide (a = "append") && (decide (b = "setdefault") && ((ap.endLine == cp.line) && ((bp.endLine == cq.line) && (mE Y N (.var i) sc y && (plainE ke && (mE Y N k sc ke && (plainE xe && mE Y N x sc xe)))))))
    | _ => false
  | .probe g x j e c, sc, st => match st with
    | .For (.Name xn _) y body [] _ => decide (N[x]? = some xn) && (locB sc xn && (plainE y && (mE Y N (.var j) sc y && (match g with
      | .no => mPb Y N x e c sc body
      | .so g => match body with
        | [.If t bd [] _] => mE Y N g sc t && mPb Y N x e c sc bd
        | _ => false))))
    | _ => false
termination_by structural s => s
def mSs : ISs → Scope → List Stmt → Bool
  | .nil, _, sts => sts.isEmpty
  | .cons s r, sc, sts => match sts with
    | st :: rest => mS s sc st && mSs r sc rest
    | [] => false
  | .drop _ r, sc, sts => mSs r sc sts
termination_by structural s => s
end
end
def nin (fz is : List Nat) : Bool := is.all fun k => !fz.contains k
theorem nin_ok {fz is : List Nat} (h : nin fz is = true) : ∀ k ∈ is, k ∉ fz := fun k hk hz => by
  have := List.all_eq_true.mp h k hk
  rw [show fz.contains k = true by simpa using hz] at this
  cases this
section
variable (Y : SX) (K : Fk)
abbrev fxI (it : II) : List Nat := ((alIW Y K.kd it).un (alI Y.sg Y.ms it K.kd)).1 ++ ((alIW Y K.kd it).un (alI Y.sg Y.ms it K.kd)).2
def gdB : IEo → Bool
  | .no => true
  | .so g => wE Y.sg Y.ms g K.kd && okT g
mutual
def wS : IS → List Nat → Bool
  | .asg i e, fz => wE Y.sg Y.ms e K.kd && (nin fz [i] && (decide (tyE Y.sg Y.ms e K.kd ≤ K.kd i) && ((decide (3 ≤ K.md i) || decide (frE Y.sg Y.ms e K.kd ≤ K.md i)) && alB K.md [i] (alP Y.sg Y.ms e K.kd).1)))
  | .mov i j, fz => nin fz [i, j] && (decide (i ≠ j) && (decide (K.kd j ≤ K.kd i) && decide (K.md j ≤ K.md i)))
  | .tasg is e, fz => wE Y.sg Y.ms e K.kd && (nin fz is && (decide (tyE Y.sg Y.ms e K.kd ≤ 1) || (alB K.md is (alP Y.sg Y.ms e K.kd).2 && is.all fun k => decide (3 ≤ K.md k) && decide (2 ≤ K.kd k))))
  | .tasgk is ks e, fz => wE Y.sg Y.ms e K.kd && (nin fz is && (leK K.kd ks is && (alB K.md is (alP Y.sg Y.ms e K.kd).2 && is.all fun k => decide (3 ≤ K.md k))))
  | .par _ _ _ _, _ => false
  | .mut i p m es, fz => match p with
    | .no => wEs Y.sg Y.ms es K.kd && (nin fz [i] && muB Y.sg Y.ms K i m es)
    | .so e => wE Y.sg Y.ms e K.kd && (wEs Y.sg Y.ms es K.kd && (nin fz [i] && (decide (K.md i ≤ 1) && decide (2 ≤ K.kd i))))
  | .probe g x j e c, fz => wE Y.sg Y.ms e K.kd && (wE Y.sg Y.ms c K.kd && (okT c && (gdB Y K g && (nin fz [x, j] && (decide (x ≠ j) && (decide (K.md j ≤ 1) && (decide (2 ≤ K.kd j) && decide (2 ≤ K.kd x))))))))
  | .ret e, fz => wE Y.sg Y.ms e K.kd && rtB Y.sg Y.ms K fz e
  | .retn, _ => true
  | .ife c a b, fz => wE Y.sg Y.ms c K.kd && (okT c && (wSs a fz && wSs b fz))
  | .for_ tg it body, fz => wI Y.sg Y.ms it K.kd && (nin (fz ++ fxI Y K it) (tgs tg) && ((decide (tyI Y.sg Y.ms it K.kd = 0) || (alB K.md [] (alI Y.sg Y.ms it K.kd) && (tgs tg).all fun k => decide (3 ≤ K.md k) && decide (2 ≤ K.kd k))) && wSs body (fz ++ fxI Y K it)))
  | .whl _ c body, fz => wE Y.sg Y.ms c K.kd && (okT c && wSs body fz)
  | .mapp i j, fz => nin fz [i, j] && (decide (i ≠ j) && (decide (K.md i ≤ 2) && ((decide (2 ≤ K.md i) || decide (K.md j ≤ 1)) && decide (2 ≤ K.kd i))))
  | .exp e, _ => wE Y.sg Y.ms e K.kd
  | .sdp i k x, fz => wE Y.sg Y.ms k K.kd && (wE Y.sg Y.ms x K.kd && (nin fz [i] && (decide (K.md i ≤ 1) && decide (2 ≤ K.kd i))))
  | .apop i j e, fz => wE Y.sg Y.ms e K.kd && (nin fz [i, j] && (decide (i ≠ j) && (decide (K.md i ≤ 2) && decide (K.md j ≤ 2))))
  | _, _ => true
termination_by structural s => s
def wSs : ISs → List Nat → Bool
  | .nil, _ => true
  | .cons s r, fz => wS s fz && wSs r fz
  | .drop is r, fz => nin fz is && wSs r fz
termination_by structural s => s
end
end
section
variable {Y : SX} {N : List Str} {X : Cx} {K : Fk} {fz : List Nat}
theorem comp_of {e : IE} {sc : Scope} {x : Expr} {gs : List Comprehension} {s : Scope} {p : Pos} (h : mE Y N e sc (.ListComp x gs s p) = true) : ∃ elt tg it ifs t i cs, e = .comp elt tg it ifs ∧ gs = [⟨t, i, cs, 0⟩] ∧ plainE i = true ∧ mT N s tg t = true ∧ blkC N sc s (ownT tg t) = true ∧ mI Y N it sc t i = true ∧ mC Y N ifs (relS s sc) cs = true ∧ mE Y N elt (relS s sc) x = true := by
  cases e with
  | comp elt tg it ifs =>
    simp only [mE] at h
    split at h
    · rename_i x' t i cs asy scope p' heq
      cases heq
      obtain ⟨h1, r0⟩ := and2 h
      obtain ⟨h2, r1⟩ := and2 r0
      obtain ⟨h3, r2⟩ := and2 r1
      obtain ⟨h4, r3⟩ := and2 r2
      obtain ⟨h5, r4⟩ := and2 r3
      obtain ⟨h6, h7⟩ := and2 r4
      have e := of_decide_eq_true h1
      subst e
      exact ⟨_, _, _, _, _, _, _, rfl, rfl, h2, h3, h4, h5, h6, h7⟩
    · cases h
  | _ => simp [mE] at h
theorem var_of {i : Nat} {sc : Scope} {e : Expr} (C : Ctx Y N X) (hsc : X.env.scope = sc) (h : mE Y N (.var i) sc e = true) : PE X e (tVar i) ∧ notComp e = true ∧ attributeBase e "" X.env (eval e X.env) = eval e X.env ∧ plainE e = true ∧ ∃ x p, e = .Name x p := by
  simp only [mE] at h
  split at h
  · rename_i x p
    unfold slotOk at h
    rw [Bool.and_eq_true, Bool.and_eq_true] at h
    obtain ⟨⟨h1, h2⟩, h3⟩ := h
    obtain ⟨n1, n2, _⟩ := plainN_ok h3
    have h1 : X.N[i]? = some x := by rw [C.N]; exact of_decide_eq_true h1
    exact ⟨pe_var h1 (by rw [hsc]; exact vis_ok h2) n1 n2, rfl, rfl, rfl, x, p, rfl⟩
  · cases h
theorem p_asg (C : CtxS Y N X) {i : Nat} {e : IE} {sc : Scope} {x : Str} {px pos : Pos} {v : Expr} {kd : Nat → Nat} (hsc : X.env.scope = sc) (h1 : N[i]? = some x) (h2 : locB sc x = true) (h3 : swOk sc x px v = true) (h4 : mE Y N e sc v = true) (hw : wE Y.sg Y.ms e kd = true) :
    PS X (.Assign [.Name x px] v pos) (tAsg (tE Y (gc Y X) kd e) (gName i)) := by
  have hx := loc_fn C (x := x) (by rw [hsc]; exact h2)
  have hn : X.N[i]? = some x := by rw [C.N]; exact h1
  have pe := (sndE e C.toCtx hsc h4 hw).1
  by_cases nc : notComp v = true
  · exact ps_set C.nd hn hx.1 pe (sw_no nc _ _ _) hx.2
  · cases v with
    | ListComp xe gs s lp =>
      have hs3 : swL sc x px s lp = true := h3
      clear h3
      unfold swL at hs3
      split at hs3
      · rename_i e1
        refine ps_set C.nd hn hx.1 pe ?_ hx.2
        have ek : X.env.kindOf x = some .cell := by
          show X.env.scope.names.lookup x = _
          rw [hsc]
          exact e1
        unfold swapsWith
        simp only [ek]
        have : (some NameKind.cell == some NameKind.local) = false := rfl
        simp [this]
      · rename_i e1
        obtain ⟨elt, tg, it, ifs, t, ii, cs, rfl, rfl, g1, g2, g3, g4, g5, g6⟩ := comp_of h4
        obtain ⟨h5, h6⟩ := and2 hs3
        obtain ⟨w1, w2⟩ := and2 (show (wI Y.sg Y.ms it kd && (wO Y.sg Y.ms ifs (kdT kd tg (tyI Y.sg Y.ms it kd)) && wE Y.sg Y.ms elt (kdT kd tg (tyI Y.sg Y.ms it kd)))) = true from hw)
        obtain ⟨w2, w3⟩ := and2 w2
        have hl : X.env.scope.names.lookup x = some .local := by
          rw [hsc]
          exact e1
        exact s_compS (p := lp) C.toCtx hn hl (sw_true C.kf hl h5 (Bool.not_eq_true' _ |>.mp h6)) hsc g1 g2 g3 (sndI it C.toCtx hsc g4 w1) (fun X' C' hs' hg => by
          have := sndC ifs (X := X') C' hs' g5 w2
          rw [hg] at this
          exact this) (fun X' C' hs' hg => by
          have := (sndE elt (X := X') C' hs' g6 w3).1
          rw [hg] at this
          exact this)
      · cases hs3
    | SetComp _ _ _ _ => cases h3
    | DictComp _ _ _ _ _ => cases h3
    | _ => exact absurd rfl nc
theorem star_args {xs : List Expr} (h : xs.all plainE = true) (p : Pos) : (backTo p (starEach xs X.env)).any (·.1) = false := star_none h p X.env
theorem p_mutG (C : CtxS Y N X) {m : MU} {es : IEs} {sc : Scope} {o : Expr} {xs : List Expr} {ap cp pos : Pos} {to : TE} (mono : ∀ σ H (Q Q' : VK), to σ H Q → (∀ v H, Q v H → Q' v H) → to σ H Q') (pv : PE X o to) (hbase : ∀ n, attributeBase o n X.env (eval o X.env) = eval o X.env) (hsc : X.env.scope = sc) (hm : muName m ≠ "") (hl : xs.length = muArgs m) (h7 : muArgs m < 7) (hline : (ap.endLine == cp.line) = true) (hes : mEs Y N es sc xs = true) (hw : wEs Y.sg Y.ms es K.kd = true) :
    PS X (.Expr (.Call (.Attribute o (muName m) ap) xs [] cp) pos) (tDrop (tBM X.K "list" (rMu m) to (tEs Y (gc Y X) K.kd es))) := by
  have pa := sndEs es C.toCtx hsc hes hw
  have hp := mEs_plain hes
  have two : ∀ {name : Str} {id : String} {r : V → List V → Hp → VK → Prop}, Slot "list" name id → typeOf (.builtin id) = pure (.type "method_descriptor") → MtR X id r → xs.length < 20 →
      PE X (.Call (.Attribute o name ap) xs [] cp) (tBM X.K "list" r to (tEs Y (gc Y X) K.kd es)) := fun {name id r} sl ty mt hl => by
    cases xs with
    | nil =>
      refine PE.imp (pe_bm0 PySem.F.plainAttrs_list sl ty mt pv (hbase _) hline) fun σ H Q h => ?_
      refine mono _ _ _ _ h fun v H1 h => ?_
      obtain ⟨h2, s, Fs, ds, rl, h3, q⟩ := h
      cases es with
      | nil =>
        cases h3
        exact ⟨h2, q [] H1 [] ⟨Same.refl H1, .nil, trivial, (fun _ => ⟨List.nodup_nil, fun a ha => nomatch ha⟩), (fun a ha => nomatch ha), fun d e => nomatch e⟩⟩
      | cons e es => simp [mEs] at hes
    | cons y ys =>
      have hp' := hp
      rw [List.all_cons, Bool.and_eq_true] at hp'
      exact pe_bm PySem.F.plainAttrs_list sl ty mt pv pa (hbase _) (ra_of hp cp X.env hl) hline (star_cons hp'.1 ys X.env) (star_none hp'.2 cp X.env)
  refine ps_expr ?_ (sw_no rfl _ _ _)
  cases m with
  | append => exact two PySem.F.slot_list_append PySem.F.type_list_append mt_append (by rw [hl]; decide)
  | extend => exact two PySem.F.slot_list_extend PySem.F.type_list_extend mt_extend (by rw [hl]; decide)
  | clear => exact two PySem.F.slot_list_clear PySem.F.type_list_clear mt_clear (by rw [hl]; decide)
  | reverse => exact two PySem.F.slot_list_reverse PySem.F.type_list_reverse mt_reverse (by rw [hl]; decide)
  | insert => exact two PySem.F.slot_list_insert PySem.F.type_list_insert mt_insert (by rw [hl]; decide)
  | set => exact absurd rfl hm
  | _ => exact absurd h7 (by decide)
theorem p_mut (C : CtxS Y N X) {i : Nat} {m : MU} {es : IEs} {sc : Scope} {x : Expr} {xs : List Expr} {ap cp pos : Pos} (hsc : X.env.scope = sc) (hm : muName m ≠ "") (hl : xs.length = muArgs m) (h7 : muArgs m < 7) (hline : (ap.endLine == cp.line) = true) (hx : mE Y N (.var i) sc x = true) (hes : mEs Y N es sc xs = true) (hw : wEs Y.sg Y.ms es K.kd = true) :
    PS X (.Expr (.Call (.Attribute x (muName m) ap) xs [] cp) pos) (tDrop (tBM X.K "list" (rMu m) (tVar i) (tEs Y (gc Y X) K.kd es))) := by
  obtain ⟨pv, _, _, _, n, np, rfl⟩ := var_of C.toCtx hsc hx
  exact p_mutG C (fun σ H Q Q' h k => h.imp fun v q => ⟨q.1, k _ _ q.2⟩) pv (fun _ => rfl) hsc hm hl h7 hline hes hw
theorem p_pb (C : CtxS Y N X) {x : Nat} {e c : IE} {body : List Stmt} (h : mPb Y N x e c X.env.scope body = true) (we : wE Y.sg Y.ms e K.kd = true) (wc : wE Y.sg Y.ms c K.kd = true) (oc : okT c = true) : PSs X body (tPb Y X K x e c) := by
  unfold mPb at h
  split at h
  · rename_i o1 a1 ap1 ev cp1 ps1 t rv ps2 ps3 o2 a2 ap2 cp2 ps4
    obtain ⟨h1, r0⟩ := and2 h
    obtain ⟨h2, r1⟩ := and2 r0
    obtain ⟨h3, r2⟩ := and2 r1
    obtain ⟨h4, r3⟩ := and2 r2
    obtain ⟨h5, r4⟩ := and2 r3
    obtain ⟨h6, r5⟩ := and2 r4
    obtain ⟨h7, r6⟩ := and2 r5
    obtain ⟨h8, r7⟩ := and2 r6
    obtain ⟨h9, h10⟩ := and2 r7
    have e1 := of_decide_eq_true h1
    subst e1
    have e2 := of_decide_eq_true h8
    subst e2
    obtain ⟨pv, _, _, _, n, np, rfl⟩ := var_of (i := x) C.toCtx rfl h2
    obtain ⟨pv2, _, _, _, n2, np2, rfl⟩ := var_of (i := x) C.toCtx rfl h9
    have pe := (sndE e C.toCtx rfl h5 we).1
    have hes : mEs Y N (.cons e .nil) X.env.scope [ev] = true := by
      simp [mEs, h4, h5]
    have hws : wEs Y.sg Y.ms (.cons e .nil) K.kd = true := by
      simp [wEs, we]
    have pa := sndEs (.cons e .nil) C.toCtx rfl hes hws
    have A : PS X (.Expr (.Call (.Attribute (.Name n np) "append" ap1) [ev] [] cp1) ps1) _ := ps_expr (pe_bm PySem.F.plainAttrs_list PySem.F.slot_list_append PySem.F.type_list_append mt_append pv pa rfl (ra_of (es := [ev]) (by simp [h4]) cp1 X.env (by simp)) h3 (star_cons h4 [] X.env) rfl) (sw_no rfl _ _ _)
    have Z : PS X (.Expr (.Call (.Attribute (.Name n2 np2) "clear" ap2) [] [] cp2) ps4) _ := ps_expr (pe_bm0 PySem.F.plainAttrs_list PySem.F.slot_list_clear PySem.F.type_list_clear mt_clear pv2 rfl h10) (sw_no rfl _ _ _)
    have B : PSs X [.Return (some rv) ps2] (tSeq (tRet (tE Y (gc Y X) K.kd (.bl false))) tNext) := pss_cons (ps_ret (sndE (.bl false) C.toCtx rfl h7 rfl).1) pss_nil
    have I := ps_if (pos := ps3) ((sndE c C.toCtx rfl h6 wc).2 oc) B pss_nil
    exact pss_cons A (pss_cons I (pss_cons Z pss_nil))
  · cases h
theorem PS.never {st : Stmt} {t : TS} (h : ∀ D σ H, ¬ t D σ H) : PS X st t := ⟨fun pins s σ H D I q => absurd q (h D σ H)⟩
mutual
theorem sndS : ∀ (s : IS) {fz : List Nat} {st : Stmt}, CtxS Y N X → mS Y N s X.env.scope st = true → wS Y K s fz = true → PS X st (tS Y (gc Y X) K fz s)
  | .asg i e, fz, st, C, h, hw => by
    simp only [mS] at h
    split at h
    · obtain ⟨h1, r0⟩ := and2 h
      obtain ⟨h2, r1⟩ := and2 r0
      obtain ⟨h3, h4⟩ := and2 r1
      obtain ⟨w1, r2⟩ := and2 (show (wE Y.sg Y.ms e K.kd && (nin fz [i] && (decide (tyE Y.sg Y.ms e K.kd ≤ K.kd i) && ((decide (3 ≤ K.md i) || decide (frE Y.sg Y.ms e K.kd ≤ K.md i)) && alB K.md [i] (alP Y.sg Y.ms e K.kd).1)))) = true from hw)
      obtain ⟨w2, r3⟩ := and2 r2
      obtain ⟨w3, r4⟩ := and2 r3
      obtain ⟨w4, w5⟩ := and2 r4
      refine PS.imp (p_asg C rfl (of_decide_eq_true h1) h2 h3 h4 w1) fun D σ H q => ?_
      obtain ⟨w, σ, Fs, f, fi, he, po⟩ := q
      exact d_asg (nin_ok w2 i (List.mem_singleton.mpr rfl)) (of_decide_eq_true w3) (by
        rw [Bool.or_eq_true] at w4
        exact w4.imp of_decide_eq_true of_decide_eq_true) w5 fi he po
    · cases h
  | .mov i j, fz, st, C, h, hw => by
    simp only [mS] at h
    split at h
    · obtain ⟨h1, r0⟩ := and2 h
      obtain ⟨h2, h3⟩ := and2 r0
      obtain ⟨w1, r1⟩ := and2 (show (nin fz [i, j] && (decide (i ≠ j) && (decide (K.kd j ≤ K.kd i) && decide (K.md j ≤ K.md i)))) = true from hw)
      obtain ⟨w2, r2⟩ := and2 r1
      obtain ⟨w3, w4⟩ := and2 r2
      have hx := loc_fn C h2
      obtain ⟨pv, nc, _⟩ := var_of (i := j) C.toCtx rfl h3
      refine PS.imp (ps_set (i := i) C.nd (by rw [C.N]; exact of_decide_eq_true h1) hx.1 pv (sw_no nc _ _ _) hx.2) fun D σ H q => ?_
      obtain ⟨w, σ, Fs, f, fi, he, po⟩ := q
      obtain ⟨d, ed, h5⟩ := bind_ok (show (getV σ j).bind _ = _ from he)
      cases h5
      have hd := get_ok ed
      obtain ⟨v, hv, rv⟩ := fi.rel.rep j d hd
      exact ⟨v, hv, po _ _ _ (fi.mov hd hv (nin_ok w1 i (List.mem_cons_self ..)) (nin_ok w1 j (List.mem_cons_of_mem _ (List.mem_singleton.mpr rfl))) (of_decide_eq_true w2) (of_decide_eq_true w3) (of_decide_eq_true w4))⟩
    · cases h
  | .tasg is e, fz, st, C, h, hw => by
    simp only [mS] at h
    split at h
    · rename_i ts k p v pos
      obtain ⟨h1, r0⟩ := and2 h
      obtain ⟨h2, h3⟩ := and2 r0
      obtain ⟨w1, r1⟩ := and2 (show (wE Y.sg Y.ms e K.kd && (nin fz is && (decide (tyE Y.sg Y.ms e K.kd ≤ 1) || (alB K.md is (alP Y.sg Y.ms e K.kd).2 && is.all fun k => decide (3 ≤ K.md k) && decide (2 ≤ K.kd k))))) = true from hw)
      obtain ⟨w2, w3⟩ := and2 r1
      have pe := (sndE e C.toCtx rfl h3 w1).1
      have pg := pg_ok (tg := .many is) C.calm C.N C.nd (fun x hx => loc_fn C hx) h1
      refine PS.imp (ps_asg pe pg ?_ ?_ rfl) fun D σ H q => d_tasg (nin_ok w2) ?_ q
      · show swapsWith v (some (.Tuple ts k p)) pos.line X.env = pure false
        cases v <;> rfl
      · cases v <;> first | rfl | (cases h2)
      · rw [Bool.or_eq_true] at w3
        refine w3.imp of_decide_eq_true fun z => ?_
        obtain ⟨z1, z2⟩ := and2 z
        refine ⟨z1, fun k hk => ?_⟩
        obtain ⟨z3, z4⟩ := and2 (List.all_eq_true.mp z2 k hk)
        exact ⟨of_decide_eq_true z3, of_decide_eq_true z4⟩
    · cases h
  | .tasgk is ks e, fz, st, C, h, hw => by
    simp only [mS] at h
    split at h
    · rename_i ts k p v pos
      obtain ⟨h1, r0⟩ := and2 h
      obtain ⟨h2, h3⟩ := and2 r0
      obtain ⟨w1, r1⟩ := and2 (show (wE Y.sg Y.ms e K.kd && (nin fz is && (leK K.kd ks is && (alB K.md is (alP Y.sg Y.ms e K.kd).2 && is.all fun k => decide (3 ≤ K.md k))))) = true from hw)
      obtain ⟨w2, r2⟩ := and2 r1
      obtain ⟨w3, r3⟩ := and2 r2
      obtain ⟨w4, w5⟩ := and2 r3
      have pe := (sndE e C.toCtx rfl h3 w1).1
      have pg := pg_ok (tg := .many is) C.calm C.N C.nd (fun x hx => loc_fn C hx) h1
      refine PS.imp (ps_asg pe pg ?_ ?_ rfl) fun D σ H q => d_tasgk (nin_ok w2) w3 w4 (fun k hk => of_decide_eq_true (List.all_eq_true.mp w5 k hk)) q
      · show swapsWith v (some (.Tuple ts k p)) pos.line X.env = pure false
        cases v <;> rfl
      · cases v <;> first | rfl | (cases h2)
    · cases h
  | .par i j a b, fz, st, C, h, hw => by cases hw
  | .mut i .no m es, fz, st, C, h, hw => by
    obtain ⟨w1, r1⟩ := and2 (show (wEs Y.sg Y.ms es K.kd && (nin fz [i] && muB Y.sg Y.ms K i m es)) = true from hw)
    obtain ⟨w2, w3⟩ := and2 r1
    have hi := nin_ok w2 i (List.mem_singleton.mpr rfl)
    simp only [mS] at h
    split at h
    · rename_i ev ek x k p2 v pos
      obtain ⟨h1, r0⟩ := and2 h
      obtain ⟨h2, r1⟩ := and2 r0
      obtain ⟨h3, h4⟩ := and2 r1
      obtain ⟨x1, r2⟩ := and2 (show (wE Y.sg Y.ms ev K.kd && wEs Y.sg Y.ms (.cons ek .nil) K.kd) = true from w1)
      obtain ⟨x2, _⟩ := and2 (show (wE Y.sg Y.ms ek K.kd && wEs Y.sg Y.ms .nil K.kd) = true from r2)
      obtain ⟨pv, nc, _, _, n, np, rfl⟩ := var_of (i := i) C.toCtx rfl h1
      refine PS.imp (ps_asg (sndE ev C.toCtx rfl h4 x1).1 (pg_sub pv (sndE ek C.toCtx rfl h3 x2).1 (set_any (by have := C.hu; omega)) ?_) ?_ ?_ rfl) fun D σ H q => d_set hi w3 q
      · intro u
        cases k <;> first | rfl | (cases h2)
      · show swapsWith v (some (.Subscript (.Name n np) k p2)) pos.line X.env = pure false
        cases v <;> rfl
      · cases v <;> rfl
    · cases h
    · rename_i x a ap xs cp pos hns
      obtain ⟨h1, r0⟩ := and2 h
      obtain ⟨h2, r1⟩ := and2 r0
      obtain ⟨h3, r2⟩ := and2 r1
      obtain ⟨h4, r3⟩ := and2 r2
      obtain ⟨h5, h6⟩ := and2 r3
      have e := of_decide_eq_true h1
      subst e
      have h3 := of_decide_eq_true h3
      refine PS.imp (p_mut C rfl (of_decide_eq_true h2) h3.1 h3.2 h4 h5 h6 w1) fun D σ H q => ?_
      exact d_mut (fun e => (of_decide_eq_true h2) (by rw [e]; rfl)) hi w3 q
    · cases h
  | .mut i (.so e) m es, fz, st, C, h, hw => by
    obtain ⟨w0, r0⟩ := and2 (show (wE Y.sg Y.ms e K.kd && (wEs Y.sg Y.ms es K.kd && (nin fz [i] && (decide (K.md i ≤ 1) && decide (2 ≤ K.kd i))))) = true from hw)
    obtain ⟨w1, r1⟩ := and2 r0
    obtain ⟨w2, r2⟩ := and2 r1
    obtain ⟨w3, w4⟩ := and2 r2
    have hi := nin_ok w2 i (List.mem_singleton.mpr rfl)
    simp only [mS] at h
    split at h
    · rename_i x k p2 a ap xs cp pos
      obtain ⟨h1, r0⟩ := and2 h
      obtain ⟨h2, r1⟩ := and2 r0
      obtain ⟨h3, r2⟩ := and2 r1
      obtain ⟨h4, r3⟩ := and2 r2
      obtain ⟨h5, r4⟩ := and2 r3
      obtain ⟨h6, r5⟩ := and2 r4
      obtain ⟨h7, h8⟩ := and2 r5
      have e1 := of_decide_eq_true h1
      subst e1
      have h3 := of_decide_eq_true h3
      obtain ⟨pv, _, _, _, n, np, rfl⟩ := var_of (i := i) C.toCtx rfl h5
      have pk := (sndE e C.toCtx rfl h7 w0).1
      have po : PE X (.Subscript (.Name n np) k p2) (tAt Y X K i e) := pe_ix ix_seq pv pk (plainIx h6)
      refine PS.imp (p_mutG (to := tAt Y X K i e) C (fun σ H Q Q' h k => tAt_mono h k) po (fun _ => rfl) rfl (of_decide_eq_true h2) h3.1 h3.2 h4 h8 w1) fun D σ H q => ?_
      exact d_mutp (fun e => (of_decide_eq_true h2) (by rw [e]; rfl)) hi (of_decide_eq_true w3) (of_decide_eq_true w4) q
    · cases h
  | .ret e, fz, st, C, h, hw => by
    simp only [mS] at h
    split at h
    · obtain ⟨w1, w2⟩ := and2 (show (wE Y.sg Y.ms e K.kd && rtB Y.sg Y.ms K fz e) = true from hw)
      have w2' := w2
      unfold rtB at w2'
      obtain ⟨_, w3⟩ := and2 w2'
      rw [Bool.or_eq_true, Bool.or_eq_true] at w3
      have pe := (sndE e C.toCtx rfl h w1).1
      by_cases z : K.rty ≠ 0 → frE Y.sg Y.ms e K.kd ≤ K.rfr
      · exact PS.imp (ps_ret pe) fun D σ H q => d_ret w2 q z
      · have z0 : K.rty ≠ 0 := fun e => z fun n => absurd e n
        rcases w3 with w3 | w3 | w3
        · exact absurd (of_decide_eq_true w3) z0
        · exact absurd (fun _ => of_decide_eq_true w3) z
        · have wt : tyE Y.sg Y.ms e K.kd ≤ K.rty := of_decide_eq_true (and2 w2').1
          split at w3
          · obtain ⟨w4, w5⟩ := and2 w3
            obtain ⟨pv, _⟩ := var_of C.toCtx rfl h
            exact PS.imp (ps_ret pv) fun D σ H q => d_retV w2 (of_decide_eq_true w4) (by simpa using w5) z0 q
          · obtain ⟨w4, w5⟩ := and2 w3
            rename_i i _
            simp only [mE] at h
            split at h
            · obtain ⟨pv, _⟩ := var_of (i := i) C.toCtx rfl (show mE Y N (.var i) X.env.scope _ = true by simp only [mE]; exact h)
              exact PS.imp (ps_ret (PE.or (pe_revL pv) (pe_revT pv))) fun D σ H q => d_retR wt (of_decide_eq_true w4) (by simpa using w5) q
            · cases h
          · obtain ⟨w4, w5⟩ := and2 w3
            obtain ⟨w5, w6⟩ := and2 w5
            rename_i e1 i _ _
            simp only [mE] at h
            split at h
            · rename_i xs kk pp
              obtain ⟨x1, x2, rfl, p1, p2, p3, p4⟩ : ∃ x1 x2, xs = [x1, x2] ∧ plainE x1 = true ∧ mE Y N e1 X.env.scope x1 = true ∧ plainE x2 = true ∧ mE Y N (.var i) X.env.scope x2 = true := by
                cases xs with
                | nil => simp [mEs] at h
                | cons x1 xs =>
                  cases xs with
                  | nil => simp [mEs] at h
                  | cons x2 xs =>
                    cases xs with
                    | nil =>
                      simp only [mEs] at h
                      obtain ⟨h1, h2⟩ := and2 h
                      obtain ⟨h2, h3⟩ := and2 h2
                      obtain ⟨h3, h4⟩ := and2 h3
                      obtain ⟨h4, _⟩ := and2 h4
                      exact ⟨x1, x2, rfl, h1, h2, h3, h4⟩
                    | cons x3 xs => simp [mEs] at h
              have ww : wE Y.sg Y.ms e1 K.kd = true := (and2 (show (wE Y.sg Y.ms e1 K.kd && wEs Y.sg Y.ms (.cons (.var i) .nil) K.kd) = true from w1)).1
              obtain ⟨pv, _⟩ := var_of (i := i) C.toCtx rfl p4
              exact PS.imp (ps_ret (pe_tup (pa_cons (sndE e1 C.toCtx rfl p2 ww).1 (pa_cons pv pa_nil (star_cons p3 [] X.env)) (star_cons p1 [x2] X.env)))) fun D σ H q => d_retT wt (of_decide_eq_true w4) (of_decide_eq_true w5) (by simpa using w6) q
            · cases h
          · cases w3
    · cases h
  | .retn, fz, st, C, h, hw => by
    simp only [mS] at h
    split at h
    · exact PS.imp ps_retN fun D σ H q => d_retN q
    · cases h
  | .ife c a b, fz, st, C, h, hw => by
    simp only [mS] at h
    split at h
    · obtain ⟨h1, r0⟩ := and2 h
      obtain ⟨h2, h3⟩ := and2 r0
      obtain ⟨w1, r1⟩ := and2 (show (wE Y.sg Y.ms c K.kd && (okT c && (wSs Y K a fz && wSs Y K b fz))) = true from hw)
      obtain ⟨w2, r2⟩ := and2 r1
      obtain ⟨w3, w4⟩ := and2 r2
      exact PS.imp (ps_if ((sndE c C.toCtx rfl h1 w1).2 w2) (sndSs a C h2 w3) (sndSs b C h3 w4)) fun D σ H q => d_if q
    · cases h
  | .for_ tg it body, fz, st, C, h, hw => by
    simp only [mS] at h
    split at h
    · obtain ⟨h1, r0⟩ := and2 h
      obtain ⟨h2, r1⟩ := and2 r0
      obtain ⟨h3, h4⟩ := and2 r1
      obtain ⟨w1, r2⟩ := and2 (show (wI Y.sg Y.ms it K.kd && (nin (fz ++ fxI Y K it) (tgs tg) && ((decide (tyI Y.sg Y.ms it K.kd = 0) || (alB K.md [] (alI Y.sg Y.ms it K.kd) && (tgs tg).all fun k => decide (3 ≤ K.md k) && decide (2 ≤ K.kd k))) && wSs Y K body (fz ++ fxI Y K it)))) = true from hw)
      obtain ⟨w2, r3⟩ := and2 r2
      obtain ⟨w3, w4⟩ := and2 r3
      refine PS.imp (ps_for C.po C.calm (sndI it C.toCtx rfl h3 w1) (pg_ok C.calm C.N C.nd (fun x hx => loc_fn C hx) h2) (sndSs body C h4 w4) (folded_pure h1 X.env)) fun D σ H q => d_for (nin_ok w2) (fun k hk => ?_) ?_ q
      · exact List.mem_append.mpr hk
      · rw [Bool.or_eq_true] at w3
        refine w3.imp of_decide_eq_true fun z => ?_
        obtain ⟨z1, z2⟩ := and2 z
        refine ⟨z1, fun k hk => ?_⟩
        obtain ⟨z3, z4⟩ := and2 (List.all_eq_true.mp z2 k hk)
        exact ⟨of_decide_eq_true z3, of_decide_eq_true z4⟩
    · cases h
  | .whl n c body, fz, st, C, h, hw => by
    simp only [mS] at h
    split at h
    · obtain ⟨h1, h2⟩ := and2 h
      obtain ⟨w1, r1⟩ := and2 (show (wE Y.sg Y.ms c K.kd && (okT c && wSs Y K body fz)) = true from hw)
      obtain ⟨w2, w3⟩ := and2 r1
      exact PS.imp (ps_while C.po ((sndE c C.toCtx rfl h1 w1).2 w2) (sndSs body C h2 w3)) fun D σ H q => d_whl q
    · cases h
  | .brk, fz, st, C, h, hw => by
    simp only [mS] at h
    split at h
    · refine PS.imp ps_break fun D σ H q => ?_
      obtain ⟨w, σ, Fs, f, fi, he, po⟩ := q
      cases he
      exact po _ _ _ fi
    · cases h
  | .cnt, fz, st, C, h, hw => by
    simp only [mS] at h
    split at h
    · refine PS.imp ps_continue fun D σ H q => ?_
      obtain ⟨w, σ, Fs, f, fi, he, po⟩ := q
      cases he
      exact po _ _ _ fi
    · cases h
  | .pas, fz, st, C, h, hw => by
    simp only [mS] at h
    split at h
    · refine PS.imp ps_pass fun D σ H q => ?_
      obtain ⟨w, σ, Fs, f, fi, he, po⟩ := q
      cases he
      exact po _ _ _ fi
    · cases h
  | .nev, fz, st, C, h, hw => PS.never fun D σ H q => by
    obtain ⟨w, σ, Fs, f, fi, he, po⟩ := q
    cases he
  | .mapp i j, fz, st, C, h, hw => by
    simp only [mS] at h
    split at h
    · rename_i x a ap y cp pos
      obtain ⟨h1, r0⟩ := and2 h
      obtain ⟨h2, r1⟩ := and2 r0
      obtain ⟨h3, h4⟩ := and2 r1
      have e1 := of_decide_eq_true h1
      subst e1
      obtain ⟨w1, q0⟩ := and2 (show (nin fz [i, j] && (decide (i ≠ j) && (decide (K.md i ≤ 2) && ((decide (2 ≤ K.md i) || decide (K.md j ≤ 1)) && decide (2 ≤ K.kd i))))) = true from hw)
      obtain ⟨w2, q1⟩ := and2 q0
      obtain ⟨w3, q2⟩ := and2 q1
      obtain ⟨w4, w5⟩ := and2 q2
      obtain ⟨pv, _, _, _, n, np, rfl⟩ := var_of (i := i) C.toCtx rfl h3
      obtain ⟨pv2, _, _, p2, n2, np2, rfl⟩ := var_of (i := j) C.toCtx rfl h4
      refine PS.imp (ps_expr (pe_bm PySem.F.plainAttrs_list PySem.F.slot_list_append PySem.F.type_list_append mt_append pv (pa_cons pv2 pa_nil (star_cons p2 [] X.env)) rfl (ra_of (es := [.Name n2 np2]) (by simp [p2]) cp X.env (by simp)) h2 (star_cons p2 [] X.env) rfl) (sw_no rfl _ _ _)) fun D σ H q => d_mapp (nin_ok w1 i (List.mem_cons_self ..)) (nin_ok w1 j (List.mem_cons_of_mem _ (List.mem_singleton.mpr rfl))) (of_decide_eq_true w2) (of_decide_eq_true w3) (fun m1 => ?_) (of_decide_eq_true w5) q
      rw [Bool.or_eq_true] at w4
      rcases w4 with z | z
      · have := of_decide_eq_true z
        omega
      · exact of_decide_eq_true z
    · cases h
  | .exp e, fz, st, C, h, hw => by
    simp only [mS] at h
    split at h
    · obtain ⟨h1, h2⟩ := and2 h
      exact PS.imp (ps_expr (sndE e C.toCtx rfl h2 (show wE Y.sg Y.ms e K.kd = true from hw)).1 (sw_no h1 _ _ _)) fun D σ H q => d_exp q
    · cases h
  | .sdp i k x, fz, st, C, h, hw => by
    simp only [mS] at h
    split at h
    · rename_i y b bp ke lp cq a ap xe cp pos
      obtain ⟨h1, r0⟩ := and2 h
      obtain ⟨h2, r1⟩ := and2 r0
      obtain ⟨h3, r2⟩ := and2 r1
      obtain ⟨h4, r3⟩ := and2 r2
      obtain ⟨h5, r4⟩ := and2 r3
      obtain ⟨h6, r5⟩ := and2 r4
      obtain ⟨h7, r6⟩ := and2 r5
      obtain ⟨h8, h9⟩ := and2 r6
      have e1 := of_decide_eq_true h1
      subst e1
      have e2 := of_decide_eq_true h2
      subst e2
      obtain ⟨w0, q0⟩ := and2 (show (wE Y.sg Y.ms k K.kd && (wE Y.sg Y.ms x K.kd && (nin fz [i] && (decide (K.md i ≤ 1) && decide (2 ≤ K.kd i))))) = true from hw)
      obtain ⟨w1, q1⟩ := and2 q0
      obtain ⟨w2, q2⟩ := and2 q1
      obtain ⟨w3, w4⟩ := and2 q2
      have hi := nin_ok w2 i (List.mem_singleton.mpr rfl)
      obtain ⟨pv, _, _, _, n, np, rfl⟩ := var_of (i := i) C.toCtx rfl h5
      have pk := (sndE k C.toCtx rfl h7 w0).1
      have pe := (sndE (.lst .nil) (kd := K.kd) C.toCtx rfl (show mE Y N (.lst .nil) X.env.scope (.List [] lp) = true by simp [mE, mEs]) (show wE Y.sg Y.ms (.lst .nil) K.kd = true from rfl)).1
      have po : PE X (.Call (.Attribute (.Name n np) "setdefault" bp) [ke, .List [] lp] [] cq) (tStd X (tVar i) (tE Y (gc Y X) K.kd k) (tE Y (gc Y X) K.kd (.lst .nil))) :=
        pe_std (by have := C.hu; omega) pv pk pe ⟨rfl, ra_of (es := [ke, .List [] lp]) (by simp [h6, show plainE (.List [] lp) = true from rfl]) cq X.env (by simp), h4, by rw [star_cons h6, star_cons (show plainE (.List [] lp) = true from rfl)]; rfl⟩
      have hes : mEs Y N (.cons x .nil) X.env.scope [xe] = true := by
        simp [mEs, h8, h9]
      have hws : wEs Y.sg Y.ms (.cons x .nil) K.kd = true := by
        simp [wEs, w1]
      have pa := sndEs (.cons x .nil) C.toCtx rfl hes hws
      exact PS.imp (ps_expr (pe_bm PySem.F.plainAttrs_list PySem.F.slot_list_append PySem.F.type_list_append mt_append po pa rfl (ra_of (es := [xe]) (by simp [h8]) cp X.env (by simp)) h3 (star_cons h8 [] X.env) rfl) (sw_no rfl _ _ _)) fun D σ H q => d_sdp hi (of_decide_eq_true w3) (of_decide_eq_true w4) q
    · cases h
  | .apop i j e, fz, st, C, h, hw => by
    simp only [mS] at h
    split at h
    · rename_i x a ap y b bp k cq cp pos
      obtain ⟨h1, r0⟩ := and2 h
      obtain ⟨h2, r1⟩ := and2 r0
      obtain ⟨h3, r2⟩ := and2 r1
      obtain ⟨h4, r3⟩ := and2 r2
      obtain ⟨h5, r4⟩ := and2 r3
      obtain ⟨h6, r5⟩ := and2 r4
      obtain ⟨h7, h8⟩ := and2 r5
      have e := of_decide_eq_true h1
      subst e
      have e := of_decide_eq_true h2
      subst e
      obtain ⟨w1, r6⟩ := and2 (show (wE Y.sg Y.ms e K.kd && (nin fz [i, j] && (decide (i ≠ j) && (decide (K.md i ≤ 2) && decide (K.md j ≤ 2))))) = true from hw)
      obtain ⟨w2, r7⟩ := and2 r6
      obtain ⟨w3, r8⟩ := and2 r7
      obtain ⟨w4, w5⟩ := and2 r8
      obtain ⟨pv, _, _, _, n, np, rfl⟩ := var_of (i := i) C.toCtx rfl h5
      obtain ⟨pw, _, _, _, n2, np2, rfl⟩ := var_of (i := j) C.toCtx rfl h6
      have pk := (sndE e C.toCtx rfl h8 w1).1
      have pp : PE X (.Call (.Attribute (.Name n2 np2) "pop" bp) [k] [] cq) _ := pe_bm PySem.F.plainAttrs_list PySem.F.slot_list_pop PySem.F.type_list_pop mt_popAt pw (pa_cons pk pa_nil (star_cons h7 [] X.env)) rfl (ra_of (es := [k]) (by simp [h7]) cq X.env (by simp)) h4 (star_cons h7 [] X.env) rfl
      have pl : plainE (.Call (.Attribute (.Name n2 np2) "pop" bp) [k] [] cq) = true := rfl
      have pa : PE X (.Call (.Attribute (.Name n np) "append" ap) [.Call (.Attribute (.Name n2 np2) "pop" bp) [k] [] cq] [] cp) _ := pe_bm PySem.F.plainAttrs_list PySem.F.slot_list_append PySem.F.type_list_append mt_append pv (pa_cons pp pa_nil (star_cons pl [] X.env)) rfl (ra_of (es := [.Call (.Attribute (.Name n2 np2) "pop" bp) [k] [] cq]) rfl cp X.env (by simp)) h3 (star_cons pl [] X.env) rfl
      exact PS.imp (ps_expr pa (sw_no rfl _ _ _)) fun D σ H q => d_apop (nin_ok w2 i (List.mem_cons_self ..)) (nin_ok w2 j (List.mem_cons_of_mem _ (List.mem_singleton.mpr rfl))) (of_decide_eq_true w3) (of_decide_eq_true w4) (of_decide_eq_true w5) q
    · cases h
  | .probe g x j e c, fz, st, C, h, hw => by
    obtain ⟨w1, r0⟩ := and2 (show (wE Y.sg Y.ms e K.kd && (wE Y.sg Y.ms c K.kd && (okT c && (gdB Y K g && (nin fz [x, j] && (decide (x ≠ j) && (decide (K.md j ≤ 1) && (decide (2 ≤ K.kd j) && decide (2 ≤ K.kd x))))))))) = true from hw)
    obtain ⟨w2, r1⟩ := and2 r0
    obtain ⟨w3, r2⟩ := and2 r1
    obtain ⟨w4, r3⟩ := and2 r2
    obtain ⟨w5, r4⟩ := and2 r3
    obtain ⟨w6, r5⟩ := and2 r4
    obtain ⟨w7, r6⟩ := and2 r5
    obtain ⟨w8, w9⟩ := and2 r6
    simp only [mS] at h
    split at h
    · rename_i xn xp y body pos
      obtain ⟨h1, r0⟩ := and2 h
      obtain ⟨h2, r1⟩ := and2 r0
      obtain ⟨h3, r2⟩ := and2 r1
      obtain ⟨h4, h5⟩ := and2 r2
      obtain ⟨pv, _⟩ := var_of (i := j) C.toCtx rfl h4
      have hx := loc_fn C h2
      have pg : PG X (.Name xn xp) (gName x) := pg_name C.nd (by rw [C.N]; exact of_decide_eq_true h1) hx.1 hx.2
      have body_ok : PSs X body (tPbs Y X K g x e c) := by
        cases g with
        | no => exact p_pb C h5 w1 w2 w3
        | so g =>
          obtain ⟨v1, v2⟩ := and2 w4
          simp only at h5
          split at h5
          · obtain ⟨h6, h7⟩ := and2 h5
            exact pss_cons (ps_if ((sndE g C.toCtx rfl h6 v1).2 v2) (p_pb C h7 w1 w2 w3) pss_nil) pss_nil
          · cases h5
      exact PS.imp (ps_for C.po C.calm (pi_list pv) pg body_ok (folded_pure h3 X.env)) fun D σ H q => d_probe (nin_ok w5 x (List.mem_cons_self ..)) (nin_ok w5 j (List.mem_cons_of_mem _ (List.mem_singleton.mpr rfl))) (of_decide_eq_true w6) (of_decide_eq_true w7) (of_decide_eq_true w8) (of_decide_eq_true w9) q
    · cases h
theorem sndSs : ∀ (s : ISs) {fz : List Nat} {sts : List Stmt}, CtxS Y N X → mSs Y N s X.env.scope sts = true → wSs Y K s fz = true → PSs X sts (tSs Y (gc Y X) K fz s)
  | .nil, fz, sts, C, h, hw => by
    simp only [mSs] at h
    cases sts with
    | nil =>
      refine PSs.imp pss_nil fun D σ H q => ?_
      obtain ⟨w, σ, Fs, f, fi, he, po⟩ := q
      cases he
      exact po _ _ _ fi
    | cons s r => cases h
  | .cons s r, fz, sts, C, h, hw => by
    simp only [mSs] at h
    split at h
    · obtain ⟨h1, h2⟩ := and2 h
      obtain ⟨w1, w2⟩ := and2 (show (wS Y K s fz && wSs Y K r fz) = true from hw)
      exact PSs.imp (pss_cons (sndS s C h1 w1) (sndSs r C h2 w2)) fun D σ H q => d_seq q
    · cases h
  | .drop is r, fz, sts, C, h, hw => by
    simp only [mSs] at h
    obtain ⟨w1, w2⟩ := and2 (show (nin fz is && wSs Y K r fz) = true from hw)
    exact PSs.imp (sndSs r C h w2) fun D σ H q => d_drop (nin_ok w1) q
end
end
end Ev

/-! Part E: defs, one behind another; the law's own. -/
namespace Ev
open PySem PySem.Spec PyProof.Rows L2
abbrev Bod := Nat × ISs
/-- the defs' values; the last def first -/
def phiR (M : Nat → Nat → Option Nat) : List Bod → Nat → List D → R D
  | [], _, _ => .bad
  | (n, b) :: r, j, ds => if j = r.length then evB (phiR M r) M n b ds else phiR M r j ds
/-- what is known of the text -/
structure TX where
  fns : List Str
  cls : List Str
  mths : List Str
  sg : Nat → Sig
  ms : Nat → Sig
  tb : List (List (Option Nat))
  ci : List (Str × Int)
  cs : List (Str × Str)
  df : Nat → Nat := fun _ => 0
abbrev TX.M (T : TX) : Nat → Nat → Option Nat := fun c m => (T.tb.getD c []).getD m none
abbrev TX.sx (T : TX) (r : List Bod) : SX := ⟨T.fns.take r.length, T.cls, T.mths, T.sg, T.ms, phiR T.M r, T.M, T.ci, T.cs, T.df⟩
section
variable (T : TX) (P : Program) (w : World) (K : PySem.W.Frag) (mg : Str → Option Value) (base : Heap)
structure Ent (r : List Bod) (n j : Nat) (x : Str) (f : Addr) (fd : FuncData) (ps : List Str) : Prop where
  ok : FnOk P w K mg base CX0 n f fd ps (spE (T.sx r) ⟨P, w, K, mg, base, clsOf T.cls mg⟩ j ps.length)
  mg : mg x = some (.ref f)
  kp : PySem.W.keepIn K (.ref f) = true
  bd : ∀ m, m ≤ T.df j → ∃ us, Vals (List.replicate m V.non) us ∧ Binds K fd ps us
  len : (T.sg j).ps.length = ps.length
structure Tab (r : List Bod) (n : Nat) : Prop where
  bn : ∀ x ∈ bnames, mg (Str.ofString x) = none
  ci : ∀ x n, T.ci.lookup x = some n → ∃ t, mg x = some (.int n t)
  cs : ∀ x n, T.cs.lookup x = some n → ∃ t, mg x = some (.str n t)
  fn : ∀ (j : Nat) (x : Str), (T.fns.take r.length)[j]? = some x → x ≠ ("" : Str) → ∃ f fd ps, Ent T P w K mg base r n j x f fd ps
  cl : ∀ (c : Nat) (x : Str), T.cls[c]? = some x → ∃ C, mg x = some (.ref C) ∧ MkC K C
  mt : ∀ (c m j : Nat), T.M c m = some j → j < r.length → ∃ f fd ps mn, T.mths[m]? = some mn ∧ FnOk P w K mg base CX0 n f fd ps (spE (T.sx r) ⟨P, w, K, mg, base, clsOf T.cls mg⟩ j ps.length) ∧ Binds K fd ps [] ∧
    (T.sg j).ps.length = ps.length ∧ Cls K (clsOf T.cls mg c) ∧ Meth K (clsOf T.cls mg c) mn f ∧ (T.sg j).ps = 0 :: (T.ms m).ps ∧ (T.sg j).ty = (T.ms m).ty ∧ (T.sg j).fr = (T.ms m).fr
/-- a def's facts as a method -/
def MthL (f : Addr) (j : Nat) : List (Nat × Nat) → Prop
  | [] => True
  | (c, m) :: r => (∃ mn, T.mths[m]? = some mn ∧ Cls K (clsOf T.cls mg c) ∧ Meth K (clsOf T.cls mg c) mn f ∧ (T.sg j).ps = 0 :: (T.ms m).ps ∧ (T.sg j).ty = (T.ms m).ty ∧ (T.sg j).fr = (T.ms m).fr) ∧ MthL f j r
end
theorem MthL.at_ {T : TX} {K : PySem.W.Frag} {mg : Str → Option Value} {f : Addr} {j : Nat} : ∀ {ks : List (Nat × Nat)} {c m : Nat}, MthL T K mg f j ks → (c, m) ∈ ks → ∃ mn, T.mths[m]? = some mn ∧ Cls K (clsOf T.cls mg c) ∧ Meth K (clsOf T.cls mg c) mn f ∧ (T.sg j).ps = 0 :: (T.ms m).ps ∧ (T.sg j).ty = (T.ms m).ty ∧ (T.sg j).fr = (T.ms m).fr
  | [], _, _, _, h => nomatch h
  | (c', m') :: r, c, m, h, hm => by
    rcases List.mem_cons.mp hm with e | e
    · cases e
      exact h.1
    · exact MthL.at_ h.2 e
def noMB (T : TX) (j : Nat) : Bool := T.tb.all fun l => l.all fun o => decide (o ≠ some j)
def keysB (T : TX) (j : Nat) (ks : List (Nat × Nat)) : Bool := (List.range T.tb.length).all fun c => (List.range (T.tb.getD c []).length).all fun m => decide (T.M c m ≠ some j) || ks.contains (c, m)
theorem M_in {T : TX} {c m j : Nat} (h : T.M c m = some j) : c < T.tb.length ∧ m < (T.tb.getD c []).length := by
  have h : (T.tb.getD c []).getD m none = some j := h
  constructor
  · by_cases l : c < T.tb.length
    · exact l
    · rw [List.getD_eq_getElem?_getD (l := T.tb), List.getElem?_eq_none (by omega)] at h
      simp at h
  · by_cases l : m < (T.tb.getD c []).length
    · exact l
    · rw [List.getD_eq_getElem?_getD (l := T.tb.getD c []), List.getElem?_eq_none (by omega)] at h
      cases h
theorem noM {T : TX} {j : Nat} (h : noMB T j = true) (c m : Nat) : T.M c m ≠ some j := fun e => by
  obtain ⟨h1, h2⟩ := M_in e
  have e : (T.tb.getD c []).getD m none = some j := e
  have z := List.all_eq_true.mp h (T.tb.getD c []) (by
    rw [List.getD_eq_getElem?_getD, List.getElem?_eq_getElem h1]
    exact List.getElem_mem h1)
  have z := List.all_eq_true.mp z _ (List.getElem_mem h2)
  rw [List.getD_eq_getElem?_getD, List.getElem?_eq_getElem h2] at e
  exact of_decide_eq_true z e
theorem keys_in {T : TX} {j : Nat} {ks : List (Nat × Nat)} (h : keysB T j ks = true) {c m : Nat} (e : T.M c m = some j) : (c, m) ∈ ks := by
  obtain ⟨h1, h2⟩ := M_in e
  have z := List.all_eq_true.mp h c (List.mem_range.mpr h1)
  have z := List.all_eq_true.mp z m (List.mem_range.mpr h2)
  rw [Bool.or_eq_true] at z
  rcases z with z | z
  · exact absurd e (of_decide_eq_true z)
  · simpa using z
theorem phiR_lt {M : Nat → Nat → Option Nat} : ∀ {r : List Bod} {j : Nat} {ds : List D} {d : D}, phiR M r j ds = .ok d → j < r.length
  | [], j, ds, d, h => by cases h
  | (n, b) :: r, j, ds, d, h => by
    unfold phiR at h
    split at h
    · rename_i e
      rw [e]
      exact Nat.lt_succ_self _
    · exact Nat.lt_succ_of_lt (phiR_lt h)
section
variable {T : TX} {P : Program} {w : World} {K : PySem.W.Frag} {mg : Str → Option Value} {base : Heap}
theorem funD {x qual : Str} {st : Stmt} {f : Addr} {fd : FuncData} (F : Fun K x qual st f fd) : FunD K x qual (defArgs st) (defBody st) (defScope st) [] [] f fd := by
  obtain ⟨oc, od, kV, doc, pm, an, cdv, ct, osl, h1, h2, h3⟩ := F.ex
  exact ⟨⟨oc, od, .none, kV, doc, pm, an, cdv, ct, osl, h1, h2, h3, .inl ⟨rfl, rfl⟩, .inl rfl⟩, F.kp⟩
theorem bd0 {fd : FuncData} {ps : List Str} {n : Nat} (h : Binds K fd ps []) (e : n = 0) : ∀ m, m ≤ n → ∃ us, Vals (List.replicate m V.non) us ∧ Binds K fd ps us := fun m hm => by
  have : m = 0 := by omega
  subst this
  exact ⟨[], .nil, h⟩
theorem bd1 {fd : FuncData} {ps : List Str} {n : Nat} (h : ∃ us, Vals (List.drop 1 [V.non]) us ∧ Binds K fd ps us) (h1 : ∃ us, Vals (List.drop 0 [V.non]) us ∧ Binds K fd ps us) (e : n = 1) : ∀ m, m ≤ n → ∃ us, Vals (List.replicate m V.non) us ∧ Binds K fd ps us := fun m hm => by
  rcases (show m = 0 ∨ m = 1 by omega) with rfl | rfl
  · exact h
  · exact h1
/-- a def with one default, None, as it stands behind the top -/
theorem fund_mk {x qual : Str} {st : Stmt} {f T : Addr} {oc : Value} {od an odT : Option Addr} {osl slT : Array (Option Value)} {kV doc pm cdv ct ocT : Value} {nT : Nat} (l : K.lookup f = some ⟨oc, od, .func (PySem.W.fnOf x qual (defArgs st) (defBody st) (defScope st) (.ref T) kV doc pm an cdv ct), osl⟩)
    (lT : K.lookup T = some ⟨ocT, odT, .seq #[Value.none] nT, slT⟩) (c : PySem.W.codeIn K cdv qual = true) (k : PySem.W.keepIn K (.ref f) = true) : FunD K x qual (defArgs st) (defBody st) (defScope st) [.non] [] f (PySem.W.fnOf x qual (defArgs st) (defBody st) (defScope st) (.ref T) kV doc pm an cdv ct) :=
  ⟨⟨oc, od, .ref T, kV, doc, pm, an, cdv, ct, osl, rfl, l, c, .inr ⟨by simp, T, _, [Value.none], nT, rfl, lT, rfl, .cons rfl .nil⟩, .inl rfl⟩, k⟩
theorem Reps.each {G : GC} {H : Hp} : ∀ {vs : List V} {ds : List D} {F : List Addr}, Reps G H vs ds F → ∃ Fs : Nat → List Addr, (∀ (i : Nat) d, ds[i]? = some d → ∃ v, vs[i]? = some v ∧ Rep G H v d (Fs i)) ∧ (∀ i, ∀ a ∈ Fs i, a ∈ F) ∧ ∀ i, ds.length ≤ i → Fs i = []
  | _, _, _, .nil => ⟨fun _ => [], fun i d e => by simp at e, fun i a h => (nomatch h), fun _ _ => rfl⟩
  | _, _, _, .cons (F := F1) r rs => by
    obtain ⟨Fs, h1, h2, h3⟩ := Reps.each rs
    refine ⟨fun i => match i with
      | 0 => F1
      | i + 1 => Fs i, fun i d e => ?_, fun i a h => ?_, fun i h => ?_⟩
    · cases i with
      | zero =>
        cases e
        exact ⟨_, rfl, r⟩
      | succ i => exact h1 i d e
    · cases i with
      | zero => exact List.mem_append_left _ h
      | succ i => exact List.mem_append_right _ (h2 i a h)
    · cases i with
      | zero => simp at h
      | succ i => exact h3 i (by simpa using h)
theorem args_get : ∀ {ps : List Nat} {ds : List D}, argsOk ps ds → ∀ {i : Nat} {d : D}, ds[i]? = some d → ∃ n, ps[i]? = some n ∧ TyOk n d
  | [], [], _, i, d, e => by simp at e
  | n :: ps, x :: ds, h, 0, d, e => by
    cases e
    exact ⟨n, rfl, h.1⟩
  | n :: ps, x :: ds, h, i + 1, d, e => args_get h.2 (i := i) (by simpa using e)
  | [], _ :: _, h, _, _, _ => h.elim
  | _ :: _, [], h, _, _, _ => h.elim
/-- a parameter: a kind that is told, nothing of its own -/
def parB (ps : List Nat) (Kf : Fk) : Bool := (List.range ps.length).all fun i => decide (ps.getD i 2 ≤ Kf.kd i) && (decide (3 ≤ Kf.md i) || decide (ps.getD i 2 = 0))
theorem parB_at {ps : List Nat} {Kf : Fk} (h : parB ps Kf = true) {i n : Nat} (e : ps[i]? = some n) : n ≤ Kf.kd i ∧ (3 ≤ Kf.md i ∨ n = 0) := by
  have l := (List.getElem?_eq_some_iff.mp e).1
  have := List.all_eq_true.mp h i (List.mem_range.mpr l)
  obtain ⟨h1, h2⟩ := and2 this
  have e1 : ps.getD i 2 = n := by rw [List.getD_eq_getElem?_getD, e]; rfl
  rw [e1] at h1 h2
  refine ⟨of_decide_eq_true h1, ?_⟩
  rw [Bool.or_eq_true] at h2
  exact h2.imp of_decide_eq_true of_decide_eq_true
theorem get_start {α : Type} {xs : List α} {n i : Nat} {d : α} (h : (xs.map some ++ List.replicate n none)[i]? = some (some d)) : xs[i]? = some d := by
  by_cases l : i < xs.length
  · rw [List.getElem?_append_left (by rw [List.length_map]; exact l), List.getElem?_map] at h
    cases q : xs[i]? with
    | none => rw [q] at h; cases h
    | some y => rw [q] at h; cases h; rfl
  · rw [List.getElem?_append_right (by rw [List.length_map]; omega), List.getElem?_replicate] at h
    split at h <;> cases h
/-- one def's promise -/
theorem Tab.fnok {r : List Bod} {n : Nat} (t : Tab T P w K mg base r n) {x qual : Str} {st : Stmt} {f : Addr} {fd : FuncData} {N ps : List Str} {body : ISs} {Kf : Fk} {dvs : List V} {kws : List (Str × V)} (F : FunD K x qual (defArgs st) (defBody st) (defScope st) dvs kws f fd) (S : FnScope N ps (defScope st))
    (hm : mSs (T.sx r) N body (defScope st) (defBody st) = true) (hw : wSs (T.sx r) Kf body [] = true) (hp : parB (T.sg r.length).ps Kf = true) (hl : (T.sg r.length).ps.length = ps.length) (hty : (T.sg r.length).ty = Kf.rty) (hfr : (T.sg r.length).fr = Kf.rfr) :
    FnOk P w K mg base CX0 (n + 1) f fd ps (spE (T.sx ((N.length, body) :: r)) ⟨P, w, K, mg, base, clsOf T.cls mg⟩ r.length ps.length) := by
    refine F.ok S (fun vs H Q E h => ?_) fun cdv A outer s H vs Q E hr h => ?_
    · obtain ⟨ds, Fa, d, h1, _⟩ := h
      exact h1
    · obtain ⟨ds, Fa, d, h1, rp, ao, hphi, q⟩ := h
      have C : CtxS (T.sx r) N (cxOf CX0 P w K mg base N qual (defScope st) f cdv A outer s H E).nox :=
        { N := rfl, nd := S.nd, calm := rfl, hu := by have := hr.un; show (A.deeper _).units + 65 < _; omega, bn := t.bn, ci := t.ci, cs := t.cs,
          fn := fun j y e hy => by
            obtain ⟨f', fd', ps', en⟩ := t.fn j y e hy
            exact ⟨f', fd', ps', n, en.ok, hr, en.mg, en.kp, en.bd, en.len⟩
          cl := t.cl
          mt := fun c m j ds d e hd => by
            obtain ⟨f', fd', ps', mn, g1, g2, g3⟩ := t.mt c m j e (phiR_lt hd)
            exact ⟨f', fd', ps', n, mn, g1, g2, hr, g3⟩
          fnT := fun _ => rfl, po := PassesOwn.never, kf := S.kind }
      refine ⟨_, (sndSs (K := Kf) body C hm hw).nox, ?_⟩
      obtain ⟨Fs, e1, e2, e3⟩ := rp.each
      have hphi' : evB (phiR T.M r) T.M N.length body ds = .ok d := by
        have : phiR T.M ((N.length, body) :: r) r.length ds = .ok d := hphi
        unfold phiR at this
        rwa [if_pos rfl] at this
      obtain ⟨g, eg, hg⟩ := bind_ok hphi'
      have ld : ds.length = ps.length := by rw [argsOk_len ao, hl]
      have lv : vs.length = ds.length := rp.length
      let σ0 : Sg := ds.map some ++ List.replicate (N.length - ds.length) none
      have own : ∀ i, Kf.md i ≤ 2 → Fs i = [] := fun i hi => by
        cases qd : ds[i]? with
        | none => exact e3 i (List.getElem?_eq_none_iff.mp qd)
        | some d' =>
          obtain ⟨m, g1, g2⟩ := args_get ao qd
          obtain ⟨_, g3⟩ := parB_at hp g1
          rcases g3 with g3 | g3
          · omega
          · subst g3
            obtain ⟨v, _, rv⟩ := e1 i d' qd
            exact rv.pure_nil g2
      have noU : ∀ i, ∀ a, a ∉ Us (Kf.md i) σ0[i]? (Fs i) := fun i a ha => by
        by_cases h3 : 3 ≤ Kf.md i
        · rw [Us_three h3] at ha
          exact nomatch ha
        · rw [own i (by omega)] at ha
          exact Us_nil ha
      let w0 : Wd := ⟨fun a => ∃ o, H a = some o, fun a => H a = none ∨ a ∈ Fa, H, H, σ0, Fs⟩
      have fi : FK (gc (T.sx r) (cxOf CX0 P w K mg base N qual (defScope st) f cdv A outer s H E).nox) Kf [] w0 σ0 (start N vs) H Fs := by
        refine ⟨⟨fun i d' e => ?_, fun i d' e => ?_, ?_, fun i a ha => rp.there a (e2 i a ha)⟩, fun i hi => ?_, fun i d' e hi hL a F' e' => ?_, fun i j hij a ha => absurd ha (noU i a), fun i _ a ha => absurd ha (noU i a), fun i a ha => .inr (e2 i a ha), fun i hi => (nomatch hi), Imm.refl H, fun _ _ => rfl,
          ⟨Same.refl H, fun a o e => ⟨o, e⟩, fun a h => h, fun a h => .inl h⟩⟩
        · obtain ⟨v, g1, g2⟩ := e1 i d' (get_start e)
          refine ⟨v, ?_, g2⟩
          unfold L2.start
          have l := (List.getElem?_eq_some_iff.mp g1).1
          rw [List.getElem?_append_left (by rw [List.length_map]; exact l), List.getElem?_map, g1]
          rfl
        · obtain ⟨m, g1, g2⟩ := args_get ao (get_start e)
          exact TyOk.mono (parB_at hp g1).1 g2
        · unfold L2.start
          rw [List.length_append, List.length_map, List.length_replicate, List.length_append, List.length_map, List.length_replicate, lv]
        · rw [own i (by omega)]
          exact List.nodup_nil
        · rw [own i hi] at e'
          cases e'
      refine ⟨w0, σ0, Fs, g, fi, eg, ?_⟩
      have fin : ∀ v H' F, Ret (gc (T.sx r) (cxOf CX0 P w K mg base N qual (defScope st) f cdv A outer s H E).nox) Kf w0 v d F H' → Q v H' := fun v H' F rt =>
        q v H' F rt.same rt.rep (by rw [show ((T.sx ((N.length, body) :: r)).sg r.length).ty = Kf.rty from hty]; exact rt.ty) (by rw [show ((T.sx ((N.length, body) :: r)).sg r.length).ty = Kf.rty from hty, show ((T.sx ((N.length, body) :: r)).sg r.length).fr = Kf.rfr from hfr]; exact rt.fr) rt.bd
      cases g with
      | nx σ' =>
        cases hg
        exact fun a b c fi' => fin .non b [] ⟨fi'.sb, .non, TyOk.pure rfl _, FrOk.pure rfl rfl, fun a ha => nomatch ha⟩
      | bk σ' => cases hg
      | ct σ' => cases hg
      | rt d' =>
        cases hg
        exact fin
theorem up_one {r : List Bod} {n j : Nat} {f : Addr} {fd : FuncData} {ps : List Str} {G : GC} {b : Bod} (hj : j < r.length) (h : FnOk P w K mg base CX0 n f fd ps (spE (T.sx r) G j ps.length)) : FnOk P w K mg base CX0 (n + 1) f fd ps (spE (T.sx (b :: r)) G j ps.length) :=
  (h.mono (Nat.le_succ n)).imp fun vs H Q E h => by
    obtain ⟨ds, Fa, d, h1, h2, h3, h4, h5⟩ := h
    refine ⟨ds, Fa, d, h1, h2, h3, ?_, h5⟩
    have h4 : phiR T.M (b :: r) j ds = .ok d := h4
    unfold phiR at h4
    rwa [if_neg (by omega)] at h4
/-- THE STEP: one def more -/
theorem Tab.step {r : List Bod} {n : Nat} (t : Tab T P w K mg base r n) {x qual : Str} {st : Stmt} {f : Addr} {fd : FuncData} {N ps : List Str} {body : ISs} {Kf : Fk} {dvs : List V} {kws : List (Str × V)} (F : FunD K x qual (defArgs st) (defBody st) (defScope st) dvs kws f fd) (S : FnScope N ps (defScope st))
    (hm : mSs (T.sx r) N body (defScope st) (defBody st) = true) (hw : wSs (T.sx r) Kf body [] = true) (hp : parB (T.sg r.length).ps Kf = true) (hl : (T.sg r.length).ps.length = ps.length) (hty : (T.sg r.length).ty = Kf.rty) (hfr : (T.sg r.length).fr = Kf.rfr)
    (hx : T.fns[r.length]? = some x) (hmg : mg x = some (.ref f)) (hb : ∀ m, m ≤ T.df r.length → ∃ us, Vals (List.replicate m V.non) us ∧ Binds K fd ps us) (hN : noMB T r.length = true := by decide) : Tab T P w K mg base ((N.length, body) :: r) (n + 1) := by
  have main := t.fnok F S hm hw hp hl hty hfr
  refine ⟨t.bn, t.ci, t.cs, fun j y e hy => ?_, t.cl, fun c m j e hj => ?_⟩
  · rw [List.length_cons, List.take_add_one, hx] at e
    by_cases hj : j < (T.fns.take r.length).length
    · rw [List.getElem?_append_left hj] at e
      obtain ⟨f', fd', ps', en⟩ := t.fn j y e hy
      exact ⟨f', fd', ps', ⟨up_one (by rw [List.length_take] at hj; omega) en.ok, en.mg, en.kp, en.bd, en.len⟩⟩
    · have lx : r.length < T.fns.length := (List.getElem?_eq_some_iff.mp hx).1
      have lt : (T.fns.take r.length).length = r.length := by rw [List.length_take]; omega
      rw [List.getElem?_append_right (by omega), lt] at e
      have ej : j = r.length := by
        have l := (List.getElem?_eq_some_iff.mp e).1
        rw [lt] at hj
        show j = r.length
        have : j - r.length < 1 := l
        omega
      subst ej
      rw [Nat.sub_self] at e
      cases e
      exact ⟨f, fd, ps, ⟨main, hmg, F.kp, hb, hl⟩⟩
  · have hj : j < r.length := by
      have : j ≠ r.length := fun z => by
        subst z
        exact noM hN c m e
      have : j < r.length + 1 := hj
      omega
    obtain ⟨f', fd', ps', mn, g1, g2, g3⟩ := t.mt c m j e hj
    exact ⟨f', fd', ps', mn, g1, up_one hj g2, g3⟩
/-- one method more -/
theorem Tab.stepM {r : List Bod} {n : Nat} (t : Tab T P w K mg base r n) {x qual : Str} {st : Stmt} {f : Addr} {fd : FuncData} {N ps : List Str} {body : ISs} {Kf : Fk} {dvs : List V} {kws : List (Str × V)} (F : FunD K x qual (defArgs st) (defBody st) (defScope st) dvs kws f fd) (S : FnScope N ps (defScope st))
    (hm : mSs (T.sx r) N body (defScope st) (defBody st) = true) (hw : wSs (T.sx r) Kf body [] = true) (hp : parB (T.sg r.length).ps Kf = true) (hl : (T.sg r.length).ps.length = ps.length) (hty : (T.sg r.length).ty = Kf.rty) (hfr : (T.sg r.length).fr = Kf.rfr)
    (hx : T.fns[r.length]? = some ("" : Str)) (hb : Binds K fd ps []) (ks : List (Nat × Nat)) (hk : keysB T r.length ks = true) (hM : MthL T K mg f r.length ks) : Tab T P w K mg base ((N.length, body) :: r) (n + 1) := by
  have main := t.fnok F S hm hw hp hl hty hfr
  refine ⟨t.bn, t.ci, t.cs, fun j y e hy => ?_, t.cl, fun c m j e hj => ?_⟩
  · rw [List.length_cons, List.take_add_one, hx] at e
    by_cases hj : j < (T.fns.take r.length).length
    · rw [List.getElem?_append_left hj] at e
      obtain ⟨f', fd', ps', en⟩ := t.fn j y e hy
      exact ⟨f', fd', ps', ⟨up_one (by rw [List.length_take] at hj; omega) en.ok, en.mg, en.kp, en.bd, en.len⟩⟩
    · have lx : r.length < T.fns.length := (List.getElem?_eq_some_iff.mp hx).1
      have lt : (T.fns.take r.length).length = r.length := by rw [List.length_take]; omega
      rw [List.getElem?_append_right (by omega), lt] at e
      have ej : j = r.length := by
        have l := (List.getElem?_eq_some_iff.mp e).1
        rw [lt] at hj
        show j = r.length
        have : j - r.length < 1 := l
        omega
      subst ej
      rw [Nat.sub_self] at e
      cases e
      exact absurd rfl hy
  · by_cases z : j = r.length
    · subst z
      obtain ⟨mn, g1, g2, g3, g4⟩ := hM.at_ (keys_in hk e)
      exact ⟨f, fd, ps, mn, g1, main, hb, hl, g2, g3, g4⟩
    · have hj : j < r.length := by
        have : j < r.length + 1 := hj
        omega
      obtain ⟨f', fd', ps', mn, g1, g2, g3⟩ := t.mt c m j e hj
      exact ⟨f', fd', ps', mn, g1, up_one hj g2, g3⟩
theorem Tab.zero (bn : ∀ x ∈ bnames, mg (Str.ofString x) = none) (ci : ∀ x n, T.ci.lookup x = some n → ∃ t, mg x = some (.int n t)) (cs : ∀ x n, T.cs.lookup x = some n → ∃ t, mg x = some (.str n t))
    (cl : ∀ (c : Nat) (x : Str), T.cls[c]? = some x → ∃ C, mg x = some (.ref C) ∧ MkC K C) : Tab T P w K mg base [] 0 :=
  ⟨bn, ci, cs, fun j x e => by simp at e, cl, fun c m j _ h => absurd h (Nat.not_lt_zero _)⟩
/-- the classes' facts -/
def ClsL (K : PySem.W.Frag) (mg : Str → Option Value) : List Str → Prop
  | [] => True
  | x :: r => (∃ C, mg x = some (.ref C) ∧ MkC K C) ∧ ClsL K mg r
theorem ClsL.at_ : ∀ {l : List Str} {c : Nat} {x : Str}, ClsL K mg l → l[c]? = some x → ∃ C, mg x = some (.ref C) ∧ MkC K C
  | [], c, x, _, h => by simp at h
  | y :: r, 0, x, h, e => by
    cases e
    exact h.1
  | y :: r, c + 1, x, h, e => ClsL.at_ h.2 (c := c) (by simpa using e)
/-- the law's promise -/
def spL (K : PySem.W.Frag) : Sp := fun vs H Q _ => ∃ (a : Addr) (ns : List Int), vs = [.ref a] ∧ SqF K H a (ns.map V.int) ∧ ns.length ≤ 63 ∧ (∀ z ∈ ns, Builtin.Int.intBits z ≤ 1048576) ∧ ∀ H', Q (.bl true) H'
theorem sqf_of {H : Hp} {a : Addr} {xs : List V} (hO : Only H) (h : SqL K H a xs) : SqF K H a xs := by
  rcases h with (h | h) | h
  · rcases hO a with e | ⟨o, ys, e⟩
    · rw [e] at h; cases h
    · rw [e] at h; cases h
  · exact .inl h
  · exact .inr h
/-- the law's own def -/
theorem law_imp {b : Bod} {r : List Bod} {n : Nat} {f : Addr} {fd : FuncData} {x : Str} (hps : (T.sg r.length).ps = [1]) (hty : (T.sg r.length).ty = 0) (F : FnOk P w K mg base CX0 n f fd [x] (spE (T.sx (b :: r)) ⟨P, w, K, mg, base, clsOf T.cls mg⟩ r.length [x].length))
    (h : ∀ ns : List Int, ns.length ≤ 63 → (∀ z ∈ ns, Builtin.Int.intBits z ≤ 1048576) → phiR T.M (b :: r) r.length [.scr ns] = .ok (.bl true)) : FnOk P w K mg base CX0 n f fd [x] (spL K) :=
  F.imp fun vs H Q E hh => by
    obtain ⟨a, ns, rfl, hs, l1, l2, q⟩ := hh
    refine ⟨[.scr ns], [] ++ [], .bl true, rfl, .cons (.scr hs) .nil, ?_, h ns l1 l2, fun v H' F sm rv _ _ _ => ?_⟩
    · show argsOk (T.sg r.length).ps _
      rw [hps]
      exact ⟨rfl, trivial⟩
    · cases rv
      exact q H'
end
end Ev

/-! Part M: reckoning with the small language. -/
namespace Ev
open PySem L2
/-- no step of reckoning by itself: kept from being one -/
theorem nr {α : Type} {a b : α} (h : a = b) : a = b := h
theorem okb {α β : Type} {a : α} {f : α → R β} : (R.ok a).bind f = f a := nr rfl
theorem badb {α β : Type} {f : α → R β} : (R.bad).bind f = .bad := nr rfl
theorem chkt : chk true = .ok () := nr rfl
theorem bind_congr {α β : Type} {x y : R α} {f : α → R β} (h : x = y) : x.bind f = y.bind f := by rw [h]
theorem getV0 {d : D} {σ : Sg} : getV (some d :: σ) 0 = .ok d := nr rfl
theorem getVs {o : Option D} {σ : Sg} {n : Nat} : getV (o :: σ) (n + 1) = getV σ n := nr rfl
theorem set0 {o d : Option D} {σ : Sg} : List.set (o :: σ) 0 d = d :: σ := nr rfl
theorem sets {o d : Option D} {σ : Sg} {n : Nat} : List.set (o :: σ) (n + 1) d = o :: List.set σ n d := nr rfl
theorem tr_non : truth .non = .ok false := nr rfl
theorem tr_bl {b : Bool} : truth (.bl b) = .ok b := nr rfl
theorem tr_int {i : Int} : truth (.int i) = .ok (i != 0) := nr rfl
theorem tr_lst {xs : List D} : truth (.lst xs) = .ok (!xs.isEmpty) := nr rfl
theorem tr_tup {xs : List D} : truth (.tup xs) = .ok (!xs.isEmpty) := nr rfl
theorem bn_add {i j : Int} : binD .Add (.int i) (.int j) = .ok (.int (i + j)) := nr rfl
theorem bn_sub {i j : Int} : binD .Sub (.int i) (.int j) = .ok (.int (i - j)) := nr rfl
theorem bn_mul {i j : Int} : binD .Mult (.int i) (.int j) = (chk (mulOk i j)).bind fun _ => .ok (.int (i * j)) := nr rfl
theorem bn_div {i j : Int} : binD .FloorDiv (.int i) (.int j) = (chk (divOk j)).bind fun _ => .ok (.int (i / j)) := nr rfl
theorem bn_mod {i j : Int} : binD .Mod (.int i) (.int j) = (chk (decide (0 < j))).bind fun _ => .ok (.int (i % j)) := nr rfl
theorem bn_pow {i j : Int} : binD .Pow (.int i) (.int j) = (chk (powOk i j)).bind fun _ => .ok (.int (i ^ j.toNat)) := nr rfl
theorem bn_shl {i j : Int} : binD .LShift (.int i) (.int j) = (chk (powOk i j)).bind fun _ => .ok (.int (i * 2 ^ j.toNat)) := nr rfl
theorem bn_shr {i j : Int} : binD .RShift (.int i) (.int j) = (chk (decide (0 ≤ j))).bind fun _ => .ok (.int (i / 2 ^ j.toNat)) := nr rfl
theorem bn_and {i j : Int} : binD .BitAnd (.int i) (.int j) = .ok (.int (Builtin.bitAnd i j)) := nr rfl
theorem bn_or {i j : Int} : binD .BitOr (.int i) (.int j) = .ok (.int (Builtin.bitOr i j)) := nr rfl
theorem bn_xor {i j : Int} : binD .BitXor (.int i) (.int j) = .ok (.int (Builtin.bitXor i j)) := nr rfl
theorem bn_tup {xs ys : List D} : binD .Add (.tup xs) (.tup ys) = (chk (decide (xs.length + ys.length ≤ line))).bind fun _ => .ok (.tup (xs ++ ys)) := nr rfl
theorem bn_lst {xs ys : List D} : binD .Add (.lst xs) (.lst ys) = (chk (decide (xs.length + ys.length ≤ line))).bind fun _ => .ok (.lst (xs ++ ys)) := nr rfl
theorem cm_eq {i j : Int} : cmpD .Eq (.int i) (.int j) = .ok (decide (i = j)) := nr rfl
theorem cm_ne {i j : Int} : cmpD .NotEq (.int i) (.int j) = .ok (!decide (i = j)) := nr rfl
theorem cm_lt {i j : Int} : cmpD .Lt (.int i) (.int j) = .ok (decide (i < j)) := nr rfl
theorem cm_le {i j : Int} : cmpD .LtE (.int i) (.int j) = .ok (decide (i ≤ j)) := nr rfl
theorem cm_gt {i j : Int} : cmpD .Gt (.int i) (.int j) = .ok (decide (j < i)) := nr rfl
theorem cm_ge {i j : Int} : cmpD .GtE (.int i) (.int j) = .ok (decide (j ≤ i)) := nr rfl
theorem cm_eqb {a b : Bool} : cmpD .Eq (.bl a) (.bl b) = .ok (decide (a = b)) := by cases a <;> cases b <;> rfl
theorem cm_neb {a b : Bool} : cmpD .NotEq (.bl a) (.bl b) = .ok (!decide (a = b)) := by cases a <;> cases b <;> rfl
theorem cm_is {a b : D} : cmpD .Is a b = isD a b := nr rfl
theorem cm_isn {a b : D} : cmpD .IsNot a b = (isD a b).bind fun k => .ok (!k) := nr rfl
theorem is_bl {a b : Bool} : isD (.bl a) (.bl b) = .ok (decide (a = b)) := nr rfl
theorem is_nn : isD .non .non = .ok true := nr rfl
theorem is_tn {xs : List D} : isD (.tup xs) .non = .ok false := nr rfl
theorem is_ln {xs : List D} : isD (.lst xs) .non = .ok false := nr rfl
theorem is_in {i : Int} : isD (.int i) .non = .ok false := nr rfl
theorem is_bn {i : Bool} : isD (.bl i) .non = .ok false := nr rfl
theorem bi_lenL {xs : List D} : biD .len [.lst xs] = .ok (.int xs.length) := nr rfl
theorem bi_lenT {xs : List D} : biD .len [.tup xs] = .ok (.int xs.length) := nr rfl
theorem bi_lenS {ns : List Int} : biD .len [.scr ns] = .ok (.int ns.length) := nr rfl
theorem bi_ll {xs : List D} : biD .list [.lst xs] = .ok (.lst xs) := nr rfl
theorem bi_lt {xs : List D} : biD .list [.tup xs] = .ok (.lst xs) := nr rfl
theorem bi_tl {xs : List D} : biD .tuple [.lst xs] = .ok (.tup xs) := nr rfl
theorem bi_tt {xs : List D} : biD .tuple [.tup xs] = .ok (.tup xs) := nr rfl
theorem bi_min {i j : Int} : biD .min [.int i, .int j] = .ok (.int (if j < i then j else i)) := nr rfl
theorem bi_max {i j : Int} : biD .max [.int i, .int j] = .ok (.int (if j > i then j else i)) := nr rfl
theorem ix_l {xs : List D} {i : Int} : idxD (.lst xs) (.int i) = getAt xs i := nr rfl
theorem ix_t {xs : List D} {i : Int} : idxD (.tup xs) (.int i) = getAt xs i := nr rfl
theorem ix_s {ns : List Int} {i : Int} : idxD (.scr ns) (.int i) = (getAt ns i).bind fun n => .ok (.int n) := nr rfl
theorem ty_non_int : tyIs .non .int = some false := nr rfl
theorem ty_non_bool : tyIs .non .bool = some false := nr rfl
theorem ty_non_str : tyIs .non .str = some false := nr rfl
theorem ty_non_tuple : tyIs .non .tuple = some false := nr rfl
theorem ty_non_list : tyIs .non .list = some false := nr rfl
theorem ty_non_dict : tyIs .non .dict = some false := nr rfl
theorem ty_bl_int {b : Bool} : tyIs (.bl b) .int = some true := nr rfl
theorem ty_bl_bool {b : Bool} : tyIs (.bl b) .bool = some true := nr rfl
theorem ty_bl_str {b : Bool} : tyIs (.bl b) .str = some false := nr rfl
theorem ty_bl_tuple {b : Bool} : tyIs (.bl b) .tuple = some false := nr rfl
theorem ty_bl_list {b : Bool} : tyIs (.bl b) .list = some false := nr rfl
theorem ty_bl_dict {b : Bool} : tyIs (.bl b) .dict = some false := nr rfl
theorem ty_int_int {i : Int} : tyIs (.int i) .int = some true := nr rfl
theorem ty_int_bool {i : Int} : tyIs (.int i) .bool = some false := nr rfl
theorem ty_int_str {i : Int} : tyIs (.int i) .str = some false := nr rfl
theorem ty_int_tuple {i : Int} : tyIs (.int i) .tuple = some false := nr rfl
theorem ty_int_list {i : Int} : tyIs (.int i) .list = some false := nr rfl
theorem ty_int_dict {i : Int} : tyIs (.int i) .dict = some false := nr rfl
theorem ty_str_int {z : Str} : tyIs (.str z) .int = some false := nr rfl
theorem ty_str_bool {z : Str} : tyIs (.str z) .bool = some false := nr rfl
theorem ty_str_str {z : Str} : tyIs (.str z) .str = some true := nr rfl
theorem ty_str_tuple {z : Str} : tyIs (.str z) .tuple = some false := nr rfl
theorem ty_str_list {z : Str} : tyIs (.str z) .list = some false := nr rfl
theorem ty_str_dict {z : Str} : tyIs (.str z) .dict = some false := nr rfl
theorem ty_tup_int {xs : List D} : tyIs (.tup xs) .int = some false := nr rfl
theorem ty_tup_bool {xs : List D} : tyIs (.tup xs) .bool = some false := nr rfl
theorem ty_tup_str {xs : List D} : tyIs (.tup xs) .str = some false := nr rfl
theorem ty_tup_tuple {xs : List D} : tyIs (.tup xs) .tuple = some true := nr rfl
theorem ty_tup_list {xs : List D} : tyIs (.tup xs) .list = some false := nr rfl
theorem ty_tup_dict {xs : List D} : tyIs (.tup xs) .dict = some false := nr rfl
theorem ty_lst_int {xs : List D} : tyIs (.lst xs) .int = some false := nr rfl
theorem ty_lst_bool {xs : List D} : tyIs (.lst xs) .bool = some false := nr rfl
theorem ty_lst_str {xs : List D} : tyIs (.lst xs) .str = some false := nr rfl
theorem ty_lst_tuple {xs : List D} : tyIs (.lst xs) .tuple = some false := nr rfl
theorem ty_lst_list {xs : List D} : tyIs (.lst xs) .list = some true := nr rfl
theorem ty_lst_dict {xs : List D} : tyIs (.lst xs) .dict = some false := nr rfl
theorem ty_dct_int {xs : List (Key × D)} : tyIs (.dct xs) .int = some false := nr rfl
theorem ty_dct_bool {xs : List (Key × D)} : tyIs (.dct xs) .bool = some false := nr rfl
theorem ty_dct_str {xs : List (Key × D)} : tyIs (.dct xs) .str = some false := nr rfl
theorem ty_dct_tuple {xs : List (Key × D)} : tyIs (.dct xs) .tuple = some false := nr rfl
theorem ty_dct_list {xs : List (Key × D)} : tyIs (.dct xs) .list = some false := nr rfl
theorem ty_dct_dict {xs : List (Key × D)} : tyIs (.dct xs) .dict = some true := nr rfl
theorem wi_one {i : Nat} {σ : Sg} : wipeT (.one i) σ = σ.set i none := nr rfl
theorem wi_many {is : List Nat} {σ : Sg} : wipeT (.many is) σ = is.foldl (fun s i => s.set i none) σ := nr rfl
theorem bd_one {i : Nat} {d : D} {σ : Sg} : bindT (.one i) d σ = .ok (σ.set i (some d)) := nr rfl
theorem bd_tup {is : List Nat} {ds : List D} {σ : Sg} : bindT (.many is) (.tup ds) σ = if ds.length = is.length then .ok (bindT.setAll is ds σ) else .bad := nr rfl
theorem bd_lst {is : List Nat} {ds : List D} {σ : Sg} : bindT (.many is) (.lst ds) σ = if ds.length = is.length then .ok (bindT.setAll is ds σ) else .bad := nr rfl
theorem sa_c {i : Nat} {is : List Nat} {d : D} {ds : List D} {σ : Sg} : bindT.setAll (i :: is) (d :: ds) σ = bindT.setAll is ds (σ.set i (some d)) := nr rfl
theorem sa_n {ds : List D} {σ : Sg} : bindT.setAll [] ds σ = σ := by cases ds <;> rfl
theorem mu_app {xs : List D} {y : D} : muD .append (.lst xs) [y] = (chk (decide (xs.length < line))).bind fun _ => .ok (.lst (xs ++ [y])) := nr rfl
theorem mu_ext {xs ys : List D} : muD .extend (.lst xs) [.lst ys] = (chk (decide (xs.length + ys.length ≤ line))).bind fun _ => .ok (.lst (xs ++ ys)) := nr rfl
theorem mu_clr {xs : List D} : muD .clear (.lst xs) [] = .ok (.lst []) := nr rfl
theorem mu_rev {xs : List D} : muD .reverse (.lst xs) [] = .ok (.lst xs.reverse) := nr rfl
theorem at_nat {α : Type} {xs : List α} {n : Nat} {x : α} (h : xs[n]? = some x) : getAt xs (n : Int) = .ok x := by
  unfold getAt
  rw [atI_nat h]
theorem at_0 {α : Type} {x : α} {xs : List α} : getAt (x :: xs) 0 = .ok x := by
  have := at_nat (xs := x :: xs) (n := 0) (x := x) rfl
  simpa using this
theorem at_s {α : Type} {x : α} {xs : List α} {i : Int} (h : 0 < i) : getAt (x :: xs) i = getAt xs (i - 1) := by
  unfold getAt atI ixN
  have hl : (x :: xs).length = xs.length + 1 := rfl
  rw [if_pos (show 0 ≤ i by omega), if_pos (show 0 ≤ i - 1 by omega)]
  by_cases h1 : i < (xs.length : Int) + 1
  · rw [if_pos (show i < ((x :: xs).length : Int) by omega), if_pos (show i - 1 < (xs.length : Int) by omega)]
    obtain ⟨n, rfl⟩ : ∃ n : Nat, i = n + 1 := ⟨(i - 1).toNat, by omega⟩
    have e1 : ((n : Int) + 1).toNat = n + 1 := by omega
    have e2 : ((n : Int) + 1 - 1).toNat = n := by omega
    rw [e1, e2]
    rfl
  · rw [if_neg (show ¬ i < ((x :: xs).length : Int) by omega), if_neg (show ¬ i - 1 < (xs.length : Int) by omega)]
    rfl
theorem dv_ok {j : Int} (h : 0 < j) (h2 : j < 18446744073709551616) : divOk j = true := by
  unfold divOk
  rw [Bool.and_eq_true]
  refine ⟨decide_eq_true h, decide_eq_true ?_⟩
  have : j.natAbs < 2 ^ 64 := by omega
  by_cases h0 : j.natAbs = 0
  · rw [h0]
    decide
  · have := (Nat.log2_lt h0).mpr this
    omega
theorem bn_div' {i j : Int} (h : 0 < j) (h2 : j < 18446744073709551616) : binD .FloorDiv (.int i) (.int j) = .ok (.int (i / j)) := by
  rw [bn_div, dv_ok h h2]
  rfl
theorem bn_mod' {i j : Int} (h : 0 < j) : binD .Mod (.int i) (.int j) = .ok (.int (i % j)) := by
  rw [bn_mod, decide_eq_true h]
  rfl
theorem pw1 : powOk 10 64 = true := by decide +kernel
theorem pw2 : powOk 7919 15 = true := by decide +kernel
theorem pw3 : powOk 10 60 = true := by decide +kernel
theorem ml1 : mulOk 1000 (10 ^ 64) = true := by decide +kernel
theorem ml2 : mulOk 2 (10 ^ 60) = true := by decide +kernel
theorem ite_bind {α β : Type} {c : Prop} [Decidable c] {x y : R α} {f : α → R β} : (if c then x else y).bind f = if c then x.bind f else y.bind f := by
  split <;> rfl
theorem line_val : line = 16777216 := sizeLine_eq
/-! ### statements, one at a time -/
def thenS (x : R Fl) (k : Sg → R Fl) : R Fl := x.bind fun f => match f with
  | .nx σ' => k σ'
  | f => .ok f
def loopF (x : R Fl) (k : Sg → R Fl) : R Fl := x.bind fun f => match f with
  | .nx σ' => k σ'
  | .ct σ' => k σ'
  | .bk σ' => .ok (.nx σ')
  | .rt d => .ok (.rt d)
def retF (x : R Fl) : R D := x.bind fun f => match f with
  | .rt d => .ok d
  | .nx _ => .ok .non
  | _ => .bad
theorem th_nx {σ : Sg} {k : Sg → R Fl} : thenS (.ok (.nx σ)) k = k σ := nr rfl
theorem th_rt {d : D} {k : Sg → R Fl} : thenS (.ok (.rt d)) k = .ok (.rt d) := nr rfl
theorem th_bk {σ : Sg} {k : Sg → R Fl} : thenS (.ok (.bk σ)) k = .ok (.bk σ) := nr rfl
theorem th_ct {σ : Sg} {k : Sg → R Fl} : thenS (.ok (.ct σ)) k = .ok (.ct σ) := nr rfl
theorem lo_nx {σ : Sg} {k : Sg → R Fl} : loopF (.ok (.nx σ)) k = k σ := nr rfl
theorem lo_rt {d : D} {k : Sg → R Fl} : loopF (.ok (.rt d)) k = .ok (.rt d) := nr rfl
theorem lo_bk {σ : Sg} {k : Sg → R Fl} : loopF (.ok (.bk σ)) k = .ok (.nx σ) := nr rfl
theorem lo_ct {σ : Sg} {k : Sg → R Fl} : loopF (.ok (.ct σ)) k = k σ := nr rfl
theorem re_rt {d : D} : retF (.ok (.rt d)) = .ok d := nr rfl
theorem re_nx {σ : Sg} : retF (.ok (.nx σ)) = .ok .non := nr rfl
theorem th_th {x : R Fl} {k l : Sg → R Fl} : thenS (thenS x k) l = thenS x fun σ => thenS (k σ) l := by
  cases x with
  | ok f => cases f <;> rfl
  | _ => rfl
section
variable {Φ : Nat → List D → R D} {M : Nat → Nat → Option Nat} {σ : Sg} {r : ISs}
theorem evB_eq {n : Nat} {b : ISs} {args : List D} : evB Φ M n b args = retF (evSs Φ M b (args.map some ++ List.replicate (n - args.length) none)) := nr rfl
theorem st_nil : evSs Φ M .nil σ = .ok (.nx σ) := nr rfl
theorem st_drop {is : List Nat} : evSs Φ M (.drop is r) σ = evSs Φ M r (wipe is σ) := nr rfl
theorem st_asg {i : Nat} {e : IE} : evSs Φ M (.cons (.asg i e) r) σ = (evE Φ M e σ).bind fun d => evSs Φ M r (σ.set i (some d)) := by
  show ((evE Φ M e σ).bind fun d => R.ok (Fl.nx (σ.set i (some d)))).bind _ = _
  cases evE Φ M e σ <;> rfl
theorem st_mov {i j : Nat} : evSs Φ M (.cons (.mov i j) r) σ = (getV σ j).bind fun d => evSs Φ M r ((σ.set i (some d)).set j none) := by
  show ((getV σ j).bind fun d => R.ok (Fl.nx ((σ.set i (some d)).set j none))).bind _ = _
  cases getV σ j <;> rfl
theorem st_tasg {is : List Nat} {e : IE} : evSs Φ M (.cons (.tasg is e) r) σ = (evE Φ M e σ).bind fun d => (bindT (.many is) d σ).bind fun σ' => evSs Φ M r σ' := by
  show ((evE Φ M e σ).bind fun d => (bindT (.many is) d σ).bind fun σ' => R.ok (Fl.nx σ')).bind _ = _
  cases evE Φ M e σ with
  | ok d => 
    show ((bindT (.many is) d σ).bind fun σ' => R.ok (Fl.nx σ')).bind _ = (bindT (.many is) d σ).bind _
    cases bindT (.many is) d σ <;> rfl
  | _ => rfl
theorem st_mut {i : Nat} {m : MU} {es : IEs} : evSs Φ M (.cons (.mut i .no m es) r) σ = (getV σ i).bind fun d => (evEs Φ M es σ).bind fun xs => (muD m d xs).bind fun d' => evSs Φ M r (σ.set i (some d')) := by
  show ((getV σ i).bind fun d => (evEs Φ M es σ).bind fun xs => (muD m d xs).bind fun d' => R.ok (Fl.nx (σ.set i (some d')))).bind _ = _
  cases getV σ i with
  | ok d =>
    show ((evEs Φ M es σ).bind fun xs => (muD m d xs).bind fun d' => R.ok (Fl.nx (σ.set i (some d')))).bind _ = (evEs Φ M es σ).bind _
    cases evEs Φ M es σ with
    | ok xs =>
      show ((muD m d xs).bind fun d' => R.ok (Fl.nx (σ.set i (some d')))).bind _ = (muD m d xs).bind _
      cases muD m d xs <;> rfl
    | _ => rfl
  | _ => rfl
theorem st_ret {e : IE} : evSs Φ M (.cons (.ret e) r) σ = (evE Φ M e σ).bind fun d => .ok (.rt d) := by
  show ((evE Φ M e σ).bind fun d => R.ok (Fl.rt d)).bind _ = _
  cases evE Φ M e σ <;> rfl
theorem st_retn : evSs Φ M (.cons .retn r) σ = .ok (.rt .non) := nr rfl
theorem st_brk : evSs Φ M (.cons .brk r) σ = .ok (.bk σ) := nr rfl
theorem st_cnt : evSs Φ M (.cons .cnt r) σ = .ok (.ct σ) := nr rfl
theorem st_pas : evSs Φ M (.cons .pas r) σ = evSs Φ M r σ := nr rfl
/-- one of two blocks, then the rest -/
def cndS (Φ : Nat → List D → R D) (M : Nat → Nat → Option Nat) (k : Bool) (a b r : ISs) (σ : Sg) : R Fl := if k then thenS (evSs Φ M a σ) (evSs Φ M r) else thenS (evSs Φ M b σ) (evSs Φ M r)
theorem cnd_t {a b : ISs} : cndS Φ M true a b r σ = thenS (evSs Φ M a σ) (evSs Φ M r) := nr rfl
theorem cnd_f {a b : ISs} : cndS Φ M false a b r σ = thenS (evSs Φ M b σ) (evSs Φ M r) := nr rfl
theorem st_ife {c : IE} {a b : ISs} : evSs Φ M (.cons (.ife c a b) r) σ = (evE Φ M c σ).bind fun x => (truth x).bind fun k => cndS Φ M k a b r σ := by
  show ((evE Φ M c σ).bind fun x => (truth x).bind fun k => if k then evSs Φ M a σ else evSs Φ M b σ).bind _ = _
  cases evE Φ M c σ with
  | ok x =>
    show ((truth x).bind fun k => if k then evSs Φ M a σ else evSs Φ M b σ).bind _ = (truth x).bind _
    cases truth x with
    | ok k => cases k <;> rfl
    | _ => rfl
  | _ => rfl
theorem st_for {tg : Tg} {it : II} {body : ISs} : evSs Φ M (.cons (.for_ tg it body) r) σ = (evI Φ M it σ).bind fun xs => thenS (forL (fun x σ => (bindT tg x σ).bind (evSs Φ M body)) xs σ) (evSs Φ M r) := by
  show ((evI Φ M it σ).bind fun xs => forL (fun x σ => (bindT tg x σ).bind fun σ' => evSs Φ M body σ') xs σ).bind _ = _
  cases evI Φ M it σ <;> rfl
theorem st_whl {n : Nat} {c : IE} {body : ISs} : evSs Φ M (.cons (.whl n c body) r) σ = thenS (whlL (fun σ => (evE Φ M c σ).bind truth) (evSs Φ M body) n σ) (evSs Φ M r) := nr rfl
theorem fo_c {f : D → Sg → R Fl} {x : D} {xs : List D} : forL f (x :: xs) σ = loopF (f x σ) (forL f xs) := nr rfl
theorem fo_n {f : D → Sg → R Fl} : forL f [] σ = .ok (.nx σ) := nr rfl
theorem wh_s {c : Sg → R Bool} {f : Sg → R Fl} {n : Nat} : whlL c f (n + 1) σ = (c σ).bind fun k => if k then loopF (f σ) (whlL c f n) else .ok (.nx σ) := nr rfl
end
/-! ### loops -/
/-- a loop whose turns only change a state -/
theorem forL_fold {β : Type} {body : D → Sg → R Fl} (f : β → Sg) (step : β → D → β) : ∀ (xs : List D) (s : β), (∀ s, ∀ x ∈ xs, body x (f s) = .ok (.nx (f (step s x)))) → forL body xs (f s) = .ok (.nx (f (xs.foldl step s)))
  | [], s, _ => rfl
  | x :: xs, s, h => by
    unfold forL
    rw [h s x (List.mem_cons_self ..)]
    exact forL_fold f step xs (step s x) fun s y hy => h s y (List.mem_cons_of_mem _ hy)
/-- the same, with what is known of the state -/
theorem forL_inv {β : Type} {body : D → Sg → R Fl} (f : β → Sg) (P : Nat → β → Prop) (xs : List D) : ∀ (n : Nat) (rest : List D) (s : β), P n s → (∀ i s x, xs[i]? = some x → P i s → ∃ s', P (i + 1) s' ∧ (body x (f s) = .ok (.nx (f s')) ∨ body x (f s) = .ok (.ct (f s')))) → xs.drop n = rest → n ≤ xs.length → ∃ s', P xs.length s' ∧ forL body rest (f s) = .ok (.nx (f s'))
  | n, [], s, hp, h, e, hn => by
    have : xs.length ≤ n := List.drop_eq_nil_iff.mp e
    have : n = xs.length := by omega
    subst this
    exact ⟨s, hp, rfl⟩
  | n, x :: rest, s, hp, h, e, hn => by
    have hx : xs[n]? = some x := by
      have := congrArg (·[0]?) e
      simpa [List.getElem?_drop] using this
    have hl := (List.getElem?_eq_some_iff.mp hx).1
    obtain ⟨s', hp', hb⟩ := h n s x hx hp
    have e2 : xs.drop (n + 1) = rest := by
      have := congrArg List.tail e
      simpa using this
    obtain ⟨s2, h1, h2⟩ := forL_inv f P xs (n + 1) rest s' hp' h e2 hl
    refine ⟨s2, h1, ?_⟩
    unfold forL
    rcases hb with hb | hb <;> rw [hb] <;> exact h2
theorem forL_all {β : Type} {body : D → Sg → R Fl} (f : β → Sg) (P : Nat → β → Prop) (xs : List D) (s : β) (hp : P 0 s) (h : ∀ i s x, xs[i]? = some x → P i s → ∃ s', P (i + 1) s' ∧ (body x (f s) = .ok (.nx (f s')) ∨ body x (f s) = .ok (.ct (f s')))) : ∃ s', P xs.length s' ∧ forL body xs (f s) = .ok (.nx (f s')) :=
  forL_inv f P xs 0 xs s hp h rfl (Nat.zero_le _)
theorem rngD_map : ∀ (n : Nat) (a : Int), rngD a n = (List.range n).map fun (i : Nat) => D.int (a + i)
  | 0, a => rfl
  | n + 1, a => by
    rw [rngD, rngD_map n, List.range_succ_eq_map, List.map_cons, List.map_map]
    congr 1
    · congr 1
      show a = a + ((0 : Nat) : Int)
      omega
    · refine List.map_congr_left fun i _ => ?_
      show D.int (a + 1 + i) = D.int (a + ((i + 1 : Nat) : Int))
      congr 1
      omega
/-! ### sizes of numbers -/
theorem log_lt {i : Int} {k : Nat} (h1 : -(2 ^ k) < i) (h2 : i < 2 ^ k) : i.natAbs.log2 ≤ k := by
  by_cases h0 : i.natAbs = 0
  · rw [h0]
    exact Nat.zero_le _
  · have : i.natAbs < 2 ^ k := by
      have e : ((2 ^ k : Nat) : Int) = (2 : Int) ^ k := by simp
      omega
    exact Nat.le_of_lt ((Nat.log2_lt h0).mpr this)
theorem pz1 : (0 : Int) < 1000 * 10 ^ 64 := by decide +kernel
theorem pz2 : (0 : Int) < 2 * 10 ^ 60 := by decide +kernel
theorem mul_ok {i j : Int} {k m : Nat} (h1 : -(2 ^ k) < i) (h2 : i < 2 ^ k) (h3 : -(2 ^ m) < j) (h4 : j < 2 ^ m) (h : k + m < 1000000) : mulOk i j = true := by
  have a := log_lt h1 h2
  have b := log_lt h3 h4
  unfold mulOk
  exact decide_eq_true (by omega)
theorem ml3 (x : Int) : mulOk (x % (1000 * 10 ^ 64)) (7919 ^ 15) = true := by
  have : (1000 * 10 ^ 64 : Int) < 2 ^ 300 := by decide +kernel
  have a1 := Int.emod_nonneg x (show (1000 * 10 ^ 64 : Int) ≠ 0 by decide +kernel)
  have a2 := Int.emod_lt_of_pos x (show (0 : Int) < 1000 * 10 ^ 64 by decide +kernel)
  have a3 : (7919 ^ 15 : Int) < 2 ^ 300 := by decide +kernel
  have a4 : (0 : Int) < 7919 ^ 15 := by decide +kernel
  have a5 : (0 : Int) < 2 ^ 300 := by decide +kernel
  exact mul_ok (k := 300) (m := 300) (by omega) (by omega) (by omega) (by omega) (by decide)
theorem scr_at {ns : List Int} {k : Int} (h0 : 0 ≤ k) (h : k < (ns.length : Int)) : ∃ n ∈ ns, getAt ns k = .ok n := by
  obtain ⟨m, rfl⟩ := Int.eq_ofNat_of_zero_le h0
  have hm : m < ns.length := by omega
  exact ⟨ns[m], List.getElem_mem hm, at_nat (List.getElem?_eq_getElem hm)⟩
end Ev

/-! Part N: tuples of whole numbers, lists of them; equality. -/
namespace Ev
open PySem L2
def tp (l : List Int) : D := .tup (l.map D.int)
def fs (ls : List (List Int)) : List D := ls.map tp
theorem toPs_map {α : Type} (f : α → D) : ∀ l : List α, toPs (l.map f) = l.map fun x => (f x).toP
  | [] => rfl
  | x :: l => by
    rw [List.map_cons, List.map_cons, toPs, toPs_map f l]
theorem canAll {α : Type} {f : α → PyData} (h : ∀ x, (f x).canLay0 = true) : ∀ l : List α, PyData.canLayAll0 (l.map f) = true
  | [] => rfl
  | x :: l => by
    rw [List.map_cons, PyData.canLayAll0, h x, canAll h l]
    rfl
theorem depAll {α : Type} {f : α → PyData} {n : Nat} (h : ∀ x, (f x).depth ≤ n) : ∀ l : List α, PyData.depthAll (l.map f) ≤ n
  | [] => by simp [PyData.depthAll]
  | x :: l => by
    rw [List.map_cons, PyData.depthAll]
    exact Nat.max_le.mpr ⟨h x, depAll h l⟩
theorem can_tp (l : List Int) : (tp l).toP.canLay0 = true := by
  rw [tp, D.toP, PyData.canLay0, toPs_map]
  exact canAll (fun x => rfl) l
theorem dep_tp (l : List Int) : (tp l).toP.depth ≤ 1 := by
  rw [tp, D.toP, PyData.depth, toPs_map]
  have := depAll (f := fun x => (D.int x).toP) (n := 0) (fun x => Nat.le_refl 0) l
  omega
theorem sh_tp (l : List Int) : (tp l).shaped = true := by
  show SeqAt.shaped _ = true
  unfold SeqAt.shaped
  rw [can_tp, decide_eq_true (by have := dep_tp l; omega)]
  rfl
theorem can_fs (ls : List (List Int)) : (D.lst (fs ls)).toP.canLay0 = true := by
  rw [D.toP, PyData.canLay0, fs, toPs_map]
  exact canAll can_tp ls
theorem dep_fs (ls : List (List Int)) : (D.lst (fs ls)).toP.depth ≤ 2 := by
  rw [D.toP, PyData.depth, fs, toPs_map]
  have := depAll dep_tp ls
  omega
theorem sh_fs (ls : List (List Int)) : (D.lst (fs ls)).shaped = true := by
  show SeqAt.shaped _ = true
  unfold SeqAt.shaped
  rw [can_fs, decide_eq_true (by have := dep_fs ls; omega)]
  rfl
theorem eqvAll_map {α : Type} [DecidableEq α] {f : α → PyData} (h : ∀ x y, PyData.eqv (f x) (f y) = decide (x = y)) : ∀ a b : List α, PyData.eqvAll (a.map f) (b.map f) = decide (a = b)
  | [], [] => rfl
  | [], y :: b => rfl
  | x :: a, [] => rfl
  | x :: a, y :: b => by
    rw [List.map_cons, List.map_cons, PyData.eqvAll, h x y, eqvAll_map h a b]
    by_cases e1 : x = y
    · by_cases e2 : a = b
      · rw [e1, e2]; simp
      · simp [e2]
    · simp [e1]
theorem eqv_tp (a b : List Int) : (tp a).eqv (tp b) = decide (a = b) := by
  show PyData.eqv _ _ = _
  rw [tp, tp, D.toP, D.toP, PyData.eqv, toPs_map, toPs_map]
  exact eqvAll_map (fun x y => by rw [D.toP, D.toP, PyData.eqv]; rfl) a b
theorem eqv_fs (a b : List (List Int)) : (D.lst (fs a)).eqv (.lst (fs b)) = decide (a = b) := by
  show PyData.eqv _ _ = _
  rw [D.toP, D.toP, PyData.eqv, fs, fs, toPs_map, toPs_map]
  exact eqvAll_map eqv_tp a b
theorem cm_eqt (a b : List Int) : cmpD .Eq (tp a) (tp b) = .ok (decide (a = b)) := by
  show (chk ((tp a).shaped && (tp b).shaped)).bind (fun _ => R.ok ((tp a).eqv (tp b))) = _
  rw [sh_tp, sh_tp, eqv_tp]
  rfl
theorem cm_net (a b : List Int) : cmpD .NotEq (tp a) (tp b) = .ok (!decide (a = b)) := by
  show (chk ((tp a).shaped && (tp b).shaped)).bind (fun _ => R.ok (!(tp a).eqv (tp b))) = _
  rw [sh_tp, sh_tp, eqv_tp]
  rfl
theorem cm_eqf (a b : List (List Int)) : cmpD .Eq (.lst (fs a)) (.lst (fs b)) = .ok (decide (a = b)) := by
  show (chk ((D.lst (fs a)).shaped && (D.lst (fs b)).shaped)).bind (fun _ => R.ok ((D.lst (fs a)).eqv (.lst (fs b)))) = _
  rw [sh_fs, sh_fs, eqv_fs]
  rfl
theorem cm_nef (a b : List (List Int)) : cmpD .NotEq (.lst (fs a)) (.lst (fs b)) = .ok (!decide (a = b)) := by
  show (chk ((D.lst (fs a)).shaped && (D.lst (fs b)).shaped)).bind (fun _ => R.ok (!(D.lst (fs a)).eqv (.lst (fs b)))) = _
  rw [sh_fs, sh_fs, eqv_fs]
  rfl
theorem any_fs (a : List Int) (ls : List (List Int)) : anyEqv (tp a) (fs ls) = decide (a ∈ ls) := by
  unfold anyEqv
  rw [fs, toPs_map, List.any_map]
  induction ls with
  | nil => rfl
  | cons x ls ih =>
    rw [List.any_cons, ih]
    show (PyData.eqv (tp x).toP (tp a).toP || _) = _
    rw [show PyData.eqv (tp x).toP (tp a).toP = decide (x = a) from eqv_tp x a]
    show (decide (x = a) || _) = _
    by_cases e1 : a = x
    · subst e1
      simp
    · have e2 : ¬ x = a := fun z => e1 z.symm
      simp [e1, e2]
theorem in_fs (a : List Int) (ls : List (List Int)) : inD (tp a) (.lst (fs ls)) = .ok (decide (a ∈ ls)) := by
  show (chk ((tp a).shaped && (D.lst (fs ls)).shaped)).bind (fun _ => R.ok (anyEqv (tp a) (fs ls))) = _
  rw [sh_tp, sh_fs, any_fs]
  rfl
theorem cm_in (a b : D) : cmpD .In a b = inD a b := nr rfl
theorem cm_nin (a b : D) : cmpD .NotIn a b = (inD a b).bind fun k => .ok (!k) := nr rfl
/-! ### None, or a list of tuples -/
def wo : Option (List (List Int)) → D
  | none => .non
  | some ls => .lst (fs ls)
def ws (w : List (Option (List (List Int)))) : List D := w.map wo
theorem can_wo (x : Option (List (List Int))) : (wo x).toP.canLay0 = true := by
  cases x with
  | none => rfl
  | some ls => exact can_fs ls
theorem dep_wo (x : Option (List (List Int))) : (wo x).toP.depth ≤ 2 := by
  cases x with
  | none => exact Nat.zero_le _
  | some ls => exact dep_fs ls
theorem sh_ws (w : List (Option (List (List Int)))) : (D.lst (ws w)).shaped = true := by
  show SeqAt.shaped _ = true
  unfold SeqAt.shaped
  have c : (D.lst (ws w)).toP.canLay0 = true := by
    rw [D.toP, PyData.canLay0, ws, toPs_map]
    exact canAll can_wo w
  have d : (D.lst (ws w)).toP.depth ≤ 3 := by
    rw [D.toP, PyData.depth, ws, toPs_map]
    have := depAll dep_wo w
    omega
  rw [c, decide_eq_true (by omega)]
  rfl
theorem eqv_wo (x y : Option (List (List Int))) : PyData.eqv (wo x).toP (wo y).toP = decide (x = y) := by
  cases x with
  | none =>
    cases y with
    | none => rfl
    | some b => rfl
  | some a =>
    cases y with
    | none => rfl
    | some b =>
      show (D.lst (fs a)).eqv (.lst (fs b)) = _
      rw [eqv_fs]
      by_cases e : a = b
      · rw [e]; simp
      · simp [e]
theorem cm_eqw (a b : List (Option (List (List Int)))) : cmpD .Eq (.lst (ws a)) (.lst (ws b)) = .ok (decide (a = b)) := by
  have e : (D.lst (ws a)).eqv (.lst (ws b)) = decide (a = b) := by
    show PyData.eqv _ _ = _
    rw [D.toP, D.toP, PyData.eqv, ws, ws, toPs_map, toPs_map]
    exact eqvAll_map eqv_wo a b
  show (chk ((D.lst (ws a)).shaped && (D.lst (ws b)).shaped)).bind (fun _ => R.ok ((D.lst (ws a)).eqv (.lst (ws b)))) = _
  rw [sh_ws, sh_ws, e]
  rfl
/-! ### cells; sizes; fillings -/
def cell (ns : List Int) (k : Nat) : Int := ns.getD k 0
def isSz (p : Int × Int) : Prop := p ∈ ([(1, 1), (1, 2), (1, 3), (1, 4), (1, 5), (1, 6), (2, 1), (2, 2), (2, 3), (3, 1), (3, 2), (4, 1), (5, 1), (6, 1)] : List (Int × Int))
def szD (p : Int × Int) : D := .tup [.int p.1, .int p.2]
/-- all fillings of b boxes by words below m, rising -/
def FL (m : Nat) : Nat → List (List Int)
  | 0 => [[]]
  | b + 1 => (FL m b).flatMap fun f => (List.range m).map fun (w : Nat) => f ++ [(w : Int)]
def FS (p : Int × Int) : List (List Int) := FL (2 ^ p.1.toNat) p.2.toNat
theorem FS_len {p : Int × Int} (h : isSz p) : 0 < (FS p).length ∧ (FS p).length ≤ 64 := by
  unfold isSz at h
  simp only [List.mem_cons, List.mem_nil_iff, or_false] at h
  rcases h with rfl | rfl | rfl | rfl | rfl | rfl | rfl | rfl | rfl | rfl | rfl | rfl | rfl | rfl <;> decide +kernel
theorem FS_mem {p : Int × Int} (h : isSz p) : ∀ f ∈ FS p, f.length ≤ 6 := by
  unfold isSz at h
  simp only [List.mem_cons, List.mem_nil_iff, or_false] at h
  rcases h with rfl | rfl | rfl | rfl | rfl | rfl | rfl | rfl | rfl | rfl | rfl | rfl | rfl | rfl <;> decide +kernel
theorem sz_all {P : Int × Int → Prop} (h : ∀ p ∈ ([(1, 1), (1, 2), (1, 3), (1, 4), (1, 5), (1, 6), (2, 1), (2, 2), (2, 3), (3, 1), (3, 2), (4, 1), (5, 1), (6, 1)] : List (Int × Int)), P p) {p : Int × Int} (hp : isSz p) : P p := h p hp
theorem ints_len (l : List Int) : (l.map D.int).length = l.length := List.length_map ..
theorem fs_len (l : List (List Int)) : (fs l).length = l.length := List.length_map ..
theorem fs_get {l : List (List Int)} {i : Nat} {x : List Int} (h : l[i]? = some x) : (fs l)[i]? = some (tp x) := by
  rw [fs, List.getElem?_map, h]
  rfl
theorem ws_get {l : List (Option (List (List Int)))} {i : Nat} {x : Option (List (List Int))} (h : l[i]? = some x) : (ws l)[i]? = some (wo x) := by
  rw [ws, List.getElem?_map, h]
  rfl
/-- an item by a number modulo the length -/
theorem at_mod {α : Type} {xs : List α} (h : 0 < xs.length) (x : Int) : ∃ y ∈ xs, getAt xs (x % (xs.length : Int)) = .ok y := by
  have h0 := Int.emod_nonneg x (show (xs.length : Int) ≠ 0 by omega)
  have h1 := Int.emod_lt_of_pos x (show (0 : Int) < xs.length by omega)
  obtain ⟨m, hm⟩ := Int.eq_ofNat_of_zero_le h0
  have hm' : m < xs.length := by omega
  exact ⟨xs[m], List.getElem_mem hm', by rw [hm]; exact at_nat (List.getElem?_eq_getElem hm')⟩
/-! ### loops by what holds of the state -/
theorem forL_go {body : D → Sg → R Fl} (P : Nat → Sg → Prop) (xs : List D) (h : ∀ i x σ, xs[i]? = some x → P i σ → ∃ σ', P (i + 1) σ' ∧ (body x σ = .ok (.nx σ') ∨ body x σ = .ok (.ct σ'))) : ∀ (n : Nat) (rest : List D) (σ : Sg), P n σ → xs.drop n = rest → n ≤ xs.length → ∃ σ', P xs.length σ' ∧ forL body rest σ = .ok (.nx σ')
  | n, [], σ, hp, e, hn => by
    have : xs.length ≤ n := List.drop_eq_nil_iff.mp e
    have : n = xs.length := by omega
    subst this
    exact ⟨σ, hp, rfl⟩
  | n, x :: rest, σ, hp, e, hn => by
    have hx : xs[n]? = some x := by
      have := congrArg (·[0]?) e
      simpa [List.getElem?_drop] using this
    have hl := (List.getElem?_eq_some_iff.mp hx).1
    obtain ⟨σ1, hp', hb⟩ := h n x σ hx hp
    have e2 : xs.drop (n + 1) = rest := by
      have := congrArg List.tail e
      simpa using this
    obtain ⟨σ2, h1, h2⟩ := forL_go P xs h (n + 1) rest σ1 hp' e2 hl
    refine ⟨σ2, h1, ?_⟩
    unfold forL
    rcases hb with hb | hb <;> rw [hb] <;> exact h2
theorem forL_P {body : D → Sg → R Fl} {σ : Sg} (P : Nat → Sg → Prop) (xs : List D) (hp : P 0 σ) (h : ∀ i x σ, xs[i]? = some x → P i σ → ∃ σ', P (i + 1) σ' ∧ (body x σ = .ok (.nx σ') ∨ body x σ = .ok (.ct σ'))) : ∃ σ', P xs.length σ' ∧ forL body xs σ = .ok (.nx σ') :=
  forL_go P xs h 0 xs σ hp rfl (Nat.zero_le _)
theorem forL_sgo {body : D → Sg → R Fl} (P : Nat → Sg → Prop) (xs : List D) (r : Nat → Option D) (h : ∀ i x σ, xs[i]? = some x → P i σ → (r i = none ∧ ∃ σ', P (i + 1) σ' ∧ body x σ = .ok (.nx σ')) ∨ ∃ d, r i = some d ∧ body x σ = .ok (.rt d)) :
    ∀ (n : Nat) (rest : List D) (σ : Sg), P n σ → xs.drop n = rest → n ≤ xs.length → (∃ i d, n ≤ i ∧ i < xs.length ∧ r i = some d ∧ (∀ j, n ≤ j → j < i → r j = none) ∧ forL body rest σ = .ok (.rt d)) ∨ ((∀ j, n ≤ j → j < xs.length → r j = none) ∧ ∃ σ', P xs.length σ' ∧ forL body rest σ = .ok (.nx σ'))
  | n, [], σ, hp, e, hn => by
    have : xs.length ≤ n := List.drop_eq_nil_iff.mp e
    have : n = xs.length := by omega
    subst this
    exact .inr ⟨fun j h1 h2 => by omega, σ, hp, rfl⟩
  | n, x :: rest, σ, hp, e, hn => by
    have hx : xs[n]? = some x := by
      have := congrArg (·[0]?) e
      simpa [List.getElem?_drop] using this
    have hl := (List.getElem?_eq_some_iff.mp hx).1
    have e2 : xs.drop (n + 1) = rest := by
      have := congrArg List.tail e
      simpa using this
    rcases h n x σ hx hp with ⟨hr, σ1, hp', hb⟩ | ⟨d, hr, hb⟩
    · rcases forL_sgo P xs r h (n + 1) rest σ1 hp' e2 hl with ⟨i, d, h1, h2, h3, h4, h5⟩ | ⟨h1, σ2, h2, h3⟩
      · refine .inl ⟨i, d, by omega, h2, h3, fun j g1 g2 => ?_, ?_⟩
        · by_cases ej : j = n
          · rw [ej]; exact hr
          · exact h4 j (by omega) g2
        · unfold forL
          rw [hb]
          exact h5
      · refine .inr ⟨fun j g1 g2 => ?_, σ2, h2, ?_⟩
        · by_cases ej : j = n
          · rw [ej]; exact hr
          · exact h1 j (by omega) g2
        · unfold forL
          rw [hb]
          exact h3
    · refine .inl ⟨n, d, Nat.le_refl _, hl, hr, fun j g1 g2 => by omega, ?_⟩
      unfold forL
      rw [hb]
      rfl
/-- a loop that hands back at the first place where r tells something -/
theorem forL_S {body : D → Sg → R Fl} {σ : Sg} (P : Nat → Sg → Prop) (xs : List D) (r : Nat → Option D) (hp : P 0 σ) (h : ∀ i x σ, xs[i]? = some x → P i σ → (r i = none ∧ ∃ σ', P (i + 1) σ' ∧ body x σ = .ok (.nx σ')) ∨ ∃ d, r i = some d ∧ body x σ = .ok (.rt d)) :
    (∃ i d, i < xs.length ∧ r i = some d ∧ (∀ j, j < i → r j = none) ∧ forL body xs σ = .ok (.rt d)) ∨ ((∀ j, j < xs.length → r j = none) ∧ ∃ σ', P xs.length σ' ∧ forL body xs σ = .ok (.nx σ')) := by
  rcases forL_sgo P xs r h 0 xs σ hp rfl (Nat.zero_le _) with ⟨i, d, _, h2, h3, h4, h5⟩ | ⟨h1, h2⟩
  · exact .inl ⟨i, d, h2, h3, fun j hj => h4 j (Nat.zero_le _) hj, h5⟩
  · exact .inr ⟨fun j hj => h1 j (Nat.zero_le _) hj, h2⟩
/-! ### comprehensions -/
theorem compL_map {f : D → R (Option D)} (g : D → D) : ∀ xs : List D, (∀ x ∈ xs, f x = .ok (some (g x))) → compL f xs = .ok (xs.map g)
  | [], _ => rfl
  | x :: xs, h => by
    rw [compL, h x (List.mem_cons_self ..), ok_bind, compL_map g xs fun y hy => h y (List.mem_cons_of_mem _ hy), ok_bind]
    rfl
theorem compL_filter {f : D → R (Option D)} (p : D → Bool) (g : D → D) : ∀ xs : List D, (∀ x ∈ xs, f x = .ok (if p x then some (g x) else none)) → compL f xs = .ok ((xs.filter p).map g)
  | [], _ => rfl
  | x :: xs, h => by
    rw [compL, h x (List.mem_cons_self ..), ok_bind, compL_filter p g xs fun y hy => h y (List.mem_cons_of_mem _ hy), ok_bind]
    cases e : p x with
    | true => simp [List.filter_cons, e]
    | false => simp [List.filter_cons, e]
/-- all that is made is of a kind -/
theorem compL_all {α : Type} {f : D → R (Option D)} (k : α → D) (p : α → Prop) : ∀ xs : List D, (∀ x ∈ xs, f x = .ok none ∨ ∃ a, p a ∧ f x = .ok (some (k a))) → ∃ l : List α, (∀ a ∈ l, p a) ∧ compL f xs = .ok (.map k l) ∧ l.length ≤ xs.length
  | [], _ => ⟨[], (fun a h => nomatch h), rfl, Nat.le_refl _⟩
  | x :: xs, h => by
    obtain ⟨l, h1, h2, h3⟩ := compL_all k p xs fun y hy => h y (List.mem_cons_of_mem _ hy)
    rcases h x (List.mem_cons_self ..) with e | ⟨a, ha, e⟩
    · exact ⟨l, h1, by rw [compL, e, ok_bind, h2, ok_bind], by rw [List.length_cons]; omega⟩
    · refine ⟨a :: l, fun b hb => ?_, by rw [compL, e, ok_bind, h2, ok_bind]; rfl, by rw [List.length_cons, List.length_cons]; omega⟩
      rcases List.mem_cons.mp hb with rfl | hb
      · exact ha
      · exact h1 b hb
theorem rngD_get' {n : Nat} {i : Nat} {x : D} (h : (rngD 0 n)[i]? = some x) : i < n ∧ x = .int i := by
  rw [rngD_map, List.getElem?_map] at h
  by_cases hi : i < n
  · rw [List.getElem?_range hi] at h
    simp at h
    exact ⟨hi, h.symm⟩
  · rw [List.getElem?_eq_none (by rw [List.length_range]; omega)] at h
    cases h
theorem rngD_mem {n : Nat} {x : D} (h : x ∈ rngD 0 n) : ∃ i : Nat, i < n ∧ x = .int i := by
  obtain ⟨i, hi, e⟩ := List.mem_iff_getElem.mp h
  obtain ⟨h1, h2⟩ := rngD_get' (show (rngD 0 n)[i]? = some x by rw [List.getElem?_eq_getElem hi, e])
  exact ⟨i, h1, h2⟩
theorem rngOk_nat {n : Nat} (h : n ≤ 1000000) : rngOk 0 (n : Int) = true := by
  unfold rngOk
  simp
  omega
theorem set_snoc {l : List Int} {x : Int} : l.map D.int ++ [.int x] = (l ++ [x]).map D.int := by simp
theorem fs_snoc {l : List (List Int)} {x : List Int} : fs l ++ [tp x] = fs (l ++ [x]) := by simp [fs]
theorem ws_snoc {l : List (Option (List (List Int)))} {x : Option (List (List Int))} : ws l ++ [wo x] = ws (l ++ [x]) := by simp [ws]
theorem cut_one {xs : List D} : slcD (.lst xs) (some 1) none = .ok (.lst (xs.drop 1)) := by
  show R.ok (D.lst (cutD xs (some 1) none)) = _
  congr 2
  unfold cutD
  rw [show HT.sIx xs.length 0 (some 1) = min 1 xs.length from HT.sIx_nat xs.length 0 1, HT.sIx_none]
  cases xs with
  | nil => rfl
  | cons x r =>
    rw [show min 1 (x :: r).length = 1 by
      rw [List.length_cons]
      omega]
    show (List.take ((x :: r).length - 1) r) = r
    rw [List.length_cons, Nat.add_sub_cancel]
    exact List.take_length
theorem fs_inv {F : List (List Int)} {i : Nat} {x : D} (h : (fs F)[i]? = some x) : ∃ f, F[i]? = some f ∧ f ∈ F ∧ x = tp f := by
  rw [fs, List.getElem?_map] at h
  cases q : F[i]? with
  | none => rw [q] at h; cases h
  | some f =>
    rw [q] at h
    cases h
    exact ⟨f, rfl, List.mem_of_getElem? q, rfl⟩
theorem ws_inv {w : List (Option (List (List Int)))} {i : Nat} {x : D} (h : (ws w)[i]? = some x) : ∃ y, w[i]? = some y ∧ y ∈ w ∧ x = wo y := by
  rw [ws, List.getElem?_map] at h
  cases q : w[i]? with
  | none => rw [q] at h; cases h
  | some f =>
    rw [q] at h
    cases h
    exact ⟨f, rfl, List.mem_of_getElem? q, rfl⟩
theorem in_inv {l : List Int} {i : Nat} {x : D} (h : (l.map D.int)[i]? = some x) : ∃ y, l[i]? = some y ∧ y ∈ l ∧ x = .int y := by
  rw [List.getElem?_map] at h
  cases q : l[i]? with
  | none => rw [q] at h; cases h
  | some f =>
    rw [q] at h
    cases h
    exact ⟨f, rfl, List.mem_of_getElem? q, rfl⟩
theorem ws_len (l : List (Option (List (List Int)))) : (ws l).length = l.length := List.length_map ..
theorem cm_eqf0 (a : List (List Int)) : cmpD .Eq (.lst (fs a)) (.lst []) = .ok (decide (a = [])) := cm_eqf a []
theorem bi_intb {k : Bool} : biD .int [.bl k] = .ok (.int (if k then 1 else 0)) := nr rfl
theorem wo_none : (D.non) = wo none := rfl
theorem wo_some (l : List (List Int)) : (D.lst (fs l)) = wo (some l) := rfl
/-- an item of a list of tuples by a number modulo the length -/
theorem fs_mod {F : List (List Int)} (h : 0 < F.length) (x : Int) : ∃ f ∈ F, getAt (fs F) (x % (F.length : Int)) = .ok (tp f) := by
  have := at_mod (xs := fs F) (by rw [fs_len]; exact h) x
  rw [fs_len] at this
  obtain ⟨y, hy, e⟩ := this
  obtain ⟨f, hf, rfl⟩ := List.mem_map.mp hy
  exact ⟨f, hf, e⟩
theorem fs_at {F : List (List Int)} {i : Nat} {f : List Int} (h : F[i]? = some f) : getAt (fs F) (i : Int) = .ok (tp f) := at_nat (fs_get h)
theorem ws_at {F : List (Option (List (List Int)))} {i : Nat} {f : Option (List (List Int))} (h : F[i]? = some f) : getAt (ws F) (i : Int) = .ok (wo f) := at_nat (ws_get h)
theorem cut_nat {α : Type} {xs : List α} {a b : Nat} (h : a ≤ b) (h2 : b ≤ xs.length) : cutD xs (some (a : Int)) (some (b : Int)) = (xs.drop a).take (b - a) := by
  unfold cutD
  rw [show HT.sIx xs.length 0 (some (a : Int)) = min a xs.length from HT.sIx_nat xs.length 0 a, show HT.sIx xs.length xs.length (some (b : Int)) = min b xs.length from HT.sIx_nat xs.length xs.length b, Nat.min_eq_left h2, Nat.min_eq_left (show a ≤ xs.length by omega)]
theorem cut_three {l : List Int} {i : Nat} (h : 3 * i + 3 ≤ l.length) : ∃ x y z, x ∈ l ∧ y ∈ l ∧ z ∈ l ∧ slcD (.lst (l.map D.int)) (some (3 * (i : Int))) (some (3 * (i : Int) + 3)) = .ok (.lst [.int x, .int y, .int z]) := by
  refine ⟨l[3 * i], l[3 * i + 1], l[3 * i + 2], List.getElem_mem _, List.getElem_mem _, List.getElem_mem _, ?_⟩
  show R.ok (D.lst (cutD (l.map D.int) _ _)) = _
  rw [show (3 * (i : Int)) = ((3 * i : Nat) : Int) by omega, show (((3 * i : Nat) : Int) + 3) = ((3 * i + 3 : Nat) : Int) by omega, cut_nat (by omega) (by rw [List.length_map]; exact h)]
  rw [show 3 * i + 3 - 3 * i = 3 by omega, ← List.map_drop, ← List.map_take]
  rw [List.drop_eq_getElem_cons (show 3 * i < l.length by omega), List.drop_eq_getElem_cons (show 3 * i + 1 < l.length by omega), List.drop_eq_getElem_cons (show 3 * i + 1 + 1 < l.length by omega)]
  rfl
theorem one_of_six (x : Int) : ∃ k : Int, 0 < k ∧ k ≤ 1000 ∧ getAt [D.int 1, .int 2, .int 3, .int 5, .int 7, .int 1000] (x % 6) = .ok (.int k) := by
  have h0 : 0 ≤ x % 6 ∧ x % 6 < 6 := by omega
  generalize x % 6 = r at *
  have : r = 0 ∨ r = 1 ∨ r = 2 ∨ r = 3 ∨ r = 4 ∨ r = 5 := by omega
  rcases this with rfl | rfl | rfl | rfl | rfl | rfl
  · exact ⟨1, by decide, by decide, rfl⟩
  · exact ⟨2, by decide, by decide, rfl⟩
  · exact ⟨3, by decide, by decide, rfl⟩
  · exact ⟨5, by decide, by decide, rfl⟩
  · exact ⟨7, by decide, by decide, rfl⟩
  · exact ⟨1000, by decide, by decide, rfl⟩
theorem rgc_small {a b c : Int} (h0 : 0 ≤ a) (h1 : a < b) (h2 : b ≤ 1000) (h3 : 0 < c) (h4 : c ≤ 1000) : rgcOk a b c = true ∧ (∀ x ∈ rngC a c (Builtin.Range.rangeSize a b c).toNat, ∃ j : Nat, (j : Int) < b ∧ x = .int j) ∧ (rngC a c (Builtin.Range.rangeSize a b c).toNat).length ≤ 1000 := by
  have e : Builtin.Range.rangeSize a b c = (b - a - 1) / c + 1 := by
    unfold Builtin.Range.rangeSize
    rw [if_pos (by omega), if_pos h1]
  have d0 : 0 ≤ (b - a - 1) / c := Int.ediv_nonneg (by omega) (by omega)
  have d1 : (b - a - 1) / c ≤ b - a - 1 := Int.ediv_le_self _ (by omega)
  refine ⟨?_, fun x hx => ?_, ?_⟩
  · unfold rgcOk
    rw [Bool.and_eq_true, Bool.and_eq_true, Bool.and_eq_true]
    refine ⟨decide_eq_true (by omega), decide_eq_true (by omega), ?_, decide_eq_true (by omega)⟩
    have fl : ∀ z : Int, -1000000 ≤ z → z ≤ 1000000 → Builtin.Range.rangeFitsLong z = true := fun z z0 z1 => by
      unfold Builtin.Range.rangeFitsLong
      simp
      omega
    unfold Builtin.Range.small
    rw [fl a (by omega) (by omega), fl b (by omega) (by omega), fl c (by omega) (by omega), fl _ (by omega) (by omega)]
    simp
    right
    rw [if_pos h3]
    exact fl _ (by omega) (by omega)
  · obtain ⟨i, hi, ex⟩ := List.mem_iff_getElem.mp hx
    rw [rngC_len] at hi
    have g := rngC_get _ a c i hi
    rw [List.getElem?_eq_getElem (by rw [rngC_len]; exact hi), ex] at g
    have g := Option.some.inj g
    rw [e] at hi
    have hi2 : (i : Int) ≤ (b - a - 1) / c := by omega
    have h5 : (i : Int) * c ≤ b - a - 1 := Int.le_trans (Int.mul_le_mul_of_nonneg_right hi2 (by omega)) (Int.ediv_mul_le _ (by omega))
    have h6 : 0 ≤ (i : Int) * c := Int.mul_nonneg (by omega) (by omega)
    refine ⟨(a + (i : Int) * c).toNat, by omega, ?_⟩
    rw [g]
    congr 1
    omega
  · rw [rngC_len, e]
    omega
theorem ws_snocN {l : List (Option (List (List Int)))} : ws l ++ [.non] = ws (l ++ [none]) := ws_snoc (x := none)
theorem ws_snocS {l : List (Option (List (List Int)))} {x : List (List Int)} : ws l ++ [.lst (fs x)] = ws (l ++ [some x]) := ws_snoc (x := some x)
theorem fs_one {f : List Int} : [tp f] = fs [f] := rfl
theorem get_lt {α : Type} {xs : List α} {i : Nat} (h : i < xs.length) : ∃ x ∈ xs, xs[i]? = some x := ⟨xs[i], List.getElem_mem h, List.getElem?_eq_getElem h⟩
/-! ### wishes missed -/
def missR (F : List (List Int)) (w : List (Option (List (List Int)))) (t : List (List Int)) (i : Nat) : Option D := match w[i]?, t[i]?, F[i]? with
  | some (some ls), some x, some f => if x ∈ ls then none else some (tp f)
  | _, _, _ => none
def firstR (r : Nat → Option D) (n : Nat) : Option D := (List.range n).findSome? r
theorem firstR_some {r : Nat → Option D} {n i : Nat} {d : D} (hi : i < n) (h : r i = some d) (h2 : ∀ j, j < i → r j = none) : firstR r n = some d := by
  unfold firstR
  have e : List.range n = List.range i ++ i :: (List.range (n - i - 1)).map (fun k => i + 1 + k) := by
    refine List.ext_getElem? fun k => ?_
    by_cases h1 : k < i
    · rw [List.getElem?_append_left (by rw [List.length_range]; exact h1), List.getElem?_range h1, List.getElem?_range (by omega)]
    · rw [List.getElem?_append_right (by rw [List.length_range]; omega), List.length_range]
      by_cases h3 : k = i
      · subst h3
        rw [Nat.sub_self, List.getElem?_range hi]
        rfl
      · obtain ⟨m, rfl⟩ : ∃ m, k = i + 1 + m := ⟨k - i - 1, by omega⟩
        rw [show i + 1 + m - i = m + 1 by omega, List.getElem?_cons_succ, List.getElem?_map]
        by_cases h4 : i + 1 + m < n
        · rw [List.getElem?_range h4, List.getElem?_range (by omega)]
          rfl
        · rw [List.getElem?_eq_none (by rw [List.length_range]; omega), List.getElem?_eq_none (by rw [List.length_range]; omega)]
          rfl
  rw [e, List.findSome?_append]
  have e2 : (List.range i).findSome? r = none := by
    rw [List.findSome?_eq_none_iff]
    intro j hj
    exact h2 j (List.mem_range.mp hj)
  rw [e2, List.findSome?_cons, h]
  rfl
theorem firstR_none {r : Nat → Option D} {n : Nat} (h : ∀ j, j < n → r j = none) : firstR r n = none := by
  unfold firstR
  rw [List.findSome?_eq_none_iff]
  intro j hj
  exact h j (List.mem_range.mp hj)
def mD (F : List (List Int)) (w : List (Option (List (List Int)))) (t : List (List Int)) : D := (firstR (missR F w t) F.length).getD .non
theorem mD_cases (F : List (List Int)) (w : List (Option (List (List Int)))) (t : List (List Int)) : mD F w t = .non ∨ ∃ f, mD F w t = tp f := by
  unfold mD
  cases h : firstR (missR F w t) F.length with
  | none => exact .inl rfl
  | some d =>
    right
    unfold firstR at h
    obtain ⟨i, _, hi⟩ := List.exists_of_findSome?_eq_some h
    unfold missR at hi
    split at hi
    · split at hi
      · cases hi
      · cases hi
        exact ⟨_, rfl⟩
    · cases hi
theorem mD_non {F : List (List Int)} {w : List (Option (List (List Int)))} {t : List (List Int)} (h : ∀ (i : Nat) ls, w[i]? = some (some ls) → ∃ f ∈ ls, t[i]? = some f) : mD F w t = .non := by
  unfold mD
  rw [firstR_none fun j _ => ?_]
  · rfl
  · unfold missR
    split
    · rename_i ls x f h1 h2 h3
      obtain ⟨g, g1, g2⟩ := h j ls h1
      rw [h2] at g2
      cases g2
      rw [if_pos g1]
    · rfl
theorem is_tp (a : List Int) : isD (tp a) .non = .ok false := nr rfl
theorem ty_tp (a : List Int) : tyIs (tp a) .tuple = some true := nr rfl
theorem compL_none {f : D → R (Option D)} : ∀ {xs : List D}, (∀ x ∈ xs, f x = .ok none) → compL f xs = .ok []
  | [], _ => rfl
  | x :: xs, h => by
    rw [compL, h x (List.mem_cons_self ..), ok_bind, compL_none fun y hy => h y (List.mem_cons_of_mem _ hy), ok_bind]
theorem enum_inv {F : List (List Int)} {i : Nat} {x : D} (h : (enumD 0 (fs F))[i]? = some x) : ∃ f, F[i]? = some f ∧ x = .tup [.int (i : Nat), tp f] := by
  rw [enumD_get] at h
  cases q : (fs F)[i]? with
  | none => rw [q] at h; cases h
  | some y =>
    rw [q] at h
    cases h
    obtain ⟨f, h1, _, rfl⟩ := fs_inv q
    exact ⟨f, h1, by rw [Nat.zero_add]⟩
theorem sl_scr {ns : List Int} {lo hi : Option Int} : slcD (.scr ns) lo hi = .ok (.lst ((cutD ns lo hi).map D.int)) := nr rfl
theorem rngOk_2 : rngOk 0 2 = true := by decide +kernel
theorem rngD_2 : rngD 0 2 = [.int 0, .int 1] := nr rfl
/-- an item of a list of tuples put at a number modulo the length -/
theorem fs_put {t : List (List Int)} (h : 0 < t.length) (x : Int) (f : List Int) : ∃ t' : List (List Int), t'.length = t.length ∧ muD .set (.lst (fs t)) [tp f, .int (x % (t.length : Int))] = .ok (.lst (fs t')) := by
  have h0 := Int.emod_nonneg x (show (t.length : Int) ≠ 0 by omega)
  have h1 := Int.emod_lt_of_pos x (show (0 : Int) < t.length by omega)
  generalize x % (t.length : Int) = r at *
  refine ⟨t.set r.toNat f, List.length_set .., ?_⟩
  show (match ixN (fs t).length r with
    | some j => R.ok (D.lst ((fs t).set j (tp f)))
    | none => .bad) = _
  have e : ixN (fs t).length r = some r.toNat := by
    unfold ixN
    rw [if_pos h0, if_pos (by rw [fs_len]; exact h1)]
  rw [e]
  show R.ok (D.lst _) = _
  rw [fs, fs, List.map_set]
/-! ### where tables part -/
def lkD : Option (List Nat) → D
  | none => .non
  | some js => .lst (js.map fun (j : Nat) => D.int (j : Int))
def bxs (b : Nat) : Option (List Nat) → List Nat
  | none => List.range b
  | some js => js
def unl (a c : List Int) (bs : List Nat) : Bool := bs.any fun j => decide (a.getD j 0 ≠ c.getD j 0)
theorem unl_comm (a c : List Int) (bs : List Nat) : unl a c bs = unl c a bs := by
  unfold unl
  congr 1
  funext j
  by_cases h : a.getD j 0 = c.getD j 0
  · simp only [ne_eq, h]
  · have h' : ¬ c.getD j 0 = a.getD j 0 := fun e => h e.symm
    simp only [ne_eq, h, h', not_false_eq_true, decide_true]
theorem unl_self (a : List Int) (bs : List Nat) : unl a a bs = false := by
  unfold unl
  simp
def partR (F one other : List (List Int)) (bs : List Nat) (i : Nat) : Option D := match one[i]?, other[i]?, F[i]? with
  | some a, some c, some f => if unl a c bs = true then some (tp f) else none
  | _, _, _ => none
def pD (F one other : List (List Int)) (bs : List Nat) : D := (firstR (partR F one other bs) F.length).getD .non
theorem pD_comm (F one other : List (List Int)) (bs : List Nat) : pD F other one bs = pD F one other bs := by
  unfold pD
  congr 2
  funext i
  unfold partR
  cases one[i]? <;> cases other[i]? <;> cases F[i]? <;> simp [unl_comm]
theorem pD_none {F one other : List (List Int)} {bs : List Nat} (h : ∀ i, partR F one other bs i = none) : pD F one other bs = .non := by
  unfold pD
  rw [firstR_none fun j _ => h j]
  rfl
theorem pD_self (F one : List (List Int)) (bs : List Nat) : pD F one one bs = .non := pD_none fun i => by
  unfold partR
  cases one[i]? <;> cases F[i]? <;> simp [unl_self]
theorem pD_nil (F one other : List (List Int)) : pD F one other [] = .non := pD_none fun i => by
  unfold partR unl
  cases one[i]? <;> cases other[i]? <;> cases F[i]? <;> simp
theorem pD_cases (F one other : List (List Int)) (bs : List Nat) : pD F one other bs = .non ∨ ∃ f ∈ F, pD F one other bs = tp f := by
  unfold pD
  cases h : firstR (partR F one other bs) F.length with
  | none => exact .inl rfl
  | some d =>
    right
    unfold firstR at h
    obtain ⟨i, _, hi⟩ := List.exists_of_findSome?_eq_some h
    unfold partR at hi
    split at hi
    · split at hi
      · rename_i h3 _
        cases hi
        exact ⟨_, List.mem_of_getElem? h3, rfl⟩
      · cases hi
    · cases hi
theorem cm_nei (a b : List Int) : cmpD .NotEq (.lst (a.map D.int)) (.lst (b.map D.int)) = .ok (!decide (a = b)) := by
  have c : ∀ l : List Int, (D.lst (l.map D.int)).shaped = true := fun l => by
    have h := sh_tp l
    show SeqAt.shaped _ = true
    unfold SeqAt.shaped
    have h1 : (D.lst (l.map D.int)).toP.canLay0 = true := can_tp l
    have h2 : (D.lst (l.map D.int)).toP.depth ≤ 1 := dep_tp l
    rw [h1, decide_eq_true (by omega)]
    rfl
  have e : (D.lst (a.map D.int)).eqv (.lst (b.map D.int)) = decide (a = b) := by
    have := eqv_tp a b
    show PyData.eqv _ _ = _
    rw [D.toP, D.toP, PyData.eqv]
    have h : PyData.eqv (tp a).toP (tp b).toP = decide (a = b) := this
    rw [tp, tp, D.toP, D.toP, PyData.eqv] at h
    exact h
  show (chk ((D.lst (a.map D.int)).shaped && (D.lst (b.map D.int)).shaped)).bind (fun _ => R.ok (!(D.lst (a.map D.int)).eqv (.lst (b.map D.int)))) = _
  rw [c, c, e]
  rfl
theorem in_at {l : List Int} {j : Nat} (h : j < l.length) : getAt (l.map D.int) (j : Int) = .ok (.int (l.getD j 0)) := by
  have e : (l.map D.int)[j]? = some (.int (l.getD j 0)) := by
    rw [List.getElem?_map, List.getElem?_eq_getElem h, List.getD_eq_getElem?_getD, List.getElem?_eq_getElem h]
    rfl
  exact at_nat e
/-- what is seen of a filling -/
def seen (a : List Int) : Option (List Nat) → List Int
  | none => a
  | some js => js.map fun j => a.getD j 0
theorem seen_ne {a c : List Int} {b : Nat} (ha : a.length = b) (hc : c.length = b) (lk : Option (List Nat)) : (!decide (seen a lk = seen c lk)) = unl a c (bxs b lk) := by
  have key : seen a lk = seen c lk ↔ ∀ j ∈ bxs b lk, a.getD j 0 = c.getD j 0 := by
    cases lk with
    | none =>
      show a = c ↔ _
      refine ⟨fun e j _ => by rw [e], fun h => ?_⟩
      refine List.ext_getElem? fun j => ?_
      by_cases hj : j < b
      · have := h j (List.mem_range.mpr hj)
        rw [List.getD_eq_getElem?_getD, List.getD_eq_getElem?_getD, List.getElem?_eq_getElem (by omega), List.getElem?_eq_getElem (by omega)] at this
        rw [List.getElem?_eq_getElem (by omega), List.getElem?_eq_getElem (by omega)]
        exact congrArg some this
      · rw [List.getElem?_eq_none (by omega), List.getElem?_eq_none (by omega)]
    | some js =>
      show js.map _ = js.map _ ↔ _
      rw [List.map_inj_left]
      rfl
  by_cases h : seen a lk = seen c lk
  · rw [decide_eq_true h]
    have h2 := key.mp h
    unfold unl
    symm
    rw [Bool.not_true, List.any_eq_false]
    intro j hj e
    exact of_decide_eq_true e (h2 j hj)
  · rw [decide_eq_false h]
    have h2 : ¬ ∀ j ∈ bxs b lk, a.getD j 0 = c.getD j 0 := fun z => h (key.mpr z)
    unfold unl
    symm
    rw [Bool.not_false, List.any_eq_true]
    simp only [Classical.not_forall] at h2
    obtain ⟨j, hj, hne⟩ := h2
    exact ⟨j, hj, decide_eq_true hne⟩
theorem FS_exact {p : Int × Int} (h : isSz p) : ∀ f ∈ FS p, f.length = p.2.toNat := by
  unfold isSz at h
  simp only [List.mem_cons, List.mem_nil_iff, or_false] at h
  rcases h with rfl | rfl | rfl | rfl | rfl | rfl | rfl | rfl | rfl | rfl | rfl | rfl | rfl | rfl <;> decide +kernel
theorem sz_rng {p : Int × Int} (h : isSz p) : 1 ≤ p.1 ∧ p.1 ≤ 6 ∧ 1 ≤ p.2 ∧ p.2 ≤ 6 := by
  unfold isSz at h
  simp only [List.mem_cons, List.mem_nil_iff, or_false] at h
  rcases h with rfl | rfl | rfl | rfl | rfl | rfl | rfl | rfl | rfl | rfl | rfl | rfl | rfl | rfl <;> decide
theorem szD_eq (p : Int × Int) : szD p = .tup [.int p.1, .int p.2] := rfl
theorem bi_list_tp {f : List Int} : biD .list [tp f] = .ok (.lst (f.map D.int)) := nr rfl
theorem bi_tup_in {f : List Int} : biD .tuple [.lst (f.map D.int)] = .ok (tp f) := nr rfl
theorem ix_tp {f : List Int} {i : Int} : idxD (tp f) (.int i) = getAt (f.map D.int) i := nr rfl
theorem in_put {l : List Int} {j : Nat} (h : j < l.length) (v : Int) : muD .set (.lst (l.map D.int)) [.int v, .int (j : Int)] = .ok (.lst ((l.set j v).map D.int)) := by
  show (match ixN (l.map D.int).length (j : Int) with
    | some j => R.ok (D.lst ((l.map D.int).set j (.int v)))
    | none => .bad) = _
  have e : ixN (l.map D.int).length (j : Int) = some j := by
    unfold ixN
    rw [if_pos (by omega), if_pos (by rw [List.length_map]; omega)]
    simp
  rw [e]
  show R.ok (D.lst _) = _
  rw [List.map_set]
theorem rngD0 (n : Nat) : rngD 0 n = (List.range n).map fun (j : Nat) => D.int (j : Int) := by
  rw [rngD_map]
  refine List.map_congr_left fun i _ => ?_
  congr 1
  omega
theorem nat_inv {l : List Nat} {i : Nat} {x : D} (h : (l.map fun (j : Nat) => D.int (j : Int))[i]? = some x) : ∃ y, l[i]? = some y ∧ y ∈ l ∧ x = .int (y : Int) := by
  rw [List.getElem?_map] at h
  cases q : l[i]? with
  | none => rw [q] at h; cases h
  | some f =>
    rw [q] at h
    cases h
    exact ⟨f, rfl, List.mem_of_getElem? q, rfl⟩
/-- with every item of a kind -/
theorem fs_putP {P : List Int → Prop} {t : List (List Int)} (h : 0 < t.length) (ht : ∀ f ∈ t, P f) (x : Int) (f : List Int) (hf : P f) : ∃ t' : List (List Int), t'.length = t.length ∧ (∀ g ∈ t', P g) ∧ muD .set (.lst (fs t)) [tp f, .int (x % (t.length : Int))] = .ok (.lst (fs t')) := by
  have h0 := Int.emod_nonneg x (show (t.length : Int) ≠ 0 by omega)
  have h1 := Int.emod_lt_of_pos x (show (0 : Int) < t.length by omega)
  generalize x % (t.length : Int) = r at *
  refine ⟨t.set r.toNat f, List.length_set .., fun g hg => ?_, ?_⟩
  · rcases List.mem_or_eq_of_mem_set hg with z | z
    · exact ht g z
    · rw [z]; exact hf
  · show (match ixN (fs t).length r with
      | some j => R.ok (D.lst ((fs t).set j (tp f)))
      | none => .bad) = _
    have e : ixN (fs t).length r = some r.toNat := by
      unfold ixN
      rw [if_pos h0, if_pos (by rw [fs_len]; exact h1)]
    rw [e]
    show R.ok (D.lst _) = _
    rw [fs, fs, List.map_set]
theorem szD_0 (p : Int × Int) : idxD (szD p) (.int 0) = .ok (.int p.1) := nr rfl
theorem szD_1 (p : Int × Int) : idxD (szD p) (.int 1) = .ok (.int p.2) := nr rfl
theorem szD_at (p : Int × Int) : idxD (szD p) (.int (-1)) = .ok (.int p.2) := nr rfl
theorem szR {p : Int × Int} (h : isSz p) : rngOk 0 p.2 = true := by
  obtain ⟨z1, z2, z3, z4⟩ := sz_rng h
  rw [show p.2 = ((p.2.toNat : Nat) : Int) by omega]
  exact rngOk_nat (by omega)
end Ev

/-! Part O: steps. -/
namespace Ev
open PySem PySem.Spec PyProof.Rows L2
theorem mem_FL (m : Nat) : ∀ (n : Nat) (f : List Int), f ∈ FL m n ↔ f.length = n ∧ ∀ x ∈ f, 0 ≤ x ∧ x < m
  | 0, f => by
    show f ∈ [[]] ↔ _
    rw [List.mem_singleton, List.length_eq_zero_iff]
    constructor
    · rintro rfl
      exact ⟨rfl, fun x hx => nomatch hx⟩
    · exact fun h => h.1
  | n + 1, f => by
    have e : f ∈ FL m (n + 1) ↔ ∃ g ∈ FL m n, ∃ w, w < m ∧ g ++ [(w : Int)] = f := by
      show f ∈ (FL m n).flatMap _ ↔ _
      simp only [List.mem_flatMap, List.mem_map, List.mem_range]
    rw [e]
    constructor
    · rintro ⟨g, hg, w, hw, rfl⟩
      obtain ⟨h1, h2⟩ := (mem_FL m n g).mp hg
      refine ⟨by rw [List.length_append, h1]; rfl, fun x hx => ?_⟩
      rcases List.mem_append.mp hx with z | z
      · exact h2 x z
      · rw [List.mem_singleton] at z
        subst z
        omega
    · rintro ⟨h1, h2⟩
      have hne : f ≠ [] := by
        intro e
        rw [e] at h1
        cases h1
      have hl := h2 (f.getLast hne) (List.getLast_mem hne)
      refine ⟨f.dropLast, (mem_FL m n _).mpr ⟨by rw [List.length_dropLast, h1]; rfl, fun x hx => h2 x (List.dropLast_subset f hx)⟩, (f.getLast hne).toNat, by omega, ?_⟩
      rw [show (((f.getLast hne).toNat : Nat) : Int) = f.getLast hne by omega]
      exact List.dropLast_concat_getLast hne
theorem mem_FS {p : Int × Int} {f : List Int} : f ∈ FS p ↔ f.length = p.2.toNat ∧ ∀ x ∈ f, 0 ≤ x ∧ x < ((2 ^ p.1.toNat : Nat) : Int) := mem_FL _ _ _
def wd : Nat → Str
  | 0 => Str.ofString "and"
  | 1 => Str.ofString "or"
  | 2 => Str.ofString "xor"
  | 3 => Str.ofString "add"
  | 4 => Str.ofString "take"
  | 5 => Str.ofString "copy"
  | 6 => Str.ofString "put"
  | 7 => Str.ofString "not"
  | 8 => Str.ofString "up"
  | _ => Str.ofString "down"
/-- a step: its kind, its box, its other number -/
def stD (k i j : Nat) : D := if k ≤ 6 then .tup [.str (wd k), .int i, .int j] else .tup [.str (wd k), .int i]
structure StOk (p : Int × Int) (k i j : Nat) : Prop where
  h1 : k < 10
  h2 : i < p.2.toNat
  h3 : k < 6 → j < p.2.toNat
  h4 : k = 6 → j < 2 ^ p.1.toNat
/-- what a step makes of its words -/
def mkW (k : Nat) (a c j : Int) : Int := match k with
  | 0 => Builtin.bitAnd a c
  | 1 => Builtin.bitOr a c
  | 2 => Builtin.bitXor a c
  | 3 => a + c
  | 4 => a - c
  | 5 => c
  | 6 => j
  | 7 => -1 - a
  | 8 => 2 * a
  | _ => a / 2
def newW (p : Int × Int) (k i j : Nat) (f : List Int) : Int := mkW k (f.getD i 0) (f.getD j 0) j % ((2 ^ p.1.toNat : Nat) : Int)
def dn (p : Int × Int) (k i j : Nat) (f : List Int) : List Int := f.set i (newW p k i j f)
theorem dn_mem {p : Int × Int} {k i j : Nat} {f : List Int} (h : f ∈ FS p) : dn p k i j f ∈ FS p := by
  rw [mem_FS] at h ⊢
  obtain ⟨h1, h2⟩ := h
  refine ⟨by unfold dn; rw [List.length_set, h1], fun x hx => ?_⟩
  have hm : (0 : Int) < ((2 ^ p.1.toNat : Nat) : Int) := by
    have := Nat.two_pow_pos p.1.toNat
    omega
  rcases List.mem_or_eq_of_mem_set hx with z | z
  · exact h2 x z
  · rw [z]
    exact ⟨Int.emod_nonneg _ (by omega), Int.emod_lt_of_pos _ hm⟩
theorem slc_tp {xs : List D} {lo hi : Option Int} : slcD (.tup xs) lo hi = .ok (.tup (cutD xs lo hi)) := nr rfl
theorem cut_len {α : Type} (xs : List α) (lo hi : Option Int) : (cutD xs lo hi).length ≤ xs.length := by
  unfold cutD
  rw [List.length_take, List.length_drop]
  omega
theorem set_cut {l : List Int} {i : Nat} (h : i < l.length) (x : Int) : cutD (l.map D.int) none (some (i : Int)) ++ [.int x] ++ cutD (l.map D.int) (some ((i : Int) + 1)) none = (l.set i x).map D.int := by
  have e1 : cutD (l.map D.int) none (some (i : Int)) = (l.map D.int).take i := by
    unfold cutD
    rw [show HT.sIx (l.map D.int).length 0 none = 0 from rfl, show HT.sIx (l.map D.int).length (l.map D.int).length (some (i : Int)) = i from ?_]
    · simp
    · unfold HT.sIx
      simp only [List.length_map]
      rw [if_neg (by omega)]
      omega
  have e2 : cutD (l.map D.int) (some ((i : Int) + 1)) none = (l.map D.int).drop (i + 1) := by
    unfold cutD
    rw [show HT.sIx (l.map D.int).length 0 (some ((i : Int) + 1)) = i + 1 from ?_, show HT.sIx (l.map D.int).length (l.map D.int).length none = (l.map D.int).length from rfl]
    · rw [List.take_of_length_le (by rw [List.length_drop]; exact Nat.le_refl _)]
    · unfold HT.sIx
      simp only [List.length_map]
      rw [if_neg (by omega)]
      omega
  rw [e1, e2, List.append_assoc, List.map_set, List.set_eq_take_append_cons_drop, if_pos (by rw [List.length_map]; exact h)]
  rfl
/-! ### words bit by bit -/
def bf (k : Nat) (h t : Int) : Int := match k with
  | 0 => h * t
  | 1 => if t > h then t else h
  | _ => (h + t) % 2
def bsum (k : Nat) (a c : Int) : List Int → Int → Int
  | [], m => m
  | p :: ps, m => bsum k a c ps (m + p * bf k (a / p % 2) (c / p % 2))
def pws (b : Nat) : List Int := ([1, 2, 4, 8, 16, 32, 64] : List Int).take b
theorem bits_ok : ∀ b : Nat, b < 7 → ∀ k, k < 3 → ∀ a : Nat, a < 2 ^ b → ∀ c : Nat, c < 2 ^ b → bsum k a c (pws b) 0 = mkW k a c 0 % ((2 ^ b : Nat) : Int) := by decide +kernel
theorem pws_pos {b : Nat} : ∀ p ∈ pws b, 0 < p ∧ p ≤ 64 := fun p h => by
  have h := List.mem_of_mem_take h
  simp only [List.mem_cons, List.mem_nil_iff, or_false] at h
  omega
theorem bf_small {k : Nat} {h t : Int} (h1 : 0 ≤ h) (h2 : h < 2) (h3 : 0 ≤ t) (h4 : t < 2) : 0 ≤ bf k h t ∧ bf k h t < 2 := by
  rcases (show h = 0 ∨ h = 1 by omega) with rfl | rfl <;> rcases (show t = 0 ∨ t = 1 by omega) with rfl | rfl <;> unfold bf <;> split <;> decide
/-! ### displayed dicts of words, closed -/
theorem pr_n : pairD [] = .ok [] := nr rfl
theorem pr_s {s : Str} {v : D} {r : List D} : pairD (.str s :: v :: r) = (pairD r).bind fun kvs => .ok ((.inr s, v) :: kvs) := nr rfl
section
variable (x y z : D)
theorem nud0 : idxD (.dct (mergeD [(.inr (Str.ofString "not"), x), (.inr (Str.ofString "up"), y), (.inr (Str.ofString "down"), z)])) (.str (Str.ofString "not")) = .ok x := by kernel_rfl
theorem nud1 : idxD (.dct (mergeD [(.inr (Str.ofString "not"), x), (.inr (Str.ofString "up"), y), (.inr (Str.ofString "down"), z)])) (.str (Str.ofString "up")) = .ok y := by kernel_rfl
theorem nud2 : idxD (.dct (mergeD [(.inr (Str.ofString "not"), x), (.inr (Str.ofString "up"), y), (.inr (Str.ofString "down"), z)])) (.str (Str.ofString "down")) = .ok z := by kernel_rfl
theorem cat0 : idxD (.dct (mergeD [(.inr (Str.ofString "copy"), x), (.inr (Str.ofString "add"), y), (.inr (Str.ofString "take"), z)])) (.str (Str.ofString "copy")) = .ok x := by kernel_rfl
theorem cat1 : idxD (.dct (mergeD [(.inr (Str.ofString "copy"), x), (.inr (Str.ofString "add"), y), (.inr (Str.ofString "take"), z)])) (.str (Str.ofString "add")) = .ok y := by kernel_rfl
theorem cat2 : idxD (.dct (mergeD [(.inr (Str.ofString "copy"), x), (.inr (Str.ofString "add"), y), (.inr (Str.ofString "take"), z)])) (.str (Str.ofString "take")) = .ok z := by kernel_rfl
theorem aox0 : idxD (.dct (mergeD [(.inr (Str.ofString "and"), x), (.inr (Str.ofString "or"), y), (.inr (Str.ofString "xor"), z)])) (.str (Str.ofString "and")) = .ok x := by kernel_rfl
theorem aox1 : idxD (.dct (mergeD [(.inr (Str.ofString "and"), x), (.inr (Str.ofString "or"), y), (.inr (Str.ofString "xor"), z)])) (.str (Str.ofString "or")) = .ok y := by kernel_rfl
theorem aox2 : idxD (.dct (mergeD [(.inr (Str.ofString "and"), x), (.inr (Str.ofString "or"), y), (.inr (Str.ofString "xor"), z)])) (.str (Str.ofString "xor")) = .ok z := by kernel_rfl
end
theorem inc0 : inD (.str (Str.ofString "and")) (.tup [.str (Str.ofString "copy"), .str (Str.ofString "add"), .str (Str.ofString "take")]) = .ok false := by kernel_rfl
theorem inc1 : inD (.str (Str.ofString "or")) (.tup [.str (Str.ofString "copy"), .str (Str.ofString "add"), .str (Str.ofString "take")]) = .ok false := by kernel_rfl
theorem inc2 : inD (.str (Str.ofString "xor")) (.tup [.str (Str.ofString "copy"), .str (Str.ofString "add"), .str (Str.ofString "take")]) = .ok false := by kernel_rfl
theorem inc3 : inD (.str (Str.ofString "add")) (.tup [.str (Str.ofString "copy"), .str (Str.ofString "add"), .str (Str.ofString "take")]) = .ok true := by kernel_rfl
theorem inc4 : inD (.str (Str.ofString "take")) (.tup [.str (Str.ofString "copy"), .str (Str.ofString "add"), .str (Str.ofString "take")]) = .ok true := by kernel_rfl
theorem inc5 : inD (.str (Str.ofString "copy")) (.tup [.str (Str.ofString "copy"), .str (Str.ofString "add"), .str (Str.ofString "take")]) = .ok true := by kernel_rfl
theorem eqp0 : cmpD .Eq (.str (Str.ofString "and")) (.str (Str.ofString "put")) = .ok false := by kernel_rfl
theorem eqp1 : cmpD .Eq (.str (Str.ofString "or")) (.str (Str.ofString "put")) = .ok false := by kernel_rfl
theorem eqp2 : cmpD .Eq (.str (Str.ofString "xor")) (.str (Str.ofString "put")) = .ok false := by kernel_rfl
theorem eqp3 : cmpD .Eq (.str (Str.ofString "add")) (.str (Str.ofString "put")) = .ok false := by kernel_rfl
theorem eqp4 : cmpD .Eq (.str (Str.ofString "take")) (.str (Str.ofString "put")) = .ok false := by kernel_rfl
theorem eqp5 : cmpD .Eq (.str (Str.ofString "copy")) (.str (Str.ofString "put")) = .ok false := by kernel_rfl
theorem eqp6 : cmpD .Eq (.str (Str.ofString "put")) (.str (Str.ofString "put")) = .ok true := by kernel_rfl
/-- the numbers of a filling -/
theorem FS_at {p : Int × Int} {f : List Int} (h : f ∈ FS p) {i : Nat} (hi : i < p.2.toNat) : 0 ≤ f.getD i 0 ∧ f.getD i 0 < ((2 ^ p.1.toNat : Nat) : Int) := by
  obtain ⟨h1, h2⟩ := mem_FS.mp h
  refine h2 _ ?_
  rw [List.getD_eq_getElem?_getD, List.getElem?_eq_getElem (by omega)]
  exact List.getElem_mem (by omega)
theorem two_pos (p : Int × Int) : (0 : Int) < ((2 ^ p.1.toNat : Nat) : Int) := by
  have := Nat.two_pow_pos p.1.toNat
  omega
theorem two_le {p : Int × Int} (h : isSz p) : ((2 ^ p.1.toNat : Nat) : Int) ≤ 64 := by
  obtain ⟨z1, z2, z3, z4⟩ := sz_rng h
  have : 2 ^ p.1.toNat ≤ 64 := Nat.pow_le_pow_right (n := 2) (by decide) (show p.1.toNat ≤ 6 by omega)
  omega
/-- the powers of two, by their number -/
theorem two_at {p : Int × Int} (h : isSz p) : getAt [D.int 1, .int 2, .int 4, .int 8, .int 16, .int 32, .int 64] p.1 = .ok (.int ((2 ^ p.1.toNat : Nat) : Int)) := by
  unfold isSz at h
  simp only [List.mem_cons, List.mem_nil_iff, or_false] at h
  rcases h with rfl | rfl | rfl | rfl | rfl | rfl | rfl | rfl | rfl | rfl | rfl | rfl | rfl | rfl
  all_goals kernel_rfl
theorem mod_id {a m : Int} (h1 : 0 ≤ a) (h2 : a < m) : a % m = a := Int.emod_eq_of_lt h1 h2
theorem mod_not {a m : Int} (h1 : 0 ≤ a) (h2 : a < m) : (-1 - a) % m = m - 1 - a := by
  rw [show -1 - a = (m - 1 - a) + m * (-1) by omega, Int.add_mul_emod_self_left]
  exact mod_id (by omega) (by omega)
theorem wd_at {r : Int} (h0 : 0 ≤ r) (h1 : r < 10) : getAt [D.str (Str.ofString "and"), .str (Str.ofString "or"), .str (Str.ofString "xor"), .str (Str.ofString "add"), .str (Str.ofString "take"), .str (Str.ofString "copy"), .str (Str.ofString "put"), .str (Str.ofString "not"), .str (Str.ofString "up"), .str (Str.ofString "down")] r = .ok (.str (wd r.toNat)) := by
  rcases (show r = 0 ∨ r = 1 ∨ r = 2 ∨ r = 3 ∨ r = 4 ∨ r = 5 ∨ r = 6 ∨ r = 7 ∨ r = 8 ∨ r = 9 by omega) with rfl | rfl | rfl | rfl | rfl | rfl | rfl | rfl | rfl | rfl <;> rfl
theorem bxs_mod {a b : Int} (h : 0 < b) : ∃ i : Nat, i < b.toNat ∧ a % b = i := ⟨(a % b).toNat, by
  have h1 := Int.emod_nonneg a (show b ≠ 0 by omega)
  have h2 := Int.emod_lt_of_pos a h
  omega, by
  have h1 := Int.emod_nonneg a (show b ≠ 0 by omega)
  omega⟩
theorem pws_at {p : Int × Int} (h : isSz p) : slcD (.lst [.int 1, .int 2, .int 4, .int 8, .int 16, .int 32, .int 64]) none (some p.1) = .ok (.lst ((pws p.1.toNat).map D.int)) := by
  unfold isSz at h
  simp only [List.mem_cons, List.mem_nil_iff, or_false] at h
  rcases h with rfl | rfl | rfl | rfl | rfl | rfl | rfl | rfl | rfl | rfl | rfl | rfl | rfl | rfl
  all_goals kernel_rfl
theorem rngOk_le {a b : Int} (h0 : 0 ≤ a) (h1 : a ≤ 1000000) (h2 : 0 ≤ b) (h3 : b ≤ 1000000) : rngOk a b = true := by
  unfold rngOk
  rw [decide_eq_true (by omega), decide_eq_true (by omega), decide_eq_true (by omega), decide_eq_true (by omega)]
  rfl
theorem rngD_getA {a : Int} {n i : Nat} {x : D} (h : (rngD a n)[i]? = some x) : i < n ∧ x = .int (a + i) := by
  rw [rngD_map, List.getElem?_map] at h
  by_cases hi : i < n
  · rw [List.getElem?_range hi] at h
    cases h
    exact ⟨hi, rfl⟩
  · rw [List.getElem?_eq_none (by rw [List.length_range]; omega)] at h
    cases h
end Ev

/-! Part P: stocks and rows. -/
namespace Ev
open PySem PySem.Spec PyProof.Rows L2
theorem eqp7 : cmpD .Eq (.str (Str.ofString "not")) (.str (Str.ofString "put")) = .ok false := by kernel_rfl
theorem eqp8 : cmpD .Eq (.str (Str.ofString "up")) (.str (Str.ofString "put")) = .ok false := by kernel_rfl
theorem eqp9 : cmpD .Eq (.str (Str.ofString "down")) (.str (Str.ofString "put")) = .ok false := by kernel_rfl
theorem inn0 : inD (.str (Str.ofString "and")) (.tup [.str (Str.ofString "not"), .str (Str.ofString "up"), .str (Str.ofString "down")]) = .ok false := by kernel_rfl
theorem inn1 : inD (.str (Str.ofString "or")) (.tup [.str (Str.ofString "not"), .str (Str.ofString "up"), .str (Str.ofString "down")]) = .ok false := by kernel_rfl
theorem inn2 : inD (.str (Str.ofString "xor")) (.tup [.str (Str.ofString "not"), .str (Str.ofString "up"), .str (Str.ofString "down")]) = .ok false := by kernel_rfl
theorem inn3 : inD (.str (Str.ofString "add")) (.tup [.str (Str.ofString "not"), .str (Str.ofString "up"), .str (Str.ofString "down")]) = .ok false := by kernel_rfl
theorem inn4 : inD (.str (Str.ofString "take")) (.tup [.str (Str.ofString "not"), .str (Str.ofString "up"), .str (Str.ofString "down")]) = .ok false := by kernel_rfl
theorem inn5 : inD (.str (Str.ofString "copy")) (.tup [.str (Str.ofString "not"), .str (Str.ofString "up"), .str (Str.ofString "down")]) = .ok false := by kernel_rfl
theorem inn6 : inD (.str (Str.ofString "put")) (.tup [.str (Str.ofString "not"), .str (Str.ofString "up"), .str (Str.ofString "down")]) = .ok false := by kernel_rfl
theorem inn7 : inD (.str (Str.ofString "not")) (.tup [.str (Str.ofString "not"), .str (Str.ofString "up"), .str (Str.ofString "down")]) = .ok true := by kernel_rfl
theorem inn8 : inD (.str (Str.ofString "up")) (.tup [.str (Str.ofString "not"), .str (Str.ofString "up"), .str (Str.ofString "down")]) = .ok true := by kernel_rfl
theorem inn9 : inD (.str (Str.ofString "down")) (.tup [.str (Str.ofString "not"), .str (Str.ofString "up"), .str (Str.ofString "down")]) = .ok true := by kernel_rfl
theorem eqc0 : cmpD .Eq (.str (Str.ofString "and")) (.str (Str.ofString "copy")) = .ok false := by kernel_rfl
theorem eqc1 : cmpD .Eq (.str (Str.ofString "or")) (.str (Str.ofString "copy")) = .ok false := by kernel_rfl
theorem eqc2 : cmpD .Eq (.str (Str.ofString "xor")) (.str (Str.ofString "copy")) = .ok false := by kernel_rfl
theorem eqc3 : cmpD .Eq (.str (Str.ofString "add")) (.str (Str.ofString "copy")) = .ok false := by kernel_rfl
theorem eqc4 : cmpD .Eq (.str (Str.ofString "take")) (.str (Str.ofString "copy")) = .ok false := by kernel_rfl
theorem eqc5 : cmpD .Eq (.str (Str.ofString "copy")) (.str (Str.ofString "copy")) = .ok true := by kernel_rfl
theorem eqa0 : cmpD .Eq (.str (Str.ofString "and")) (.str (Str.ofString "add")) = .ok false := by kernel_rfl
theorem eqa1 : cmpD .Eq (.str (Str.ofString "or")) (.str (Str.ofString "add")) = .ok false := by kernel_rfl
theorem eqa2 : cmpD .Eq (.str (Str.ofString "xor")) (.str (Str.ofString "add")) = .ok false := by kernel_rfl
theorem eqa3 : cmpD .Eq (.str (Str.ofString "add")) (.str (Str.ofString "add")) = .ok true := by kernel_rfl
theorem eqa4 : cmpD .Eq (.str (Str.ofString "take")) (.str (Str.ofString "add")) = .ok false := by kernel_rfl
theorem eqt0 : cmpD .Eq (.str (Str.ofString "and")) (.str (Str.ofString "take")) = .ok false := by kernel_rfl
theorem eqt1 : cmpD .Eq (.str (Str.ofString "or")) (.str (Str.ofString "take")) = .ok false := by kernel_rfl
theorem eqt2 : cmpD .Eq (.str (Str.ofString "xor")) (.str (Str.ofString "take")) = .ok false := by kernel_rfl
theorem eqt3 : cmpD .Eq (.str (Str.ofString "add")) (.str (Str.ofString "take")) = .ok false := by kernel_rfl
theorem eqt4 : cmpD .Eq (.str (Str.ofString "take")) (.str (Str.ofString "take")) = .ok true := by kernel_rfl
theorem ixa0 : mthD .index (.lst [.str (Str.ofString "and"), .str (Str.ofString "or"), .str (Str.ofString "xor")]) [.str (Str.ofString "and")] = .ok (.int 0) := by kernel_rfl
theorem ixa1 : mthD .index (.lst [.str (Str.ofString "and"), .str (Str.ofString "or"), .str (Str.ofString "xor")]) [.str (Str.ofString "or")] = .ok (.int 1) := by kernel_rfl
theorem ixa2 : mthD .index (.lst [.str (Str.ofString "and"), .str (Str.ofString "or"), .str (Str.ofString "xor")]) [.str (Str.ofString "xor")] = .ok (.int 2) := by kernel_rfl
theorem wd_at6 {r : Int} (h0 : 0 ≤ r) (h1 : r < 6) : getAt [D.str (Str.ofString "and"), .str (Str.ofString "or"), .str (Str.ofString "xor"), .str (Str.ofString "add"), .str (Str.ofString "take"), .str (Str.ofString "copy")] r = .ok (.str (wd r.toNat)) := by
  rcases (show r = 0 ∨ r = 1 ∨ r = 2 ∨ r = 3 ∨ r = 4 ∨ r = 5 by omega) with rfl | rfl | rfl | rfl | rfl | rfl <;> rfl
theorem wd_at7 {r : Int} (h0 : 7 ≤ r) (h1 : r < 10) : getAt [D.str (Str.ofString "not"), .str (Str.ofString "up"), .str (Str.ofString "down")] (r - 7) = .ok (.str (wd r.toNat)) := by
  rcases (show r = 7 ∨ r = 8 ∨ r = 9 by omega) with rfl | rfl | rfl <;> rfl
/-- a step -/
abbrev Stp := Nat × Nat × Nat
abbrev sD (s : Stp) : D := stD s.1 s.2.1 s.2.2
abbrev sOk (p : Int × Int) (s : Stp) : Prop := StOk p s.1 s.2.1 s.2.2
/-- a stock -/
def stkD (l : List (Stp × Int)) : List D := l.map fun e => .tup [sD e.1, .int e.2]
def stkOk (p : Int × Int) (l : List (Stp × Int)) : Prop := ∀ e ∈ l, sOk p e.1 ∧ 1 ≤ e.2 ∧ e.2 ≤ 9
theorem stk_len (l : List (Stp × Int)) : (stkD l).length = l.length := List.length_map ..
theorem can_wd (k : Nat) : (D.str (wd k)).toP.canLay0 = true := by
  unfold wd
  split <;> decide +kernel
theorem can_st (s : Stp) : (sD s).toP.canLay0 = true := by
  unfold sD stD
  split
  · rw [D.toP, PyData.canLay0, toPs, toPs, toPs, toPs, PyData.canLayAll0, can_wd]
    rfl
  · rw [D.toP, PyData.canLay0, toPs, toPs, toPs, PyData.canLayAll0, can_wd]
    rfl
theorem dep_st (s : Stp) : (sD s).toP.depth ≤ 1 := by
  unfold sD stD
  split <;> simp [D.toP, toPs, PyData.depth, PyData.depthAll]
theorem sh_of {d : D} {n : Nat} (h1 : d.toP.canLay0 = true) (h2 : d.toP.depth ≤ n) (h3 : n ≤ 4 := by decide) : d.shaped = true := by
  show SeqAt.shaped _ = true
  unfold SeqAt.shaped
  rw [h1, decide_eq_true (by omega)]
  rfl
theorem can_lst {α : Type} {f : α → D} (h : ∀ x, (f x).toP.canLay0 = true) (l : List α) : (D.lst (l.map f)).toP.canLay0 = true := by
  rw [D.toP, PyData.canLay0, toPs_map]
  exact canAll h l
theorem dep_lst {α : Type} {f : α → D} {n : Nat} (h : ∀ x, (f x).toP.depth ≤ n) (l : List α) : (D.lst (l.map f)).toP.depth ≤ n + 1 := by
  rw [D.toP, PyData.depth, toPs_map]
  have := depAll h l
  omega
theorem can_pr (e : Stp × Int) : (D.tup [sD e.1, .int e.2]).toP.canLay0 = true := by
  rw [D.toP, PyData.canLay0, toPs, toPs, toPs, PyData.canLayAll0, can_st]
  rfl
theorem dep_pr (e : Stp × Int) : (D.tup [sD e.1, .int e.2]).toP.depth ≤ 2 := by
  rw [D.toP, PyData.depth, toPs, toPs, toPs, PyData.depthAll, PyData.depthAll, PyData.depthAll]
  have := dep_st e.1
  have : (D.int e.2).toP.depth = 0 := rfl
  omega
theorem sh_stk (l : List (Stp × Int)) : (D.lst (stkD l)).shaped = true := sh_of (can_lst can_pr l) (dep_lst dep_pr l)
theorem cm_eqg {a b : D} (ha : a.shaped = true) (hb : b.shaped = true) : cmpD .Eq a b = .ok (a.eqv b) := by
  show (chk (a.shaped && b.shaped)).bind (fun _ => R.ok (a.eqv b)) = _
  rw [ha, hb]
  rfl
theorem cm_eqr {a : D} (ha : a.shaped = true) : cmpD .Eq a a = .ok true := by
  rw [cm_eqg ha ha]
  congr 1
  exact SeqAt.eqv_refl _ (SeqAt.canLay_of_shaped ha)
theorem cm_eq0 {xs : List D} (h : (D.lst xs).shaped = true) : cmpD .Eq (.lst xs) (.lst []) = .ok xs.isEmpty := by
  rw [cm_eqg h rfl]
  cases xs <;> rfl
theorem stk_at {l : List (Stp × Int)} {n : Nat} (h : n < l.length) : getAt (stkD l) (n : Int) = .ok (.tup [sD l[n].1, .int l[n].2]) := at_nat (by
  unfold stkD
  rw [List.getElem?_map, List.getElem?_eq_getElem h]
  rfl)
theorem ints_of : ∀ l : List Int, intsOf (l.map D.int) = some l
  | [] => rfl
  | x :: l => by
    rw [List.map_cons, intsOf, ints_of l]
    rfl
theorem bi_sum {l : List Int} : biD .sum [.lst (l.map D.int)] = .ok (.int l.sum) := by
  show (match intsOf (l.map D.int) with
    | some is => R.ok (D.int is.sum)
    | none => .bad) = _
  rw [ints_of]
/-- a row: numbers of a stock's steps -/
def rwD (r : List Nat) : List D := r.map fun (n : Nat) => D.int (n : Int)
theorem rw_len (r : List Nat) : (rwD r).length = r.length := List.length_map ..
theorem rw_at {r : List Nat} {i : Nat} (h : i < r.length) : getAt (rwD r) (i : Int) = .ok (.int (r[i] : Nat)) := at_nat (by
  unfold rwD
  rw [List.getElem?_map, List.getElem?_eq_getElem h]
  rfl)
def prc (l : List (Stp × Int)) (n : Nat) : Int := (l.getD n ((0, 0, 0), 0)).2
def priceF (l : List (Stp × Int)) (r : List Nat) : Int := (r.map (prc l)).sum
def stf (l : List (Stp × Int)) (n : Nat) : Stp := (l.getD n ((0, 0, 0), 0)).1
def dnS (p : Int × Int) (s : Stp) (f : List Int) : List Int := dn p s.1 s.2.1 s.2.2 f
def rowF (p : Int × Int) (l : List (Stp × Int)) (r : List Nat) (f : List Int) : List Int := r.foldl (fun f n => dnS p (stf l n) f) f
theorem rowF_mem {p : Int × Int} {l : List (Stp × Int)} : ∀ {r : List Nat} {f : List Int}, f ∈ FS p → rowF p l r f ∈ FS p
  | [], f, h => h
  | n :: r, f, h => rowF_mem (r := r) (dn_mem h)
theorem stk_get {l : List (Stp × Int)} {n : Nat} (h : n < l.length) : getAt (stkD l) (n : Int) = .ok (.tup [sD (stf l n), .int (prc l n)]) := by
  rw [stk_at h]
  unfold stf prc
  rw [List.getD_eq_getElem?_getD, List.getElem?_eq_getElem h]
  rfl
theorem stk_ok {p : Int × Int} {l : List (Stp × Int)} (hl : stkOk p l) {n : Nat} (h : n < l.length) : sOk p (stf l n) ∧ 1 ≤ prc l n ∧ prc l n ≤ 9 := by
  have := hl l[n] (List.getElem_mem h)
  unfold stf prc
  rw [List.getD_eq_getElem?_getD, List.getElem?_eq_getElem h]
  exact this
theorem at_2 {x y : D} {z : Int} (h0 : 0 ≤ z) (h1 : z < 2) : getAt [x, y] z = .ok (if z = 0 then x else y) := by
  rcases (show z = 0 ∨ z = 1 by omega) with rfl | rfl <;> rfl
theorem row_inv {r : List Nat} {i : Nat} {x : D} (h : (rwD r)[i]? = some x) : ∃ n, r[i]? = some n ∧ n ∈ r ∧ x = .int (n : Nat) := by
  unfold rwD at h
  exact nat_inv h
theorem row_cut {r : List Nat} {m : Nat} (h : m ≤ r.length) : cutD (rwD r) none (some (m : Int)) = rwD (r.take m) := by
  unfold cutD
  rw [show HT.sIx (rwD r).length 0 none = 0 from rfl, show HT.sIx (rwD r).length (rwD r).length (some (m : Int)) = m from by
    unfold HT.sIx
    simp only [rw_len]
    rw [if_neg (by omega)]
    omega]
  unfold rwD
  rw [Nat.sub_zero, List.drop_zero, List.map_take]
theorem bsum_snoc {k : Nat} {a c p : Int} : ∀ {ps : List Int} {m : Int}, bsum k a c (ps ++ [p]) m = bsum k a c ps m + p * bf k (a / p % 2) (c / p % 2)
  | [], m => rfl
  | q :: ps, m => bsum_snoc (ps := ps)
theorem pws_succ {n : Nat} (h : n < 7) : pws (n + 1) = pws n ++ [((2 ^ n : Nat) : Int)] := by
  rcases (show n = 0 ∨ n = 1 ∨ n = 2 ∨ n = 3 ∨ n = 4 ∨ n = 5 ∨ n = 6 by omega) with rfl | rfl | rfl | rfl | rfl | rfl | rfl <;> rfl
theorem word_bits {p : Int × Int} (hp : isSz p) {k : Nat} (hk : k < 3) {a c : Int} (ha : 0 ≤ a ∧ a < ((2 ^ p.1.toNat : Nat) : Int)) (hc : 0 ≤ c ∧ c < ((2 ^ p.1.toNat : Nat) : Int)) : bsum k a c (pws p.1.toNat) 0 = mkW k a c 0 % ((2 ^ p.1.toNat : Nat) : Int) := by
  obtain ⟨z1, z2, z3, z4⟩ := sz_rng hp
  have b := bits_ok p.1.toNat (by omega) k hk a.toNat (by omega) c.toNat (by omega)
  rwa [show ((a.toNat : Nat) : Int) = a by omega, show ((c.toNat : Nat) : Int) = c by omega] at b
theorem wi_m {i : Nat} {is : List Nat} {σ : Sg} : wipeT (.many (i :: is)) σ = wipeT (.many is) (σ.set i none) := nr rfl
theorem wi_mn {σ : Sg} : wipeT (.many []) σ = σ := nr rfl
theorem row_of {m : Nat} (hm : 0 < m) (xs : List Int) : ∃ r : List Nat, r.length = xs.length ∧ (∀ n ∈ r, n < m) ∧ compL (fun x => (binD .Mod x (.int (m : Int))).bind fun y => R.ok (some y)) (xs.map D.int) = .ok (rwD r) := by
  have hm' : (0 : Int) < m := by omega
  refine ⟨xs.map fun x => (x % (m : Int)).toNat, List.length_map .., fun n hn => ?_, ?_⟩
  · obtain ⟨x, _, rfl⟩ := List.mem_map.mp hn
    have h1 := Int.emod_nonneg x (show (m : Int) ≠ 0 by omega)
    have h2 := Int.emod_lt_of_pos x hm'
    omega
  · induction xs with
    | nil => rfl
    | cons x xs ih =>
      have h1 := Int.emod_nonneg x (show (m : Int) ≠ 0 by omega)
      rw [List.map_cons, compL, ih, bn_mod' hm']
      show R.ok (D.int (x % (m : Int)) :: _) = R.ok (D.int (((x % (m : Int)).toNat : Nat) : Int) :: _)
      rw [show (((x % (m : Int)).toNat : Nat) : Int) = x % (m : Int) by omega]
      rfl
theorem rowF_next {p : Int × Int} {l : List (Stp × Int)} {r : List Nat} {f : List Int} {i : Nat} (h : i < r.length) : rowF p l (r.take (i + 1)) f = dnS p (stf l r[i]) (rowF p l (r.take i) f) := by
  unfold rowF
  rw [List.take_succ_eq_append_getElem h, List.foldl_append]
  rfl
theorem rowF_all {p : Int × Int} {l : List (Stp × Int)} {r : List Nat} {f : List Int} {i : Nat} (h : r.length ≤ i) : rowF p l (r.take i) f = rowF p l r f := by
  rw [List.take_of_length_le h]
theorem compL_fs {f : D → R (Option D)} (g : List Int → List Int) : ∀ A : List (List Int), (∀ a ∈ A, f (tp a) = .ok (some (tp (g a)))) → compL f (fs A) = .ok (fs (A.map g))
  | [], _ => rfl
  | a :: A, h => by
    show compL f (tp a :: fs A) = _
    rw [compL, h a (List.mem_cons_self ..), ok_bind, compL_fs g A fun x hx => h x (List.mem_cons_of_mem _ hx)]
    rfl
/-- what a row makes of all fillings -/
def tabF (p : Int × Int) (l : List (Stp × Int)) (r : List Nat) : List (List Int) := (FS p).map (rowF p l r)
theorem tabF_len {p : Int × Int} {l : List (Stp × Int)} {r : List Nat} : (tabF p l r).length = (FS p).length := List.length_map ..
theorem tabF_mem {p : Int × Int} {l : List (Stp × Int)} {r : List Nat} : ∀ f ∈ tabF p l r, f ∈ FS p := fun f hf => by
  obtain ⟨g, hg, rfl⟩ := List.mem_map.mp hf
  exact rowF_mem hg
end Ev

/-! Part Q: tables, numbers of fillings. -/
namespace Ev
open PySem PySem.Spec PyProof.Rows L2
theorem can_ft (ls : List (List Int)) : (D.tup (fs ls)).toP.canLay0 = true := by
  rw [D.toP, PyData.canLay0, fs, toPs_map]
  exact canAll can_tp ls
theorem dep_ft (ls : List (List Int)) : (D.tup (fs ls)).toP.depth ≤ 2 := by
  rw [D.toP, PyData.depth, fs, toPs_map]
  have := depAll dep_tp ls
  omega
theorem sh_ft (ls : List (List Int)) : (D.tup (fs ls)).shaped = true := sh_of (can_ft ls) (dep_ft ls)
theorem eqv_ft (a b : List (List Int)) : (D.tup (fs a)).eqv (.tup (fs b)) = decide (a = b) := by
  show PyData.eqv _ _ = _
  rw [D.toP, D.toP, PyData.eqv, fs, fs, toPs_map, toPs_map]
  exact eqvAll_map (fun x y => eqv_tp x y) a b
theorem cm_eqft (a b : List (List Int)) : cmpD .Eq (.tup (fs a)) (.tup (fs b)) = .ok (decide (a = b)) := by
  rw [cm_eqg (sh_ft a) (sh_ft b), eqv_ft]
theorem cm_neg {a b : D} (ha : a.shaped = true) (hb : b.shaped = true) : cmpD .NotEq a b = .ok (!a.eqv b) := by
  show (chk (a.shaped && b.shaped)).bind (fun _ => R.ok (!a.eqv b)) = _
  rw [ha, hb]
  rfl
theorem cm_neft (a b : List (List Int)) : cmpD .NotEq (.tup (fs a)) (.tup (fs b)) = .ok (!decide (a = b)) := by
  rw [cm_neg (sh_ft a) (sh_ft b), eqv_ft]
/-! ### a filling's number -/
def numF (p : Int × Int) (f : List Int) : Nat := f.foldl (fun n w => n * 2 ^ p.1.toNat + w.toNat) 0
theorem num_at {p : Int × Int} (h : isSz p) : ∀ f ∈ FS p, (FS p)[numF p f]? = some f := by
  unfold isSz at h
  simp only [List.mem_cons, List.mem_nil_iff, or_false] at h
  rcases h with rfl | rfl | rfl | rfl | rfl | rfl | rfl | rfl | rfl | rfl | rfl | rfl | rfl | rfl <;> decide +kernel
theorem num_of {p : Int × Int} (h : isSz p) : ∀ i ∈ List.range (FS p).length, numF p ((FS p).getD i []) = i := by
  unfold isSz at h
  simp only [List.mem_cons, List.mem_nil_iff, or_false] at h
  rcases h with rfl | rfl | rfl | rfl | rfl | rfl | rfl | rfl | rfl | rfl | rfl | rfl | rfl | rfl <;> decide +kernel
theorem num_lt {p : Int × Int} (h : isSz p) {f : List Int} (hf : f ∈ FS p) : numF p f < (FS p).length := (List.getElem?_eq_some_iff.mp (num_at h f hf)).1
theorem num_inj {p : Int × Int} (h : isSz p) {i : Nat} {f : List Int} (e : (FS p)[i]? = some f) : numF p f = i := by
  have hi := (List.getElem?_eq_some_iff.mp e).1
  have := num_of h i (List.mem_range.mpr hi)
  rw [List.getD_eq_getElem?_getD, e] at this
  exact this
theorem ix_fs {f : List Int} : ∀ {A : List (List Int)} {i : Nat}, A[i]? = some f → (∀ j, A[j]? = some f → j = i) → ∀ n, findE (tp f) (fs A) n = some (n + i)
  | [], i, h, _, n => by simp at h
  | a :: A, i, h, u, n => by
    show (if (tp a).eqv (tp f) then some n else findE (tp f) (fs A) (n + 1)) = _
    rw [eqv_tp]
    by_cases e : a = f
    · subst e
      have : 0 = i := u 0 rfl
      subst this
      simp
    · rw [if_neg (by simpa using e)]
      cases i with
      | zero =>
        simp at h
        exact absurd h e
      | succ i =>
        rw [ix_fs (A := A) (i := i) (by simpa using h) (fun j hj => by
          have := u (j + 1) (by simpa using hj)
          omega) (n + 1)]
        congr 1
        omega
theorem mth_ix {p : Int × Int} (h : isSz p) {f : List Int} (hf : f ∈ FS p) : mthD .index (.lst (fs (FS p))) [tp f] = .ok (.int (numF p f : Nat)) := by
  show (chk ((tp f).shaped && (D.lst (fs (FS p))).shaped)).bind (fun _ => match findE (tp f) (fs (FS p)) 0 with
    | some j => R.ok (D.int j)
    | none => .bad) = _
  rw [sh_tp, sh_fs, ix_fs (num_at h f hf) (fun j hj => (num_inj h hj).symm), Nat.zero_add]
  rfl
/-! ### tables behind one another -/
def behF (p : Int × Int) (one other : List (List Int)) : List (List Int) := one.map fun f => other.getD (numF p f) []
theorem getD_some {α : Type} {xs : List α} {i : Nat} {d : α} (h : i < xs.length) : xs[i]? = some (xs.getD i d) := by
  rw [List.getD_eq_getElem?_getD, List.getElem?_eq_getElem h]
  rfl
theorem getD_mem {α : Type} {xs : List α} {i : Nat} {d : α} (h : i < xs.length) : xs.getD i d ∈ xs := List.mem_of_getElem? (getD_some h)
theorem behF_len {p : Int × Int} {one other : List (List Int)} : (behF p one other).length = one.length := List.length_map ..
theorem behF_mem {p : Int × Int} (hp : isSz p) {one other : List (List Int)} (h1 : ∀ f ∈ one, f ∈ FS p) (h2 : other.length = (FS p).length) (h3 : ∀ f ∈ other, f ∈ FS p) : ∀ f ∈ behF p one other, f ∈ FS p := fun f hf => by
  obtain ⟨g, hg, rfl⟩ := List.mem_map.mp hf
  exact h3 _ (getD_mem (by rw [h2]; exact num_lt hp (h1 g hg)))
theorem map_getD {α β : Type} {xs : List α} {f : α → β} {i : Nat} {d : α} {d' : β} (h : i < xs.length) : (xs.map f).getD i d' = f (xs.getD i d) := by
  rw [List.getD_eq_getElem?_getD, List.getD_eq_getElem?_getD, List.getElem?_map, List.getElem?_eq_getElem h]
  rfl
theorem behF_assoc {p : Int × Int} (hp : isSz p) {a b c : List (List Int)} (h1 : ∀ f ∈ a, f ∈ FS p) (h2 : b.length = (FS p).length) : behF p (behF p a b) c = behF p a (behF p b c) := by
  unfold behF
  rw [List.map_map]
  refine List.map_congr_left fun f hf => ?_
  show c.getD (numF p (b.getD (numF p f) [])) [] = (b.map fun f => c.getD (numF p f) []).getD (numF p f) []
  rw [map_getD (d := []) (by rw [h2]; exact num_lt hp (h1 f hf))]
theorem FS_getD {p : Int × Int} (hp : isSz p) {f : List Int} (hf : f ∈ FS p) : (FS p).getD (numF p f) [] = f := by
  rw [List.getD_eq_getElem?_getD, num_at hp f hf]
  rfl
theorem behF_tab {p : Int × Int} (hp : isSz p) {l : List (Stp × Int)} {r s : List Nat} : behF p (tabF p l r) (tabF p l s) = tabF p l (r ++ s) := by
  unfold behF tabF
  rw [List.map_map]
  refine List.map_congr_left fun f hf => ?_
  have hm : rowF p l r f ∈ FS p := rowF_mem hf
  show ((FS p).map (rowF p l s)).getD (numF p (rowF p l r f)) [] = rowF p l (r ++ s) f
  rw [map_getD (d := []) (num_lt hp hm), FS_getD hp hm]
  unfold rowF
  rw [List.foldl_append]
theorem behF_none {p : Int × Int} (hp : isSz p) {a : List (List Int)} (h : ∀ f ∈ a, f ∈ FS p) : behF p a (FS p) = a := by
  unfold behF
  rw [show a = a.map id from (List.map_id a).symm, List.map_map]
  exact List.map_congr_left fun f hf => FS_getD hp (h f hf)
theorem behF_none' {p : Int × Int} (hp : isSz p) {a : List (List Int)} (h : a.length = (FS p).length) : behF p (FS p) a = a := by
  apply List.ext_getElem?
  intro i
  unfold behF
  rw [List.getElem?_map]
  by_cases hi : i < (FS p).length
  · rw [List.getElem?_eq_getElem hi]
    show some (a.getD (numF p (FS p)[i]) []) = a[i]?
    rw [num_inj hp (List.getElem?_eq_getElem hi), getD_some (show i < a.length by omega)]
  · rw [List.getElem?_eq_none_iff.mpr (by omega), List.getElem?_eq_none_iff.mpr (by omega)]
    rfl
/-! ### each second item -/
theorem filterMap_map' {α β : Type} (f : α → β) (xs : List α) : ∀ is : List Nat, is.filterMap ((xs.map f)[·]?) = (is.filterMap (xs[·]?)).map f
  | [] => rfl
  | i :: is => by
    cases e : xs[i]? with
    | none => rw [List.filterMap_cons_none (by rw [List.getElem?_map, e]; rfl), List.filterMap_cons_none e, filterMap_map' f xs is]
    | some x => rw [List.filterMap_cons_some (b := f x) (by rw [List.getElem?_map, e]; rfl), List.filterMap_cons_some e, filterMap_map' f xs is]; rfl
theorem pick_map {α β : Type} (f : α → β) (xs : List α) (o : Option Int) : pickE (xs.map f) o = (pickE xs o).map f := by
  unfold pickE
  rw [List.length_map]
  exact filterMap_map' f xs _
theorem pick_len {α : Type} (xs : List α) (o : Option Int) : (pickE xs o).length ≤ xs.length := by
  refine Nat.le_trans (List.length_filterMap_le _ _) (sliceRange_length_le _ _ _ _ (fun hc => ?_) fun hc => ?_)
  · simp only [sliceBounds] at hc ⊢
    simp only [hc, if_true]
    constructor
    · cases o with
      | none => simp
      | some i => dsimp only; omega
    · simp
  · exact absurd (show (sliceBounds o none (some 2) xs.length).2.2 > 0 from (by show (2 : Int) > 0; decide)) hc
theorem pure_ints : ∀ xs : List Int, pureAll (xs.map D.int) = true
  | [] => rfl
  | x :: xs => pure_ints xs
theorem rngOk_3 : rngOk 0 3 = true := by decide +kernel
theorem rngD_3 : rngD 0 3 = [.int 0, .int 1, .int 2] := nr rfl
theorem cl_n {f : D → R (Option D)} : compL f [] = .ok [] := nr rfl
theorem cl_c {f : D → R (Option D)} {x : D} {r : List D} : compL f (x :: r) = (f x).bind fun o => (compL f r).bind fun ys => match o with
    | some y => .ok (y :: ys)
    | none => .ok ys := nr rfl
theorem compL_rng {f : D → R (Option D)} (Pr : Int → Prop) : ∀ (n : Nat) (a : Int), (∀ i : Int, a ≤ i → i < a + n → ∃ x, Pr x ∧ f (.int i) = .ok (some (.int x))) → ∃ l : List Int, l.length = n ∧ (∀ x ∈ l, Pr x) ∧ compL f (rngD a n) = .ok (l.map D.int)
  | 0, a, h => ⟨[], rfl, (fun x h => nomatch h), rfl⟩
  | n + 1, a, h => by
    obtain ⟨x, px, ex⟩ := h a (by omega) (by omega)
    obtain ⟨l, l1, l2, l3⟩ := compL_rng Pr n (a + 1) fun i h1 h2 => h i (by omega) (by omega)
    refine ⟨x :: l, by rw [List.length_cons, l1], fun y hy => ?_, ?_⟩
    · rcases List.mem_cons.mp hy with rfl | hy
      · exact px
      · exact l2 y hy
    · rw [rngD, cl_c, ex, ok_bind, l3]
      rfl
theorem cut_last {α : Type} {xs : List α} {y : α} : cutD (xs ++ [y]) none (some (-1)) = xs := by
  unfold cutD
  rw [show HT.sIx (xs ++ [y]).length 0 none = 0 from rfl, show HT.sIx (xs ++ [y]).length (xs ++ [y]).length (some (-1)) = xs.length from by
    show (if (-1 : Int) < 0 then ((-1 : Int) + ((xs ++ [y]).length : Int)).toNat else min (-1 : Int).toNat (xs ++ [y]).length) = xs.length
    rw [if_pos (by decide), List.length_append, List.length_singleton]
    omega]
  rw [Nat.sub_zero, List.drop_zero, List.take_left]
end Ev

/-! Part R: which row is less. -/
namespace Ev
open PySem PySem.Spec PyProof.Rows L2
def rI (r : List Nat) : List Int := r.map fun (n : Nat) => (n : Int)
theorem rw_tp (r : List Nat) : D.tup (rwD r) = tp (rI r) := by
  unfold tp rI rwD
  rw [List.map_map]
  rfl
theorem rI_inj : ∀ {r s : List Nat}, rI r = rI s → r = s
  | [], [], _ => rfl
  | [], _ :: _, h => by cases h
  | _ :: _, [], h => by cases h
  | a :: r, b :: s, h => by
    have h' : (a : Int) :: rI r = (b : Int) :: rI s := h
    injection h' with h1 h2
    rw [rI_inj h2, show a = b by omega]
theorem eq_rw (r s : List Nat) : decide (rI r = rI s) = decide (r = s) := by
  by_cases h : r = s
  · subst h
    simp
  · rw [decide_eq_false h, decide_eq_false fun e => h (rI_inj e)]
theorem cm_nerw (r s : List Nat) : cmpD .NotEq (.tup (rwD r)) (.tup (rwD s)) = .ok (!decide (r = s)) := by
  rw [rw_tp, rw_tp, cm_net, eq_rw]
/-- numbers one by one -/
def lexN : List Nat → List Nat → Bool
  | x :: xs, y :: ys => if x = y then lexN xs ys else decide (x < y)
  | _, _ => false
theorem lexN_lt : ∀ {r s : List Nat}, r.length = s.length → decide (rI r < rI s) = lexN r s
  | [], [], _ => by simp [rI, lexN]
  | [], _ :: _, h => by simp at h
  | _ :: _, [], h => by simp at h
  | a :: r, b :: s, h => by
    have ih := lexN_lt (r := r) (s := s) (by simpa using h)
    show decide ((a : Int) :: rI r < (b : Int) :: rI s) = if a = b then lexN r s else decide (a < b)
    by_cases e : a = b
    · rw [if_pos e, ← ih]
      simp [e, List.cons_lt_cons_iff]
    · rw [if_neg e]
      have e' : ¬ (a : Int) = b := by omega
      simp [e', List.cons_lt_cons_iff]
theorem lexN_snoc {m : Nat} : ∀ {r s : List Nat}, r.length = s.length → lexN (r ++ [m]) (s ++ [m]) = lexN r s
  | [], [], _ => by simp [lexN]
  | [], _ :: _, h => by simp at h
  | _ :: _, [], h => by simp at h
  | a :: r, b :: s, h => by
    show (if a = b then lexN (r ++ [m]) (s ++ [m]) else decide (a < b)) = if a = b then lexN r s else decide (a < b)
    rw [lexN_snoc (by simpa using h)]
theorem lexN_turn : ∀ {r s : List Nat}, r.length = s.length → r ≠ s → lexN s r = !lexN r s
  | [], [], _, h => absurd rfl h
  | [], _ :: _, h, _ => by simp at h
  | _ :: _, [], h, _ => by simp at h
  | a :: r, b :: s, h, n => by
    show (if b = a then lexN s r else decide (b < a)) = !if a = b then lexN r s else decide (a < b)
    by_cases e : a = b
    · subst e
      rw [if_pos rfl, if_pos rfl]
      exact lexN_turn (by simpa using h) fun e => n (by rw [e])
    · rw [if_neg e, if_neg fun e' => e e'.symm]
      by_cases q : a < b
      · rw [decide_eq_true q, decide_eq_false (by omega)]
        rfl
      · rw [decide_eq_false q, decide_eq_true (by omega)]
        rfl
def lessF (l : List (Stp × Int)) (r s : List Nat) : Bool := if priceF l r = priceF l s then (if r.length = s.length then lexN r s else decide (r.length < s.length)) else decide (priceF l r < priceF l s)
theorem price_snoc {l : List (Stp × Int)} {r : List Nat} {m : Nat} : priceF l (r ++ [m]) = priceF l r + prc l m := by
  unfold priceF
  rw [List.map_append, List.sum_append]
  simp
theorem less_snoc {l : List (Stp × Int)} {r s : List Nat} {m : Nat} : lessF l (r ++ [m]) (s ++ [m]) = lessF l r s := by
  unfold lessF
  rw [price_snoc, price_snoc, List.length_append, List.length_append]
  by_cases h : priceF l r = priceF l s
  · rw [if_pos (by omega), if_pos h]
    by_cases k : r.length = s.length
    · rw [if_pos (by omega), if_pos k, lexN_snoc k]
    · rw [if_neg (by omega), if_neg k]
      simp
  · rw [if_neg (by omega), if_neg h]
    by_cases q : priceF l r < priceF l s
    · rw [decide_eq_true q, decide_eq_true (by omega)]
    · rw [decide_eq_false q, decide_eq_false (by omega)]
theorem less_turn {l : List (Stp × Int)} {r s : List Nat} (n : r ≠ s) : lessF l s r = !lessF l r s := by
  unfold lessF
  by_cases h : priceF l r = priceF l s
  · rw [if_pos h.symm, if_pos h]
    by_cases k : r.length = s.length
    · rw [if_pos k.symm, if_pos k, lexN_turn k n]
    · rw [if_neg (by omega), if_neg k]
      by_cases q : r.length < s.length
      · rw [decide_eq_true q, decide_eq_false (by omega)]
        rfl
      · rw [decide_eq_false q, decide_eq_true (by omega)]
        rfl
  · rw [if_neg (by omega), if_neg h]
    by_cases q : priceF l r < priceF l s
    · rw [decide_eq_true q, decide_eq_false (by omega)]
      rfl
    · rw [decide_eq_false q, decide_eq_true (by omega)]
      rfl
/-! ### the order of (price, number of steps, row) -/
theorem toPs_rw (r : List Nat) : toPs (rwD r) = (rI r).map PyData.int := by
  unfold rwD rI
  rw [toPs_map, List.map_map]
  rfl
def keyD (a : Int) (n : Nat) (r : List Nat) : D := .tup [.int a, .int n, .tup (rwD r)]
theorem key_toP (a : Int) (n : Nat) (r : List Nat) : (keyD a n r).toP = .tuple [.int a, .int (n : Int), .tuple ((rI r).map .int)] := by
  unfold keyD
  rw [D.toP, toPs, toPs, toPs, toPs, D.toP, D.toP, D.toP, toPs_rw]
theorem can_is : ∀ r : List Int, PyData.canLayAll0 (r.map PyData.int) = true
  | [] => rfl
  | x :: r => can_is r
theorem sh_key (a : Int) (n : Nat) (r : List Nat) : (keyD a n r).shaped = true := by
  refine sh_of (n := 2) ?_ ?_
  · rw [key_toP]
    show (true && (true && (PyData.canLayAll0 ((rI r).map PyData.int) && true))) = true
    rw [can_is]
    rfl
  · rw [key_toP]
    simp only [PyData.depth, PyData.depthAll, PySem.W.depth_ints]
    decide
theorem alike_key (a b : Int) (n m : Nat) (r s : List Nat) : PySem.W.alike (keyD a n r).toP (keyD b m s).toP = true := by
  rw [key_toP, key_toP]
  simp only [PySem.W.alike, PySem.W.alikeAll, PySem.W.alike_ints, Bool.and_self]
theorem lt_key (a b : Int) (r s : List Nat) : ltD (keyD a r.length r) (keyD b s.length s) = .ok (if a = b then (if r.length = s.length then lexN r s else decide (r.length < s.length)) else decide (a < b)) := by
  show (match intsOf [D.int a, .int (r.length : Int), .tup (rwD r)], intsOf [D.int b, .int (s.length : Int), .tup (rwD s)] with
    | some is, some js => R.ok (HT.lexLt is js)
    | _, _ => (chk ((keyD a r.length r).shaped && ((keyD b s.length s).shaped && PySem.W.alike (keyD a r.length r).toP (keyD b s.length s).toP))).bind fun _ => R.ok (PySem.W.dataLt (keyD a r.length r).toP (keyD b s.length s).toP)) = _
  rw [sh_key, sh_key, alike_key]
  show R.ok (PySem.W.dataLt (keyD a r.length r).toP (keyD b s.length s).toP) = _
  congr 1
  rw [key_toP, key_toP, PySem.W.dataLt_tuple, PySem.W.dataLt_cons (by simp [PySem.W.alike]), PySem.W.dataLt_cons (by simp [PySem.W.alike]), PySem.W.dataLt_cons (by simp only [PySem.W.alike, PySem.W.alike_ints]), PySem.W.dataLt_int, PySem.W.dataLt_int, PySem.W.dataLt_tuple]
  have e0 : PyProof.Rows.lexLt itemOrd (PySem.W.keyToksAll []) (PySem.W.keyToksAll []) = false := lex_irrefl _
  have e1 : PyProof.Rows.lexLt itemOrd (PySem.W.keyToksAll ((rI r).map .int)) (PySem.W.keyToksAll ((rI s).map .int)) = decide (rI r < rI s) := PySem.W.dataLt_ints (rI r) (rI s)
  have e2 : PyData.eqv (.tuple ((rI r).map PyData.int)) (.tuple ((rI s).map PyData.int)) = decide (rI r = rI s) := by
    rw [PyData.eqv]
    exact eqvAll_map (fun x y => by rw [PyData.eqv]; rfl) _ _
  have e3 : ∀ x y : Int, PyData.eqv (.int x) (.int y) = decide (x = y) := fun x y => by rw [PyData.eqv]; rfl
  rw [e0, e1, e2, e3, e3]
  by_cases h : a = b
  · rw [if_pos (decide_eq_true h), if_pos h]
    by_cases k : r.length = s.length
    · rw [if_pos (decide_eq_true (by omega)), if_pos k, lexN_lt k]
      by_cases q : rI r = rI s
      · rw [if_pos (decide_eq_true q), ← lexN_lt k, q]
        simp
      · rw [if_neg fun z => q (of_decide_eq_true z)]
    · rw [if_neg fun z => k (by have := of_decide_eq_true z; omega), if_neg k]
      by_cases q : r.length < s.length
      · rw [decide_eq_true q, decide_eq_true (by omega)]
      · rw [decide_eq_false q, decide_eq_false (by omega)]
  · rw [if_neg fun z => h (of_decide_eq_true z), if_neg h]
/-! ### pairs of price and number, sorted -/
def pnD (l : List (Stp × Int)) (n : Nat) : D := .tup [.int (prc l n), .int (n : Int)]
def lePN (l : List (Stp × Int)) (a b : Nat) : Bool := decide (prc l a < prc l b ∨ (prc l a = prc l b ∧ a ≤ b))
theorem pn_toP (l : List (Stp × Int)) (n : Nat) : (pnD l n).toP = .tuple [.int (prc l n), .int (n : Int)] := rfl
theorem pn_le (l : List (Stp × Int)) (a b : Nat) : lePN l a b = leD (pnD l a) (pnD l b) := by
  unfold leD lePN
  rw [pn_toP, pn_toP, PySem.W.dataLt_ii]
  by_cases h : prc l b < prc l a ∨ (prc l b = prc l a ∧ (b : Int) < a)
  · rw [decide_eq_true h, decide_eq_false (by omega)]
    rfl
  · rw [decide_eq_false h, decide_eq_true (by omega)]
    rfl
theorem pn_sortable (l : List (Stp × Int)) (is : List Nat) (h : is.length ≤ 1000) : sortable (is.map (pnD l)) = true := by
  unfold sortable
  have t : ∀ n, tup1 (pnD l n) = true := fun n => by
    show ((pnD l n).pure && ((pnD l n).shaped && decide ((pnD l n).toP.depth ≤ 60))) = true
    rw [show (pnD l n).pure = true from rfl, show (pnD l n).shaped = true from sh_tp [prc l n, (n : Int)], decide_eq_true (by have := dep_tp [prc l n, (n : Int)]; exact Nat.le_trans this (by decide))]
    rfl
  rw [Bool.and_eq_true, Bool.and_eq_true]
  refine ⟨List.all_eq_true.mpr fun x hx => ?_, decide_eq_true (by rw [List.length_map]; show _ ≤ sizeLine; rw [sizeLine_eq]; omega), List.all_eq_true.mpr fun x hx => List.all_eq_true.mpr fun y hy => ?_⟩
  · obtain ⟨n, _, rfl⟩ := List.mem_map.mp hx
    exact t n
  · obtain ⟨n, _, rfl⟩ := List.mem_map.mp hx
    obtain ⟨m, _, rfl⟩ := List.mem_map.mp hy
    rw [pn_toP, pn_toP]
    simp [PySem.W.alike, PySem.W.alikeAll]
/-- the cheapest one and the dearest one -/
theorem pn_sorted {l : List (Stp × Int)} (l0 : 0 < l.length) (l1 : l.length ≤ 1000) : ∃ (S : List D) (c d : Nat), biD .sorted [.lst ((List.range l.length).map (pnD l))] = .ok (.lst S) ∧ getAt S 0 = .ok (pnD l c) ∧ getAt S (-1) = .ok (pnD l d) ∧ c < l.length ∧ d < l.length ∧ prc l c ≤ prc l d := by
  have hs : ((List.range l.length).mergeSort (lePN l)).map (pnD l) = ((List.range l.length).map (pnD l)).mergeSort leD := List.map_mergeSort fun a _ b _ => pn_le l a b
  have pw := List.pairwise_mergeSort (le := lePN l) (fun a b c h h' => by
    unfold lePN at h h' ⊢
    simp only [decide_eq_true_eq] at h h' ⊢
    omega) (fun a b => by
    unfold lePN
    simp only [Bool.or_eq_true, decide_eq_true_eq]
    omega) (List.range l.length)
  have len : ((List.range l.length).mergeSort (lePN l)).length = l.length := by rw [List.length_mergeSort, List.length_range]
  have mem : ∀ n ∈ (List.range l.length).mergeSort (lePN l), n < l.length := fun n hn => List.mem_range.mp ((List.mem_mergeSort).mp hn)
  generalize hZ : (List.range l.length).mergeSort (lePN l) = Z at *
  have e : biD .sorted [.lst ((List.range l.length).map (pnD l))] = .ok (.lst (Z.map (pnD l))) := by
    show (match intsOf ((List.range l.length).map (pnD l)) with
      | some is => R.ok (D.lst ((is.mergeSort (fun a b => decide (a ≤ b))).map D.int))
      | none => (chk (sortable ((List.range l.length).map (pnD l)))).bind fun _ => R.ok (D.lst (((List.range l.length).map (pnD l)).mergeSort leD))) = _
    have n : intsOf ((List.range l.length).map (pnD l)) = none := by
      cases q : l.length with
      | zero => omega
      | succ k =>
        rw [List.range_succ_eq_map]
        rfl
    rw [n, pn_sortable l _ (by rw [List.length_range]; exact l1), ← hs]
    rfl
  have h0 : 0 < Z.length := by omega
  refine ⟨Z.map (pnD l), Z[0], Z[Z.length - 1], e, ?_, ?_, mem _ (List.getElem_mem _), mem _ (List.getElem_mem _), ?_⟩
  · have := at_nat (xs := Z.map (pnD l)) (n := 0) (x := pnD l Z[0]) (by rw [List.getElem?_map, List.getElem?_eq_getElem h0]; rfl)
    simpa using this
  · have len2 : (Z.map (pnD l)).length = Z.length := List.length_map ..
    have e2 : ixN (Z.map (pnD l)).length (-1) = some (Z.length - 1) := by
      unfold ixN
      rw [if_neg (by decide), if_pos (by omega)]
      congr 1
      omega
    unfold getAt atI
    rw [e2]
    rw [Option.bind_some, List.getElem?_map, List.getElem?_eq_getElem (show Z.length - 1 < Z.length by omega)]
    rfl
  · by_cases k : Z.length = 1
    · have : Z[Z.length - 1] = Z[0] := by
        congr 1
        omega
      rw [this]
      exact Int.le_refl _
    · have := List.pairwise_iff_getElem.mp pw 0 (Z.length - 1) h0 (by omega) (by omega)
      unfold lePN at this
      simp only [decide_eq_true_eq] at this
      omega
/-! ### pieces of rows -/
theorem cut_map {α β : Type} (f : α → β) (xs : List α) (a b : Option Int) : cutD (xs.map f) a b = (cutD xs a b).map f := by
  unfold cutD
  rw [List.length_map, ← List.map_drop, ← List.map_take]
theorem rw_cut (r : List Nat) (a b : Option Int) : cutD (rwD r) a b = rwD (cutD r a b) := cut_map _ r a b
theorem rw_rev (r : List Nat) : (rwD r).reverse = rwD r.reverse := List.map_reverse.symm
theorem rw_app (r s : List Nat) : rwD r ++ rwD s = rwD (r ++ s) := (List.map_append ..).symm
theorem cut_sub {α : Type} {xs : List α} {a b : Option Int} {x : α} (h : x ∈ cutD xs a b) : x ∈ xs := List.mem_of_mem_drop (List.mem_of_mem_take h)
theorem cut_le {α : Type} (xs : List α) (a b : Option Int) : (cutD xs a b).length ≤ xs.length := by
  unfold cutD
  rw [List.length_take, List.length_drop]
  omega
theorem rw_rep (n k : Nat) : (List.replicate k [D.int (n : Int)]).flatten = rwD (List.replicate k n) := by
  induction k with
  | zero => rfl
  | succ k ih =>
    rw [List.replicate_succ, List.flatten_cons, ih, List.replicate_succ]
    rfl
/-- a row of a stock's numbers -/
def isRw (l : List (Stp × Int)) (k : Nat) (d : D) : Prop := ∃ r : List Nat, d = .tup (rwD r) ∧ r.length ≤ k ∧ ∀ n ∈ r, n < l.length
section
variable {l : List (Stp × Int)} {k m : Nat} {xs ys : List D}
theorem isRw.len (h : isRw l k (.tup xs)) : xs.length ≤ k := by
  obtain ⟨r, e, h1, _⟩ := h
  cases e
  rw [rw_len]
  exact h1
theorem isRw.cut (h : isRw l k (.tup xs)) (a b : Option Int) : isRw l k (.tup (cutD xs a b)) := by
  obtain ⟨r, e, h1, h2⟩ := h
  cases e
  exact ⟨cutD r a b, by rw [rw_cut], Nat.le_trans (cut_le r a b) h1, fun n hn => h2 n (cut_sub hn)⟩
theorem isRw.rev (h : isRw l k (.tup xs)) : isRw l k (.tup xs.reverse) := by
  obtain ⟨r, e, h1, h2⟩ := h
  cases e
  exact ⟨r.reverse, by rw [rw_rev], by rw [List.length_reverse]; exact h1, fun n hn => h2 n (List.mem_reverse.mp hn)⟩
theorem isRw.app (h : isRw l k (.tup xs)) (h' : isRw l m (.tup ys)) : isRw l (k + m) (.tup (xs ++ ys)) := by
  obtain ⟨r, e, h1, h2⟩ := h
  obtain ⟨s, e', h3, h4⟩ := h'
  cases e
  cases e'
  exact ⟨r ++ s, by rw [rw_app], by rw [List.length_append]; omega, fun n hn => (List.mem_append.mp hn).elim (h2 n) (h4 n)⟩
theorem isRw.le (h : isRw l k (.tup xs)) (e : k ≤ m) : isRw l m (.tup xs) := by
  obtain ⟨r, e', h1, h2⟩ := h
  exact ⟨r, e', by omega, h2⟩
theorem isRw.mk (r : List Nat) (h : ∀ n ∈ r, n < l.length) : isRw l r.length (.tup (rwD r)) := ⟨r, rfl, Nat.le_refl _, h⟩
theorem isRw.one {n : Nat} (h : n < l.length) : isRw l 1 (.tup [.int (n : Int)]) := ⟨[n], rfl, Nat.le_refl _, fun a ha => by rw [List.mem_singleton.mp ha]; exact h⟩
theorem isRw.rep {n : Nat} (h : n < l.length) (k : Nat) : isRw l k (.tup (List.replicate k [D.int (n : Int)]).flatten) := ⟨List.replicate k n, by rw [rw_rep], by rw [List.length_replicate]; exact Nat.le_refl _, fun a ha => by rw [(List.mem_replicate.mp ha).2]; exact h⟩
theorem isRw.all {k : Nat} : ∀ {ds : List D}, (∀ d ∈ ds, isRw l k d) → ∃ R : List (List Nat), ds = R.map (fun r => .tup (rwD r)) ∧ ∀ r ∈ R, r.length ≤ k ∧ ∀ n ∈ r, n < l.length
  | [], _ => ⟨[], rfl, fun r h => nomatch h⟩
  | d :: ds, h => by
    obtain ⟨r, e, h1⟩ := h d (List.mem_cons_self ..)
    obtain ⟨R, e2, h2⟩ := isRw.all (k := k) (ds := ds) fun x hx => h x (List.mem_cons_of_mem _ hx)
    refine ⟨r :: R, by rw [e, e2]; rfl, fun s hs => ?_⟩
    rcases List.mem_cons.mp hs with rfl | hs
    · exact h1
    · exact h2 s hs
end
theorem compL_rngF {f : D → R (Option D)} (g : Nat → D) (n : Nat) (h : ∀ i, i < n → f (.int (i : Nat)) = .ok (some (g i))) : compL f (rngD 0 n) = .ok ((List.range n).map g) := by
  have e : rngD 0 n = (List.range n).map fun (i : Nat) => D.int (i : Nat) := by
    rw [rngD_map]
    refine List.map_congr_left fun i _ => ?_
    rw [Int.zero_add]
  rw [e]
  have go : ∀ is : List Nat, (∀ i ∈ is, i < n) → compL f (is.map fun (i : Nat) => D.int (i : Nat)) = .ok (is.map g) := fun is => by
    induction is with
    | nil => exact fun _ => rfl
    | cons i is ih =>
      intro hi
      rw [List.map_cons, cl_c, h i (hi i (List.mem_cons_self ..)), ok_bind, ih fun j hj => hi j (List.mem_cons_of_mem _ hj)]
      rfl
  exact go _ fun i hi => List.mem_range.mp hi
theorem bn_mtup {xs : List D} {k : Int} : binD .Mult (.tup xs) (.int k) = (chk (repOk xs k)).bind fun _ => .ok (.tup (List.replicate k.toNat xs).flatten) := nr rfl
theorem rep_one {i k : Int} (h : 2 ≤ k) (h' : k ≤ 1000) : repOk [.int i] k = true := by
  unfold repOk
  rw [decide_eq_true h, decide_eq_true h']
  rfl
theorem sl_li {xs : List Int} {a b : Option Int} : slcD (.lst (xs.map D.int)) a b = .ok (.lst ((cutD xs a b).map D.int)) := by
  show R.ok (D.lst (cutD (xs.map D.int) a b)) = _
  rw [cut_map]
end Ev

/-! Part S: boxes read. -/
namespace Ev
open PySem PySem.Spec PyProof.Rows L2
theorem cm_nescr (ns : List Int) : cmpD .NotEq (.scr ns) (.lst []) = .ok (!decide (ns = [])) := by
  have c : (D.scr ns).shaped = true := by
    refine sh_of (n := 1) ?_ ?_
    · show PyData.canLayAll0 (ns.map PyData.int) = true
      exact can_is ns
    · show PyData.depth (.list (ns.map PyData.int)) ≤ 1
      rw [PyData.depth, PySem.W.depth_ints]
      decide
  rw [cm_neg c rfl]
  cases ns <;> rfl
theorem cut3 {x y z : D} : cutD [x, y, z] (some 1) none = [y, z] := nr rfl
theorem cut2 {x y : D} : cutD [x, y] (some 1) none = [y] := nr rfl
theorem srs2 {i j : Int} : srsD (.tup [.int i, .int j]) = .ok (.lst ((sortU [i, j]).map D.int)) := nr rfl
theorem in_li (b : Int) (l : List Int) : inD (.int b) (.lst (l.map D.int)) = .ok (decide (b ∈ l)) := by
  have c : (D.lst (l.map D.int)).shaped = true := by
    refine sh_of (n := 1) ?_ ?_
    · show PyData.canLayAll0 (toPs (l.map D.int)) = true
      rw [toPs_map]
      exact can_is l
    · show PyData.depth (.list (toPs (l.map D.int))) ≤ 1
      rw [toPs_map, show l.map (fun x => (D.int x).toP) = l.map PyData.int from rfl, PyData.depth, PySem.W.depth_ints]
      decide
  show (chk ((D.int b).shaped && (D.lst (l.map D.int)).shaped)).bind (fun _ => R.ok (anyEqv (.int b) (l.map D.int))) = _
  rw [c, show (D.int b).shaped = true from rfl]
  show R.ok (anyEqv (.int b) (l.map D.int)) = _
  congr 1
  unfold anyEqv
  rw [toPs_map]
  induction l with
  | nil => rfl
  | cons x l ih =>
    show (PyData.eqv (.int x) (.int b) || _) = _
    rw [show PyData.eqv (.int x) (.int b) = decide (x = b) by rw [PyData.eqv]; rfl]
    have ih' := ih (by
      refine sh_of (n := 1) ?_ ?_
      · show PyData.canLayAll0 (toPs (l.map D.int)) = true
        rw [toPs_map]
        exact can_is l
      · show PyData.depth (.list (toPs (l.map D.int))) ≤ 1
        rw [toPs_map, show l.map (fun x => (D.int x).toP) = l.map PyData.int from rfl, PyData.depth, PySem.W.depth_ints]
        decide)
    rw [show ((l.map fun x => (D.int x).toP).any fun z => PyData.eqv z (D.int b).toP) = decide (b ∈ l) from ih']
    by_cases e : x = b
    · rw [decide_eq_true e, e, decide_eq_true (List.mem_cons_self ..)]
      rfl
    · rw [decide_eq_false e, Bool.false_or]
      by_cases q : b ∈ l
      · rw [decide_eq_true q, decide_eq_true (List.mem_cons_of_mem _ q)]
      · rw [decide_eq_false q, decide_eq_false fun h => (List.mem_cons.mp h).elim (fun z => e z.symm) q]
theorem cm_inli (b : Int) (l : List Int) : cmpD .In (.int b) (.lst (l.map D.int)) = .ok (decide (b ∈ l)) := in_li b l
theorem cm_ninli (b : Int) (l : List Int) : cmpD .NotIn (.int b) (.lst (l.map D.int)) = .ok (!decide (b ∈ l)) := by
  show (inD _ _).bind (fun k => R.ok (!k)) = _
  rw [in_li]
  rfl
/-- the boxes that a step reads, rising -/
def readB (k i j : Nat) : List Int := if k < 5 then sortU [(i : Int), (j : Int)] else if k = 5 then [(j : Int)] else if k = 6 then [] else [(i : Int)]
theorem readB_low {k i j : Nat} (h : k < 5) : readB k i j = sortU [(i : Int), (j : Int)] := if_pos h
theorem readB_mem {p : Int × Int} {k i j : Nat} (h : StOk p k i j) : ∀ b ∈ readB k i j, ∃ n : Nat, b = (n : Int) ∧ n < p.2.toNat ∧ (n = i ∨ n = j) := fun b hb => by
  obtain ⟨h1, h2, h3, h4⟩ := h
  unfold readB at hb
  split at hb
  · rename_i q
    rw [sortU_mem] at hb
    rcases List.mem_cons.mp hb with e | hb
    · exact ⟨i, e, h2, .inl rfl⟩
    · exact ⟨j, List.mem_singleton.mp hb, h3 (by omega), .inr rfl⟩
  · split at hb
    · rename_i q
      exact ⟨j, List.mem_singleton.mp hb, h3 (by omega), .inr rfl⟩
    · split at hb
      · exact nomatch hb
      · exact ⟨i, List.mem_singleton.mp hb, h2, .inl rfl⟩
/-- what is written stands on what is read alone -/
theorem new_read {p : Int × Int} {k i j : Nat} (hk : k < 10) {f g : List Int} (h : ∀ n : Nat, (n : Int) ∈ readB k i j → f.getD n 0 = g.getD n 0) : newW p k i j f = newW p k i j g := by
  unfold newW
  congr 1
  have two : k < 5 → f.getD i 0 = g.getD i 0 ∧ f.getD j 0 = g.getD j 0 := fun q => by
    rw [readB_low q] at h
    exact ⟨h i (sortU_mem.mpr (List.mem_cons_self ..)), h j (sortU_mem.mpr (List.mem_cons_of_mem _ (List.mem_cons_self ..)))⟩
  rcases (show k < 5 ∨ k = 5 ∨ k = 6 ∨ k = 7 ∨ k = 8 ∨ k = 9 by omega) with q | rfl | rfl | rfl | rfl | rfl
  · rw [(two q).1, (two q).2]
  · exact h j (List.mem_singleton.mpr rfl)
  · rfl
  · show -1 - f.getD i 0 = -1 - g.getD i 0
    rw [h i (List.mem_singleton.mpr rfl)]
  · show 2 * f.getD i 0 = 2 * g.getD i 0
    rw [h i (List.mem_singleton.mpr rfl)]
  · show f.getD i 0 / 2 = g.getD i 0 / 2
    rw [h i (List.mem_singleton.mpr rfl)]
theorem dn_self {p : Int × Int} {k i j : Nat} {f : List Int} (h : i < f.length) : (dn p k i j f).getD i 0 = newW p k i j f := by
  unfold dn
  rw [List.getD_eq_getElem?_getD, List.getElem?_set_self (by simpa using h)]
  rfl
theorem dn_else {p : Int × Int} {k i j b : Nat} {f : List Int} (h : b ≠ i) : (dn p k i j f).getD b 0 = f.getD b 0 := by
  unfold dn
  rw [List.getD_eq_getElem?_getD, List.getElem?_set_ne (Ne.symm h), List.getD_eq_getElem?_getD]
/-- a box whose word matters -/
def matB (p : Int × Int) (k i j b : Nat) : Bool := (FS p).any fun f => !decide ((dn p k i j f).getD i 0 = (dn p k i j (f.set b 0)).getD i 0)
def kj (k j : Nat) : Nat := if k < 6 then j else 0
theorem mat_kj {p : Int × Int} {k i j b : Nat} (h : 7 ≤ k) (hk : k < 10) : matB p k i j b = matB p k i 0 b := by
  rcases (show k = 7 ∨ k = 8 ∨ k = 9 by omega) with rfl | rfl | rfl <;> rfl
def twoS : List (Int × Int) := [(2, 2), (1, 2), (1, 3), (2, 3), (3, 2), (1, 4), (1, 5), (1, 6)]
theorem mat_two : ∀ p ∈ twoS, ∀ k < 6, ∀ i < p.2.toNat, ∀ j < p.2.toNat, i = j ∨ ((k = 5 ∨ matB p k i j i = true) ∧ matB p k i j j = true) := by decide +kernel
theorem mat_one : ∀ p ∈ twoS, ∀ i < p.2.toNat, matB p 7 i 0 i = true ∧ (p.1 = 1 ∨ (matB p 8 i 0 i = true ∧ matB p 9 i 0 i = true)) := by decide +kernel
theorem twoS_of {p : Int × Int} (h : isSz p) (h2 : p.2 ≠ 1) : p ∈ twoS := by
  unfold isSz at h
  simp only [List.mem_cons, List.mem_nil_iff, or_false] at h
  unfold twoS
  rcases h with rfl | rfl | rfl | rfl | rfl | rfl | rfl | rfl | rfl | rfl | rfl | rfl | rfl | rfl <;> first | exact absurd rfl h2 | decide
theorem mat_ok {p : Int × Int} (h : isSz p) (h2 : p.2 ≠ 1) {k i j : Nat} (hs : StOk p k i j) (ne : k < 6 → i ≠ j) : ∀ b : Nat, (b : Int) ∈ readB k i j → matB p k i j b = true ∨ ((k = 8 ∨ k = 9) ∧ p.1 = 1) := fun b hb => by
  have ht := twoS_of h h2
  obtain ⟨h1, hi, h3, h4⟩ := hs
  by_cases q : k < 6
  · have m := (mat_two p ht k q i hi j (h3 q)).resolve_left (ne q)
    unfold readB at hb
    by_cases q5 : k < 5
    · rw [if_pos q5, sortU_mem] at hb
      rcases List.mem_cons.mp hb with e | hb
      · have : b = i := by omega
        subst this
        exact .inl (m.1.resolve_left (by omega))
      · have : b = j := by
          have := List.mem_singleton.mp hb
          omega
        subst this
        exact .inl m.2
    · rw [if_neg q5, if_pos (by omega)] at hb
      have : b = j := by
        have := List.mem_singleton.mp hb
        omega
      subst this
      exact .inl m.2
  · unfold readB at hb
    rw [if_neg (by omega), if_neg (by omega)] at hb
    by_cases q6 : k = 6
    · rw [if_pos q6] at hb
      exact nomatch hb
    · rw [if_neg q6] at hb
      have : b = i := by
        have := List.mem_singleton.mp hb
        omega
      subst this
      rw [mat_kj (by omega) h1]
      obtain ⟨m7, m8⟩ := mat_one p ht b hi
      rcases (show k = 7 ∨ k = 8 ∨ k = 9 by omega) with rfl | rfl | rfl
      · exact .inl m7
      · rcases m8 with m8 | m8
        · exact .inr ⟨.inl rfl, m8⟩
        · exact .inl m8.1
      · rcases m8 with m8 | m8
        · exact .inr ⟨.inr rfl, m8⟩
        · exact .inl m8.2
theorem stD3 {k i j : Nat} (h : k ≤ 6) : stD k i j = .tup [.str (wd k), .int i, .int j] := if_pos h
theorem stD2 {k i j : Nat} (h : ¬ k ≤ 6) : stD k i j = .tup [.str (wd k), .int i] := if_neg h
theorem iud0 : inD (.str (Str.ofString "up")) (.tup [.str (Str.ofString "up"), .str (Str.ofString "down")]) = .ok true := by kernel_rfl
theorem iud1 : inD (.str (Str.ofString "down")) (.tup [.str (Str.ofString "up"), .str (Str.ofString "down")]) = .ok true := by kernel_rfl
end Ev

/-! Part T: turns of boxes. -/
namespace Ev
open PySem PySem.Spec PyProof.Rows L2
def IsTurn (n : Nat) (t : List Nat) : Prop := t.Perm (List.range n)
section
variable {n : Nat} {t : List Nat}
theorem turn_len (h : IsTurn n t) : t.length = n := by rw [List.Perm.length_eq h, List.length_range]
theorem turn_nd (h : IsTurn n t) : t.Nodup := (List.Perm.nodup_iff h).mpr List.nodup_range
theorem turn_mem (h : IsTurn n t) {x : Nat} : x ∈ t ↔ x < n := (List.Perm.mem_iff h).trans List.mem_range
theorem ixc_ne {a x : Nat} {r : List Nat} (h : a ≠ x) : (a :: r).idxOf x = r.idxOf x + 1 := by
  rw [List.idxOf_cons, show (a == x) = false from beq_eq_false_iff_ne.mpr h]
  rfl
theorem list_getD {a b : List Int} (hl : a.length = b.length) (h : ∀ i, i < a.length → a.getD i 0 = b.getD i 0) : a = b := by
  apply List.ext_getElem hl
  intro i h1 h2
  have := h i h1
  rw [List.getD_eq_getElem?_getD, List.getD_eq_getElem?_getD, List.getElem?_eq_getElem h1, List.getElem?_eq_getElem h2] at this
  exact this
theorem set_getD {l : List Int} {a b : Nat} {x : Int} (h : b < l.length) : (l.set a x).getD b 0 = if a = b then x else l.getD b 0 := by
  rw [List.getD_eq_getElem?_getD, List.getElem?_set]
  by_cases e : a = b
  · rw [if_pos e, if_pos (by omega), if_pos e]
    rfl
  · rw [if_neg e, if_neg e, List.getD_eq_getElem?_getD]
theorem ix_at : ∀ {t : List Nat}, t.Nodup → ∀ {i : Nat}, i < t.length → t.idxOf (t.getD i 0) = i
  | [], _, i, h => by simp at h
  | a :: r, nd, 0, h => by simp
  | a :: r, nd, i + 1, h => by
    obtain ⟨n1, n2⟩ := List.nodup_cons.mp nd
    have hi : i < r.length := by simpa using h
    have ne : a ≠ r.getD i 0 := fun e => n1 (e ▸ getD_mem hi)
    show (a :: r).idxOf (r.getD i 0) = i + 1
    rw [ixc_ne ne, ix_at n2 hi]
theorem at_ix : ∀ {t : List Nat} {x : Nat}, x ∈ t → t.idxOf x < t.length ∧ t.getD (t.idxOf x) 0 = x
  | [], x, h => nomatch h
  | a :: r, x, h => by
    by_cases e : a = x
    · subst e
      simp
    · have h' : x ∈ r := (List.mem_cons.mp h).resolve_left fun z => e z.symm
      obtain ⟨h1, h2⟩ := at_ix h'
      rw [ixc_ne e]
      exact ⟨by rw [List.length_cons]; omega, h2⟩
theorem turn_ix (h : IsTurn n t) {i : Nat} (hi : i < n) : t.idxOf (t.getD i 0) = i := ix_at (turn_nd h) (by rw [turn_len h]; exact hi)
theorem turn_at (h : IsTurn n t) {b : Nat} (hb : b < n) : t.idxOf b < n ∧ t.getD (t.idxOf b) 0 = b := by
  obtain ⟨h1, h2⟩ := at_ix ((turn_mem h).mpr hb)
  exact ⟨by rw [turn_len h] at h1; exact h1, h2⟩
theorem turn_lt (h : IsTurn n t) {i : Nat} (hi : i < n) : t.getD i 0 < n := (turn_mem h).mp (getD_mem (by rw [turn_len h]; exact hi))
/-- values put at the turned places -/
def scat (n : Nat) (t : List Nat) (v : Nat → Int) : List Int := (List.range n).map fun b => v (t.idxOf b)
def scatI (n : Nat) (t : List Nat) (v : Nat → Int) (i : Nat) : List Int := (List.range n).map fun b => if t.idxOf b < i then v (t.idxOf b) else 0
theorem scatI_len {v : Nat → Int} {i : Nat} : (scatI n t v i).length = n := by
  unfold scatI
  rw [List.length_map, List.length_range]
theorem scatI_zero {v : Nat → Int} : scatI n t v 0 = List.replicate n 0 := by
  unfold scatI
  apply List.ext_getElem
  · simp
  · intro i h1 h2
    simp
theorem scatI_all {v : Nat → Int} (h : IsTurn n t) : scatI n t v n = scat n t v := List.map_congr_left fun b hb => by
  rw [if_pos (turn_at h (List.mem_range.mp hb)).1]
theorem scatI_at {v : Nat → Int} {i b : Nat} (hb : b < n) : (scatI n t v i).getD b 0 = if t.idxOf b < i then v (t.idxOf b) else 0 := by
  unfold scatI
  rw [map_getD (d := 0) (by rw [List.length_range]; exact hb), List.getD_eq_getElem?_getD, List.getElem?_range hb]
  rfl
theorem scatI_next {v : Nat → Int} (h : IsTurn n t) {i : Nat} (hi : i < n) : (scatI n t v i).set (t.getD i 0) (v i) = scatI n t v (i + 1) := by
  refine list_getD (by rw [List.length_set, scatI_len, scatI_len]) fun b hb => ?_
  rw [List.length_set] at hb
  have hb' : b < n := by rw [scatI_len] at hb; exact hb
  rw [set_getD hb, scatI_at hb', scatI_at hb']
  by_cases e : t.getD i 0 = b
  · rw [if_pos e, ← e, turn_ix h hi, if_pos (by omega)]
  · rw [if_neg e]
    have ne : t.idxOf b ≠ i := fun z => e (by rw [← z]; exact (turn_at h hb').2)
    by_cases q : t.idxOf b < i
    · rw [if_pos q, if_pos (by omega)]
    · rw [if_neg q, if_neg (by omega)]
theorem scat_at {v : Nat → Int} {b : Nat} (hb : b < n) : (scat n t v).getD b 0 = v (t.idxOf b) := by
  unfold scat
  rw [map_getD (d := 0) (by rw [List.length_range]; exact hb), List.getD_eq_getElem?_getD, List.getElem?_range hb]
  rfl
theorem scat_len {v : Nat → Int} : (scat n t v).length = n := by
  unfold scat
  rw [List.length_map, List.length_range]
def backT (n : Nat) (t : List Nat) : List Nat := (List.range n).map fun b => t.idxOf b
theorem backT_at {b : Nat} (hb : b < n) : (backT n t).getD b 0 = t.idxOf b := by
  unfold backT
  rw [map_getD (d := 0) (by rw [List.length_range]; exact hb), List.getD_eq_getElem?_getD, List.getElem?_range hb]
  rfl
theorem backT_scat : rI (backT n t) = scat n t fun k => (k : Int) := by
  unfold rI backT scat
  rw [List.map_map]
  rfl
theorem backT_turn (h : IsTurn n t) : IsTurn n (backT n t) := by
  have e : (backT n t).Nodup := by
    unfold backT
    refine List.pairwise_map.mpr (List.Pairwise.imp_of_mem (fun {a b} ha hb ne q => ne ?_) List.nodup_range)
    rw [← (turn_at h (List.mem_range.mp ha)).2, ← (turn_at h (List.mem_range.mp hb)).2, q]
  refine (List.perm_ext_iff_of_nodup e List.nodup_range).mpr fun x => ?_
  rw [List.mem_range]
  constructor
  · intro hx
    obtain ⟨b, hb, rfl⟩ := List.mem_map.mp hx
    exact (turn_at h (List.mem_range.mp hb)).1
  · intro hx
    exact List.mem_map.mpr ⟨t.getD x 0, List.mem_range.mpr (turn_lt h hx), turn_ix h hx⟩
end
/-- a filling turned -/
def turnF (n : Nat) (t : List Nat) (f : List Int) : List Int := scat n t fun k => f.getD k 0
section
variable {p : Int × Int} {t : List Nat} {f : List Int}
theorem turnF_mem (h : IsTurn p.2.toNat t) (hf : f ∈ FS p) : turnF p.2.toNat t f ∈ FS p := by
  refine mem_FS.mpr ⟨scat_len, fun x hx => ?_⟩
  unfold turnF scat at hx
  obtain ⟨b, hb, rfl⟩ := List.mem_map.mp hx
  exact FS_at hf (turn_at h (List.mem_range.mp hb)).1
theorem turnF_at (h : IsTurn p.2.toNat t) {i : Nat} (hi : i < p.2.toNat) : (turnF p.2.toNat t f).getD (t.getD i 0) 0 = f.getD i 0 := by
  unfold turnF
  rw [scat_at (turn_lt h hi), turn_ix h hi]
theorem turn_back (h : IsTurn p.2.toNat t) (hf : f ∈ FS p) : turnF p.2.toNat (backT p.2.toNat t) (turnF p.2.toNat t f) = f := by
  have lf := (mem_FS.mp hf).1
  have hb := backT_turn h
  refine list_getD (scat_len.trans lf.symm) fun i hi => ?_
  have hi' : i < p.2.toNat := by
    unfold turnF at hi
    rw [scat_len] at hi
    exact hi
  have e1 := turn_at hb hi'
  show (scat p.2.toNat (backT p.2.toNat t) fun k => (turnF p.2.toNat t f).getD k 0).getD i 0 = _
  rw [scat_at hi']
  unfold turnF
  rw [scat_at e1.1]
  congr 1
  rw [← backT_at e1.1]
  exact e1.2
end
/-- a step turned -/
def tj (t : List Nat) (k j : Nat) : Nat := if k < 6 then t.getD j 0 else j
def tst (t : List Nat) (s : Stp) : Stp := (s.1, t.getD s.2.1 0, tj t s.1 s.2.2)
section
variable {p : Int × Int} {t : List Nat} {k i j : Nat}
theorem tst_ok (h : IsTurn p.2.toNat t) (hs : StOk p k i j) : StOk p k (t.getD i 0) (tj t k j) := by
  obtain ⟨h1, h2, h3, h4⟩ := hs
  refine ⟨h1, turn_lt h h2, fun q => ?_, fun q => ?_⟩
  · unfold tj
    rw [if_pos q]
    exact turn_lt h (h3 q)
  · unfold tj
    rw [if_neg (by omega)]
    exact h4 q
theorem tst_back (h : IsTurn p.2.toNat t) (hs : StOk p k i j) : (backT p.2.toNat t).getD (t.getD i 0) 0 = i ∧ tj (backT p.2.toNat t) k (tj t k j) = j := by
  obtain ⟨h1, h2, h3, h4⟩ := hs
  refine ⟨by rw [backT_at (turn_lt h h2), turn_ix h h2], ?_⟩
  unfold tj
  by_cases q : k < 6
  · rw [if_pos q, if_pos q, backT_at (turn_lt h (h3 q)), turn_ix h (h3 q)]
  · rw [if_neg q, if_neg q]
theorem new_turn (h : IsTurn p.2.toNat t) (hs : StOk p k i j) (f : List Int) : newW p k (t.getD i 0) (tj t k j) (turnF p.2.toNat t f) = newW p k i j f := by
  obtain ⟨h1, h2, h3, h4⟩ := hs
  unfold newW
  rw [turnF_at h h2]
  congr 1
  by_cases q : k < 6
  · unfold tj
    rw [if_pos q, turnF_at h (h3 q)]
    rcases (show k = 0 ∨ k = 1 ∨ k = 2 ∨ k = 3 ∨ k = 4 ∨ k = 5 by omega) with rfl | rfl | rfl | rfl | rfl | rfl <;> rfl
  · unfold tj
    rw [if_neg q]
    rcases (show k = 6 ∨ k = 7 ∨ k = 8 ∨ k = 9 by omega) with rfl | rfl | rfl | rfl <;> rfl
theorem dn_turn (h : IsTurn p.2.toNat t) (hs : StOk p k i j) {f : List Int} (hf : f ∈ FS p) : dn p k (t.getD i 0) (tj t k j) (turnF p.2.toNat t f) = turnF p.2.toNat t (dn p k i j f) := by
  have lf := (mem_FS.mp hf).1
  have hi := hs.h2
  refine list_getD (by unfold dn turnF; rw [List.length_set, scat_len, scat_len]) fun b hb => ?_
  have hb' : b < p.2.toNat := by
    unfold dn turnF at hb
    rw [List.length_set, scat_len] at hb
    exact hb
  have e1 : (turnF p.2.toNat t (dn p k i j f)).getD b 0 = (dn p k i j f).getD (t.idxOf b) 0 := by
    unfold turnF
    rw [scat_at hb']
  have e2 : (turnF p.2.toNat t f).getD b 0 = f.getD (t.idxOf b) 0 := by
    unfold turnF
    rw [scat_at hb']
  rw [e1]
  by_cases q : b = t.getD i 0
  · have e3 : t.idxOf b = i := by rw [q, turn_ix h hi]
    rw [q, dn_self (by unfold turnF; rw [scat_len]; exact turn_lt h hi), ← q, e3, dn_self (by omega), q]
    exact new_turn h hs f
  · rw [dn_else q, e2, dn_else fun z => q (by rw [← z]; exact ((turn_at h hb').2).symm)]
end
theorem erase_map {α β : Type} (f : α → β) : ∀ (l : List α) (k : Nat), (l.map f).eraseIdx k = (l.eraseIdx k).map f
  | [], _ => by simp
  | a :: r, 0 => by simp
  | a :: r, k + 1 => by
    have := erase_map f r k
    simp [this]
theorem apop_rw {a b : List Nat} {k : Nat} (hk : k < b.length) (ha : a.length < 1000) (hb : b.length ≤ 1000) : apopD (.lst (rwD a)) (.lst (rwD b)) (.int (k : Int)) = .ok (rwD (a ++ [b.getD k 0]), rwD (b.eraseIdx k)) := by
  have pu : pureAll (rwD b) = true := by
    rw [show rwD b = (rI b).map D.int by unfold rwD rI; rw [List.map_map]; rfl]
    exact pure_ints _
  have e1 : ixN (rwD b).length (k : Int) = some k := by
    unfold ixN
    rw [if_pos (by omega), if_pos (by rw [rw_len]; omega)]
    rfl
  have e2 : (rwD b)[k]? = some (.int (b.getD k 0 : Nat)) := by
    unfold rwD
    rw [List.getElem?_map, getD_some (d := 0) hk]
    rfl
  show (chk (decide ((rwD a).length < line) && (pureAll (rwD b) && (decide (-(2 ^ 63) ≤ (k : Int)) && decide ((k : Int) < 2 ^ 63))))).bind (fun _ => match ixN (rwD b).length (k : Int) with
    | some m => match (rwD b)[m]? with
      | some v => R.ok (rwD a ++ [v], (rwD b).eraseIdx m)
      | none => .bad
    | none => .bad) = _
  rw [pu, decide_eq_true (show (rwD a).length < line by rw [rw_len]; show _ < sizeLine; rw [sizeLine_eq]; omega), decide_eq_true (show -(2 ^ 63) ≤ (k : Int) by omega), decide_eq_true (show (k : Int) < 2 ^ 63 by omega), e1]
  show (match (rwD b)[k]? with
      | some v => R.ok (rwD a ++ [v], (rwD b).eraseIdx k)
      | none => .bad) = _
  rw [e2]
  show R.ok (rwD a ++ [.int (b.getD k 0 : Nat)], (rwD b).eraseIdx k) = _
  rw [show rwD a ++ [D.int (b.getD k 0 : Nat)] = rwD (a ++ [b.getD k 0]) from rw_app a [b.getD k 0]]
  congr 2
  unfold rwD
  rw [erase_map]
theorem rw_range (n : Nat) : rngD 0 n = rwD (List.range n) := by
  rw [rngD_map]
  unfold rwD
  refine List.map_congr_left fun i _ => ?_
  rw [Int.zero_add]
theorem pow_ok1 {j : Int} (h0 : 0 ≤ j) (h1 : j ≤ 1000000) : powOk 1 j = true := by
  unfold powOk
  rw [decide_eq_true h0, decide_eq_true h1]
  decide
theorem one_shl (n : Nat) : (1 : Int) * 2 ^ n = ((2 ^ n : Nat) : Int) := by
  rw [Int.one_mul]
  simp
theorem rw_atD {t : List Nat} {i : Nat} (h : i < t.length) : getAt (rwD t) (i : Int) = .ok (.int (t.getD i 0 : Nat)) := by
  rw [rw_at h, List.getD_eq_getElem?_getD, List.getElem?_eq_getElem h]
  rfl
theorem rwe_inv {t : List Nat} {i : Nat} {x : D} (h : (enumD 0 (rwD t))[i]? = some x) : i < t.length ∧ x = .tup [.int (i : Nat), .int (t.getD i 0 : Nat)] := by
  rw [enumD_get] at h
  by_cases hi : i < t.length
  · have e : (rwD t)[i]? = some (.int (t.getD i 0 : Nat)) := by
      unfold rwD
      rw [List.getElem?_map, getD_some (d := 0) hi]
      rfl
    rw [e] at h
    refine ⟨hi, ?_⟩
    cases h
    rw [Nat.zero_add]
  · have e : (rwD t)[i]? = none := List.getElem?_eq_none_iff.mpr (by rw [rw_len]; omega)
    rw [e] at h
    cases h
theorem zeros {n : Nat} {t : List Nat} {v : Nat → Int} (h : t.length = n) : (rwD t).map (fun _ => D.int 0) = (scatI n t v 0).map D.int := by
  rw [scatI_zero]
  subst h
  unfold rwD
  rw [List.map_map, List.map_replicate]
  apply List.ext_getElem
  · simp
  · intro i h1 h2
    simp
section
variable {Φ : Nat → List D → R D} {M : Nat → Nat → Option Nat} {r : ISs} {σ : Sg}
theorem st_apop {i j : Nat} {e : IE} : evSs Φ M (.cons (.apop i j e) r) σ = (getV σ i).bind fun c => (getV σ j).bind fun d => (evE Φ M e σ).bind fun x => (apopD c d x).bind fun p => evSs Φ M r ((σ.set j (some (.lst p.2))).set i (some (.lst p.1))) := by
  show ((getV σ i).bind fun c => (getV σ j).bind fun d => (evE Φ M e σ).bind fun x => (apopD c d x).bind fun p => R.ok (Fl.nx ((σ.set j (some (.lst p.2))).set i (some (.lst p.1))))).bind _ = _
  cases getV σ i with
  | ok c =>
    show ((getV σ j).bind fun d => (evE Φ M e σ).bind fun x => (apopD c d x).bind fun p => R.ok (Fl.nx ((σ.set j (some (.lst p.2))).set i (some (.lst p.1))))).bind _ = (getV σ j).bind _
    cases getV σ j with
    | ok d =>
      show ((evE Φ M e σ).bind fun x => (apopD c d x).bind fun p => R.ok (Fl.nx ((σ.set j (some (.lst p.2))).set i (some (.lst p.1))))).bind _ = (evE Φ M e σ).bind _
      cases evE Φ M e σ with
      | ok x =>
        show ((apopD c d x).bind fun p => R.ok (Fl.nx ((σ.set j (some (.lst p.2))).set i (some (.lst p.1))))).bind _ = (apopD c d x).bind _
        cases apopD c d x <;> rfl
      | _ => rfl
    | _ => rfl
  | _ => rfl
end
theorem comp_stk {f : D → R (Option D)} (g : Stp × Int → Stp × Int) : ∀ l : List (Stp × Int), (∀ x ∈ l, f (.tup [sD x.1, .int x.2]) = .ok (some (.tup [sD (g x).1, .int (g x).2]))) → compL f (stkD l) = .ok (stkD (l.map g))
  | [], _ => rfl
  | x :: l, h => by
    show compL f (.tup [sD x.1, .int x.2] :: stkD l) = _
    rw [cl_c, h x (List.mem_cons_self ..), ok_bind, comp_stk g l fun y hy => h y (List.mem_cons_of_mem _ hy)]
    rfl
theorem cm_ner {a : D} (ha : a.shaped = true) : cmpD .NotEq a a = .ok false := by
  rw [cm_neg ha ha, show a.eqv a = true from SeqAt.eqv_refl _ (SeqAt.canLay_of_shaped ha)]
  rfl
theorem erase_perm : ∀ {l : List Nat} {k : Nat}, k < l.length → (l.getD k 0 :: l.eraseIdx k).Perm l
  | [], k, h => by simp at h
  | a :: r, 0, h => List.Perm.refl _
  | a :: r, k + 1, h => by
    have ih := erase_perm (l := r) (k := k) (by simpa using h)
    show (r.getD k 0 :: a :: r.eraseIdx k).Perm (a :: r)
    exact (List.Perm.swap _ _ _).trans (List.Perm.cons a ih)
theorem at_prev {xs : List Int} {k : Nat} (h : k < xs.length) : ∃ c : Int, getAt (xs.map D.int) ((k : Int) - 1) = .ok (.int c) := by
  cases k with
  | succ m =>
    rw [show ((m + 1 : Nat) : Int) - 1 = (m : Int) by omega]
    exact ⟨_, in_at (by omega)⟩
  | zero =>
    have e2 : ixN (xs.map D.int).length (((0 : Nat) : Int) - 1) = some (xs.length - 1) := by
      unfold ixN
      rw [List.length_map, if_neg (by omega), if_pos (by omega)]
      congr 1
      omega
    refine ⟨xs[xs.length - 1], ?_⟩
    unfold getAt atI
    rw [e2, Option.bind_some, List.getElem?_map, List.getElem?_eq_getElem (show xs.length - 1 < xs.length by omega)]
    rfl
theorem comp_stk1 {f : D → R (Option D)} : ∀ l : List (Stp × Int), (∀ x ∈ l, f (.tup [sD x.1, .int x.2]) = .ok (some (sD x.1))) → compL f (stkD l) = .ok (l.map fun x => sD x.1)
  | [], _ => rfl
  | x :: l, h => by
    show compL f (.tup [sD x.1, .int x.2] :: stkD l) = _
    rw [cl_c, h x (List.mem_cons_self ..), ok_bind, comp_stk1 l fun y hy => h y (List.mem_cons_of_mem _ hy)]
    rfl
theorem in_steps (s : Stp) (l : List (Stp × Int)) : ∃ b, inD (sD s) (.lst (l.map fun x => sD x.1)) = .ok b := by
  have c1 : (sD s).shaped = true := sh_of (can_st s) (dep_st s)
  have c2 : (D.lst (l.map fun x => sD x.1)).shaped = true := sh_of (can_lst (fun x => can_st x.1) l) (dep_lst (fun x => dep_st x.1) l)
  refine ⟨anyEqv (sD s) (l.map fun x => sD x.1), ?_⟩
  show (chk ((sD s).shaped && (D.lst (l.map fun x => sD x.1)).shaped)).bind (fun _ => R.ok (anyEqv (sD s) (l.map fun x => sD x.1))) = _
  rw [c1, c2]
  rfl
theorem pw106 : powOk 10 6 = true := by decide +kernel
theorem cm_ll : cmpD .Eq (.lst []) (.lst []) = .ok true := nr rfl
theorem stk_snoc {l : List (Stp × Int)} {s : Stp} {z : Int} : stkD (l ++ [(s, z)]) = stkD l ++ [D.tup [sD s, .int z]] := by
  unfold stkD
  rw [List.map_append]
  rfl
end Ev

/-! Part U: what is a step. -/
namespace Ev
open PySem PySem.Spec PyProof.Rows L2
/-- what isinstance tells of -/
def nice : D → Bool
  | .ins _ => false
  | .scr _ => false
  | .dcn _ => false
  | _ => true
def belowB (m : Int) : D → Bool
  | .int i => decide (0 ≤ i) && decide (i < m)
  | _ => false
def toldB (p : Int × Int) (k : Nat) : List D → Bool
  | [a] => decide (7 ≤ k) && belowB p.2 a
  | [a, b] => decide (k ≤ 6) && (belowB p.2 a && belowB (if k = 6 then ((2 ^ p.1.toNat : Nat) : Int) else p.2) b)
  | _ => false
theorem is_is {c : Nat} : isD (.ins c) .non = .ok false := nr rfl
theorem min2 {i j : Int} : biD .min [.tup [.int i, .int j]] = .ok (.int (min i j)) := nr rfl
theorem max2 {i j : Int} : biD .max [.tup [.int i, .int j]] = .ok (.int (max i j)) := nr rfl
theorem readB_two {k i j : Nat} (h : k < 5) : readB k i j = if i = j then [(i : Int)] else [min (i : Int) j, max (i : Int) j] := by
  rw [readB_low h]
  show insU (i : Int) [(j : Int)] = _
  unfold insU
  by_cases e : i = j
  · subst e
    rw [if_pos rfl, if_neg (by omega), if_pos rfl]
  · rw [if_neg e]
    by_cases q : (i : Int) < j
    · rw [if_pos q, Int.min_eq_left (by omega), Int.max_eq_right (by omega)]
    · rw [if_neg q, if_neg (by omega), Int.min_eq_right (by omega), Int.max_eq_left (by omega)]
      rfl
theorem pw1030 : powOk 10 30 = true := by decide +kernel
theorem cm_eqli (a b : List Int) : cmpD .Eq (.lst (a.map D.int)) (.lst (b.map D.int)) = .ok (decide (a = b)) := by
  have c : ∀ l : List Int, (D.lst (l.map D.int)).shaped = true := fun l => by
    refine sh_of (n := 1) ?_ ?_
    · show PyData.canLayAll0 (toPs (l.map D.int)) = true
      rw [toPs_map]
      exact can_is l
    · show PyData.depth (.list (toPs (l.map D.int))) ≤ 1
      rw [toPs_map, show l.map (fun x => (D.int x).toP) = l.map PyData.int from rfl, PyData.depth, PySem.W.depth_ints]
      decide
  rw [cm_eqg (c a) (c b)]
  congr 1
  show PyData.eqv _ _ = _
  rw [D.toP, D.toP, PyData.eqv, toPs_map, toPs_map]
  exact eqvAll_map (fun x y => by rw [D.toP, D.toP, PyData.eqv]; rfl) a b
theorem cm_neli (a b : List Int) : cmpD .NotEq (.lst (a.map D.int)) (.lst (b.map D.int)) = .ok (!decide (a = b)) := by
  have e := cm_eqli a b
  have e2 : cmpD .NotEq (.lst (a.map D.int)) (.lst (b.map D.int)) = (cmpD .Eq (.lst (a.map D.int)) (.lst (b.map D.int))).bind fun k => .ok (!k) := by
    show (chk _).bind _ = ((chk _).bind _).bind _
    cases chk ((D.lst (a.map D.int)).shaped && (D.lst (b.map D.int)).shaped) <;> rfl
  rw [e2, e]
  rfl
theorem eqcc6 : cmpD .Eq (.str (Str.ofString "put")) (.str (Str.ofString "copy")) = .ok false := by kernel_rfl
theorem eqcc7 : cmpD .Eq (.str (Str.ofString "not")) (.str (Str.ofString "copy")) = .ok false := by kernel_rfl
theorem eqcc8 : cmpD .Eq (.str (Str.ofString "up")) (.str (Str.ofString "copy")) = .ok false := by kernel_rfl
theorem eqcc9 : cmpD .Eq (.str (Str.ofString "down")) (.str (Str.ofString "copy")) = .ok false := by kernel_rfl
theorem up0 : mthD .upper (.str (Str.ofString "and")) [] = .ok (.str (Str.ofString "AND")) := by kernel_rfl
theorem up1 : mthD .upper (.str (Str.ofString "or")) [] = .ok (.str (Str.ofString "OR")) := by kernel_rfl
theorem up2 : mthD .upper (.str (Str.ofString "xor")) [] = .ok (.str (Str.ofString "XOR")) := by kernel_rfl
theorem up3 : mthD .upper (.str (Str.ofString "add")) [] = .ok (.str (Str.ofString "ADD")) := by kernel_rfl
theorem up4 : mthD .upper (.str (Str.ofString "take")) [] = .ok (.str (Str.ofString "TAKE")) := by kernel_rfl
theorem up5 : mthD .upper (.str (Str.ofString "copy")) [] = .ok (.str (Str.ofString "COPY")) := by kernel_rfl
theorem up6 : mthD .upper (.str (Str.ofString "put")) [] = .ok (.str (Str.ofString "PUT")) := by kernel_rfl
theorem up7 : mthD .upper (.str (Str.ofString "not")) [] = .ok (.str (Str.ofString "NOT")) := by kernel_rfl
theorem up8 : mthD .upper (.str (Str.ofString "up")) [] = .ok (.str (Str.ofString "UP")) := by kernel_rfl
theorem up9 : mthD .upper (.str (Str.ofString "down")) [] = .ok (.str (Str.ofString "DOWN")) := by kernel_rfl
section
variable {x y z : D}
theorem ct31 : cutD [x, y, z] none (some 1) = [x] := nr rfl
theorem ct32 : cutD [x, y, z] none (some 2) = [x, y] := nr rfl
theorem cu32 : cutD [x, y, z] (some 2) none = [z] := nr rfl
theorem cu33 : cutD [x, y, z] (some 3) none = [] := nr rfl
theorem ct3m : cutD [x, y, z] none (some (-1)) = [x, y] := nr rfl
theorem ct21 : cutD [x, y] none (some 1) = [x] := nr rfl
theorem cu22 : cutD [x, y] (some 2) none = [] := nr rfl
theorem ct2m : cutD [x, y] none (some (-1)) = [x] := nr rfl
end
/-- what is put in the place of a number -/
def badL (m far : Int) : List D := [.int m, .int (m + 1 + far), .int (-1), .int (-1 - far), .bl true, .bl false, .str (Str.ofString "0"), .non, .lst [.int 0], .tup [.int 0], .dct [], .str (Str.ofString ""), .int (m + far % 7), .int (-2 - far % 5), .lst [], .tup []]
theorem bad_at {m far : Int} (h0 : 0 ≤ far) (z : Int) (z0 : 0 ≤ z) (z1 : z < 16) : ∃ b, getAt (badL m far) z = .ok b ∧ nice b = true ∧ belowB m b = false := by
  have big : ∀ i : Int, (i < 0 ∨ m ≤ i) → belowB m (.int i) = false := fun i h => by
    show (decide (0 ≤ i) && decide (i < m)) = false
    rcases h with h | h
    · rw [decide_eq_false (by omega)]
      rfl
    · rw [decide_eq_false (show ¬ i < m by omega), Bool.and_false]
  rcases (show z = 0 ∨ z = 1 ∨ z = 2 ∨ z = 3 ∨ z = 4 ∨ z = 5 ∨ z = 6 ∨ z = 7 ∨ z = 8 ∨ z = 9 ∨ z = 10 ∨ z = 11 ∨ z = 12 ∨ z = 13 ∨ z = 14 ∨ z = 15 by omega) with rfl | rfl | rfl | rfl | rfl | rfl | rfl | rfl | rfl | rfl | rfl | rfl | rfl | rfl | rfl | rfl
  · exact ⟨_, rfl, rfl, big _ (by omega)⟩
  · exact ⟨_, rfl, rfl, big _ (by omega)⟩
  · exact ⟨_, rfl, rfl, big _ (by omega)⟩
  · exact ⟨_, rfl, rfl, big _ (by omega)⟩
  · exact ⟨_, rfl, rfl, rfl⟩
  · exact ⟨_, rfl, rfl, rfl⟩
  · exact ⟨_, rfl, rfl, rfl⟩
  · exact ⟨_, rfl, rfl, rfl⟩
  · exact ⟨_, rfl, rfl, rfl⟩
  · exact ⟨_, rfl, rfl, rfl⟩
  · exact ⟨_, rfl, rfl, rfl⟩
  · exact ⟨_, rfl, rfl, rfl⟩
  · exact ⟨_, rfl, rfl, big _ (by omega)⟩
  · exact ⟨_, rfl, rfl, big _ (by omega)⟩
  · exact ⟨_, rfl, rfl, rfl⟩
  · exact ⟨_, rfl, rfl, rfl⟩
theorem st0 {k i j : Nat} : idxD (stD k i j) (.int 0) = .ok (.str (wd k)) := by
  unfold stD
  split <;> rfl
theorem st1 {k i j : Nat} : idxD (stD k i j) (.int 1) = .ok (.int i) := by
  unfold stD
  split <;> rfl
def rstD (k i j : Nat) : List D := if k ≤ 6 then [.int i, .int j] else [.int i]
theorem st_rest {k i j : Nat} : slcD (stD k i j) (some 1) none = .ok (.tup (rstD k i j)) := by
  unfold stD rstD
  split <;> rfl
theorem st_cons {k i j : Nat} : stD k i j = .tup (.str (wd k) :: rstD k i j) := by
  unfold stD rstD
  split <;> rfl
theorem rst_nice {k i j : Nat} : ∀ d ∈ rstD k i j, nice d = true := fun d hd => by
  unfold rstD at hd
  split at hd
  · rcases List.mem_cons.mp hd with rfl | hd
    · rfl
    · rw [List.mem_singleton.mp hd]
      rfl
  · rw [List.mem_singleton.mp hd]
    rfl
theorem rst_len {k i j : Nat} : (rstD k i j).length ≤ 2 := by
  unfold rstD
  split
  · exact Nat.le_refl 2
  · exact Nat.le_succ 1
theorem told_st {p : Int × Int} (hp : isSz p) {k i j : Nat} (h : StOk p k i j) : toldB p k (rstD k i j) = true := by
  obtain ⟨h1, h2, h3, h4⟩ := h
  obtain ⟨z1, z2, z3, z4⟩ := sz_rng hp
  unfold rstD
  by_cases q : k ≤ 6
  · rw [if_pos q]
    show (decide (k ≤ 6) && ((decide (0 ≤ (i : Int)) && decide ((i : Int) < p.2)) && (decide (0 ≤ (j : Int)) && decide ((j : Int) < if k = 6 then ((2 ^ p.1.toNat : Nat) : Int) else p.2)))) = true
    rw [decide_eq_true q, decide_eq_true (by omega), decide_eq_true (by omega), decide_eq_true (by omega)]
    by_cases e : k = 6
    · rw [if_pos e, decide_eq_true (by have := h4 e; omega)]
      rfl
    · rw [if_neg e, decide_eq_true (by have := h3 (by omega); omega)]
      rfl
  · rw [if_neg q]
    show (decide (7 ≤ k) && (decide (0 ≤ (i : Int)) && decide ((i : Int) < p.2))) = true
    rw [decide_eq_true (by omega), decide_eq_true (by omega), decide_eq_true (by omega)]
    rfl
theorem readB_len {k i j : Nat} : (readB k i j).length ≤ 2 := by
  by_cases h : k < 5
  · rw [readB_two h]
    split
    · exact Nat.le_succ 1
    · exact Nat.le_refl 2
  · unfold readB
    rw [if_neg h]
    split
    · exact Nat.le_succ 1
    · split
      · exact Nat.zero_le _
      · exact Nat.le_succ 1
end Ev

/-! Part V: the boxes that matter along a row. -/
namespace Ev
open PySem PySem.Spec PyProof.Rows L2
/-- boxes of a size, rising -/
def IsBx (p : Int × Int) (m : List Int) : Prop := m.Pairwise (· < ·) ∧ ∀ b ∈ m, 0 ≤ b ∧ b < p.2
/-- the boxes that matter ahead of a step -/
def ahB (s : Stp) (m : List Int) : List Int := if (s.2.1 : Int) ∈ m then sortU (m.filter (fun b => decide (b ≠ (s.2.1 : Int))) ++ readB s.1 s.2.1 s.2.2) else m
def hdB (L : List (List Int)) : List Int := L.headD []
/-- the boxes that matter ahead of each step, and behind the last one -/
def latB (l : List (Stp × Int)) : List Nat → List Int → List (List Int)
  | [], m => [m]
  | n :: r, m => ahB (stf l n) (hdB (latB l r m)) :: latB l r m
def hL (l : List (Stp × Int)) (r : List Nat) (m : List Int) : List Int := hdB (latB l r m)
section
variable {p : Int × Int} {l : List (Stp × Int)} {m : List Int}
theorem hL_nil : hL l [] m = m := rfl
theorem hL_cons {n : Nat} {r : List Nat} : hL l (n :: r) m = ahB (stf l n) (hL l r m) := rfl
theorem latB_cons {n : Nat} {r : List Nat} : latB l (n :: r) m = ahB (stf l n) (hL l r m) :: latB l r m := rfl
theorem latB_len : ∀ {r : List Nat}, (latB l r m).length = r.length + 1
  | [] => rfl
  | n :: r => by rw [latB_cons, List.length_cons, latB_len, List.length_cons]
theorem latB_at : ∀ {r : List Nat} {i : Nat}, i ≤ r.length → (latB l r m)[i]? = some (hL l (r.drop i) m)
  | [], i, h => by
    have : i = 0 := by simpa using h
    subst this
    rfl
  | n :: r, 0, _ => rfl
  | n :: r, i + 1, h => by
    rw [latB_cons, List.getElem?_cons_succ, latB_at (by simpa using h)]
    rfl
theorem ahB_mem {s : Stp} {b : Int} : b ∈ ahB s m ↔ if (s.2.1 : Int) ∈ m then ((b ∈ m ∧ b ≠ (s.2.1 : Int)) ∨ b ∈ readB s.1 s.2.1 s.2.2) else b ∈ m := by
  unfold ahB
  split
  · rw [sortU_mem, List.mem_append, List.mem_filter, decide_eq_true_iff]
  · exact Iff.rfl
theorem ahB_ok (hp : isSz p) {s : Stp} (hs : sOk p s) (h : IsBx p m) : IsBx p (ahB s m) := by
  obtain ⟨z1, z2, z3, z4⟩ := sz_rng hp
  refine ⟨?_, fun b hb => ?_⟩
  · unfold ahB
    split
    · exact sortU_pw
    · exact h.1
  · rw [ahB_mem] at hb
    split at hb
    · rcases hb with hb | hb
      · exact h.2 b hb.1
      · obtain ⟨n, e, hn, _⟩ := readB_mem hs b hb
        omega
    · exact h.2 b hb
theorem hL_ok (hp : isSz p) (hl : ∀ n, n < l.length → sOk p (stf l n)) : ∀ {r : List Nat}, (∀ n ∈ r, n < l.length) → IsBx p m → IsBx p (hL l r m)
  | [], _, h => h
  | n :: r, hr, h => by
    rw [hL_cons]
    exact ahB_ok hp (hl n (hr n (List.mem_cons_self ..))) (hL_ok hp hl (fun k hk => hr k (List.mem_cons_of_mem _ hk)) h)
/-- the law's own: gone through all boxes -/
def ahL (p : Int × Int) (s : Stp) (m : List Int) : List Int := if (s.2.1 : Int) ∈ m then ((List.range p.2.toNat).map fun (n : Nat) => (n : Int)).filter (fun b => (decide (b ∈ m) && decide (b ≠ (s.2.1 : Int))) || decide (b ∈ readB s.1 s.2.1 s.2.2)) else m
theorem range_pw (n : Nat) : ((List.range n).map fun (n : Nat) => (n : Int)).Pairwise (· < ·) := List.pairwise_map.mpr (List.Pairwise.imp (fun h => by omega) List.pairwise_lt_range)
theorem ahL_eq (hp : isSz p) {s : Stp} (hs : sOk p s) (h : IsBx p m) : ahL p s m = ahB s m := by
  have ok := ahB_ok hp hs h
  unfold ahL
  split
  · rename_i q
    refine rising_uniq (List.Pairwise.filter _ (range_pw _)) ok.1 fun b => ?_
    rw [ahB_mem, if_pos q, List.mem_filter, Bool.or_eq_true, Bool.and_eq_true, decide_eq_true_iff, decide_eq_true_iff, decide_eq_true_iff]
    refine ⟨fun hb => hb.2, fun hb => ⟨?_, hb⟩⟩
    have hb' := ok.2 b (by rw [ahB_mem, if_pos q]; exact hb)
    exact List.mem_map.mpr ⟨b.toNat, List.mem_range.mpr (by omega), by omega⟩
  · rename_i q
    unfold ahB
    rw [if_neg q]
/-- two fillings have the same words in some boxes -/
def agr (m : List Int) (f g : List Int) : Prop := ∀ b : Nat, (b : Int) ∈ m → f.getD b 0 = g.getD b 0
theorem agr.refl (f : List Int) : agr m f f := fun _ _ => rfl
theorem agr_step {s : Stp} (hs : sOk p s) {f g : List Int} (hf : f ∈ FS p) (hg : g ∈ FS p) (h : agr (ahB s m) f g) : agr m (dnS p s f) (dnS p s g) := fun b hb => by
  have lf := (mem_FS.mp hf).1
  have lg := (mem_FS.mp hg).1
  have hi := hs.h2
  by_cases e : b = s.2.1
  · subst e
    show (dn p _ _ _ f).getD _ 0 = (dn p _ _ _ g).getD _ 0
    rw [dn_self (by omega), dn_self (by omega)]
    exact new_read hs.h1 fun n hn => h n (by rw [ahB_mem, if_pos hb]; exact .inr hn)
  · show (dn p _ _ _ f).getD _ 0 = (dn p _ _ _ g).getD _ 0
    rw [dn_else e, dn_else e]
    refine h b ?_
    rw [ahB_mem]
    split
    · exact .inl ⟨hb, fun z => e (by omega)⟩
    · exact hb
theorem agr_skip {s : Stp} {f : List Int} (h : (s.2.1 : Int) ∉ m) : agr m (dnS p s f) f := fun b hb => by
  have e : b ≠ s.2.1 := fun z => h (z ▸ hb)
  show (dn p _ _ _ f).getD _ 0 = _
  rw [dn_else e]
theorem agr.symm {f g : List Int} (h : agr m f g) : agr m g f := fun b hb => (h b hb).symm
theorem agr.trans {f g k : List Int} (h : agr m f g) (h' : agr m g k) : agr m f k := fun b hb => (h b hb).trans (h' b hb)
theorem rowF_cons {n : Nat} {r : List Nat} {f : List Int} : rowF p l (n :: r) f = rowF p l r (dnS p (stf l n) f) := rfl
theorem agr_row (hl : ∀ n, n < l.length → sOk p (stf l n)) : ∀ {r : List Nat}, (∀ n ∈ r, n < l.length) → ∀ {f g : List Int}, f ∈ FS p → g ∈ FS p → agr (hL l r m) f g → agr m (rowF p l r f) (rowF p l r g)
  | [], _, f, g, _, _, h => h
  | n :: r, hr, f, g, hf, hg, h => by
    rw [rowF_cons, rowF_cons]
    have hs := hl n (hr n (List.mem_cons_self ..))
    exact agr_row hl (fun k hk => hr k (List.mem_cons_of_mem _ hk)) (dn_mem hf) (dn_mem hg) (agr_step hs hf hg h)
/-- a row without the steps that write no box that matters -/
def prB (l : List (Stp × Int)) (m : List Int) : List Nat → List Nat
  | [] => []
  | n :: r => if ((stf l n).2.1 : Int) ∈ hL l r m then n :: prB l m r else prB l m r
/-- their places, the first one's place being k -/
def ouB (l : List (Stp × Int)) (m : List Int) : List Nat → Nat → List Nat
  | [], _ => []
  | n :: r, k => if ((stf l n).2.1 : Int) ∈ hL l r m then ouB l m r (k + 1) else k :: ouB l m r (k + 1)
theorem prB_cons {n : Nat} {r : List Nat} : prB l m (n :: r) = if ((stf l n).2.1 : Int) ∈ hL l r m then n :: prB l m r else prB l m r := rfl
theorem ouB_cons {n k : Nat} {r : List Nat} : ouB l m (n :: r) k = if ((stf l n).2.1 : Int) ∈ hL l r m then ouB l m r (k + 1) else k :: ouB l m r (k + 1) := rfl
theorem prB_mem : ∀ {r : List Nat} {n : Nat}, n ∈ prB l m r → n ∈ r
  | [], n, h => nomatch h
  | k :: r, n, h => by
    unfold prB at h
    split at h
    · rcases List.mem_cons.mp h with e | h
      · rw [e]
        exact List.mem_cons_self ..
      · exact List.mem_cons_of_mem _ (prB_mem h)
    · exact List.mem_cons_of_mem _ (prB_mem h)
theorem prB_len : ∀ {r : List Nat}, (prB l m r).length ≤ r.length
  | [] => Nat.le_refl _
  | n :: r => by
    unfold prB
    have := prB_len (r := r)
    split
    · rw [List.length_cons, List.length_cons]
      omega
    · rw [List.length_cons]
      omega
theorem prB_hL : ∀ {r : List Nat}, hL l (prB l m r) m = hL l r m
  | [] => rfl
  | n :: r => by
    unfold prB
    by_cases h : ((stf l n).2.1 : Int) ∈ hL l r m
    · rw [if_pos h, hL_cons, prB_hL, hL_cons]
    · rw [if_neg h, prB_hL, hL_cons]
      unfold ahB
      rw [if_neg h]
theorem prB_row (hl : ∀ n, n < l.length → sOk p (stf l n)) : ∀ {r : List Nat}, (∀ n ∈ r, n < l.length) → ∀ {f g : List Int}, f ∈ FS p → g ∈ FS p → agr (hL l r m) f g → agr m (rowF p l r f) (rowF p l (prB l m r) g)
  | [], _, f, g, _, _, h => h
  | n :: r, hr, f, g, hf, hg, h => by
    have hs := hl n (hr n (List.mem_cons_self ..))
    have hr' : ∀ k ∈ r, k < l.length := fun k hk => hr k (List.mem_cons_of_mem _ hk)
    unfold prB
    by_cases q : ((stf l n).2.1 : Int) ∈ hL l r m
    · rw [if_pos q, rowF_cons, rowF_cons]
      exact prB_row hl hr' (dn_mem hf) (dn_mem hg) (agr_step hs hf hg h)
    · rw [if_neg q, rowF_cons]
      refine prB_row hl hr' (dn_mem hf) hg ((agr_skip q).trans ?_)
      rw [hL_cons] at h
      unfold ahB at h
      rw [if_neg q] at h
      exact h
theorem prB_all : ∀ {r : List Nat} {i n : Nat}, (prB l m r)[i]? = some n → ((stf l n).2.1 : Int) ∈ hL l ((prB l m r).drop (i + 1)) m
  | [], i, n, h => by simp [prB] at h
  | k :: r, i, n, h => by
    unfold prB at h ⊢
    by_cases q : ((stf l k).2.1 : Int) ∈ hL l r m
    · rw [if_pos q] at h ⊢
      cases i with
      | zero =>
        simp at h
        subst h
        show _ ∈ hL l (prB l m r) m
        rw [prB_hL]
        exact q
      | succ i => exact prB_all (r := r) (by simpa using h)
    · rw [if_neg q] at h ⊢
      exact prB_all h
theorem prB_stay : ∀ {s : List Nat}, (∀ i n, s[i]? = some n → ((stf l n).2.1 : Int) ∈ hL l (s.drop (i + 1)) m) → prB l m s = s ∧ ∀ k, ouB l m s k = []
  | [], _ => ⟨rfl, fun _ => rfl⟩
  | n :: s, h => by
    have h0 : ((stf l n).2.1 : Int) ∈ hL l s m := h 0 n rfl
    obtain ⟨h1, h2⟩ := prB_stay (s := s) fun i k e => h (i + 1) k (by simpa using e)
    refine ⟨?_, fun k => ?_⟩
    · unfold prB
      rw [if_pos h0, h1]
    · unfold ouB
      rw [if_pos h0, h2]
theorem prB_idem {r : List Nat} : prB l m (prB l m r) = prB l m r ∧ ∀ k, ouB l m (prB l m r) k = [] := prB_stay fun i n e => prB_all e
/-- a row's first n steps gone through -/
theorem prB_take {r : List Nat} : ∀ {i : Nat}, i ≤ r.length → ∃ a b : List Nat, prB l m r = a ++ prB l m (r.drop i) ∧ ouB l m r 0 = b ++ ouB l m (r.drop i) i ∧ a.length ≤ i ∧ b.length ≤ i
  | 0, _ => ⟨[], [], rfl, rfl, Nat.le_refl _, Nat.le_refl _⟩
  | i + 1, h => by
    obtain ⟨a, b, e1, e2, e3, e4⟩ := prB_take (r := r) (i := i) (by omega)
    have hd : r.drop i = r[i]'(by omega) :: r.drop (i + 1) := List.drop_eq_getElem_cons (by omega)
    rw [hd, prB_cons] at e1
    rw [hd, ouB_cons] at e2
    by_cases q : ((stf l (r[i]'(by omega))).2.1 : Int) ∈ hL l (r.drop (i + 1)) m
    · rw [if_pos q] at e1 e2
      exact ⟨a ++ [r[i]'(by omega)], b, by rw [e1, List.append_assoc]; rfl, e2, by rw [List.length_append, List.length_singleton]; omega, by omega⟩
    · rw [if_neg q] at e1 e2
      exact ⟨a, b ++ [i], e1, by rw [e2, List.append_assoc]; rfl, by omega, by rw [List.length_append, List.length_singleton]; omega⟩
end
/-- lists of lists of ints -/
def lis (L : List (List Int)) : List D := L.map fun m => .lst (m.map D.int)
theorem lis_len (L : List (List Int)) : (lis L).length = L.length := List.length_map ..
theorem lis_app (L M : List (List Int)) : lis L ++ lis M = lis (L ++ M) := (List.map_append ..).symm
theorem lis_rev (L : List (List Int)) : (lis L).reverse = lis L.reverse := List.map_reverse.symm
theorem lis_at {L : List (List Int)} {i : Nat} {m : List Int} (h : L[i]? = some m) : (lis L)[i]? = some (.lst (m.map D.int)) := by
  unfold lis
  rw [List.getElem?_map, h]
  rfl
theorem at_lastD {xs : List D} {y : D} : getAt (xs ++ [y]) (-1) = .ok y := by
  unfold getAt
  have e : atI (xs ++ [y]) (-1) = some y := by
    unfold atI ixN
    rw [if_neg (by decide), if_pos (by rw [List.length_append, List.length_singleton]; omega)]
    show (xs ++ [y])[(-1 + (((xs ++ [y]).length : Nat) : Int)).toNat]? = _
    rw [show (-1 + (((xs ++ [y]).length : Nat) : Int)).toNat = xs.length by rw [List.length_append, List.length_singleton]; omega, List.getElem?_append_right (Nat.le_refl _), Nat.sub_self]
    rfl
  rw [e]
theorem compL_filt {f : D → R (Option D)} (q : Int → Bool) : ∀ l : List Int, (∀ x ∈ l, f (.int x) = .ok (if q x then some (.int x) else none)) → compL f (l.map D.int) = .ok ((l.filter q).map D.int)
  | [], _ => rfl
  | x :: l, h => by
    show (f (.int x)).bind (fun o => (compL f (l.map D.int)).bind fun ys => match o with
      | some y => .ok (y :: ys)
      | none => .ok ys) = _
    rw [h x (List.mem_cons_self ..), okb, compL_filt q l fun y hy => h y (List.mem_cons_of_mem _ hy), okb]
    by_cases e : q x = true
    · rw [if_pos e, List.filter_cons, if_pos e]
      rfl
    · rw [if_neg e, List.filter_cons, if_neg e]
theorem srs_ints {l : List Int} (h : l.length < 60) : srsD (.lst (l.map D.int)) = .ok (.lst ((sortU l).map D.int)) := by
  show (match intsOf (l.map D.int) with
    | some is => (chk (decide (is.length < 60))).bind fun _ => R.ok (D.lst ((sortU is).map D.int))
    | none => .bad) = _
  rw [ints_of]
  show (chk (decide (l.length < 60))).bind _ = _
  rw [decide_eq_true h]
  rfl
theorem pw_len' {N : Int} : ∀ {m : List Int} {a : Int}, m.Pairwise (· < ·) → (∀ b ∈ m, a ≤ b ∧ b < N) → (m.length : Int) ≤ max 0 (N - a)
  | [], a, _, _ => by
    show ((0 : Nat) : Int) ≤ _
    omega
  | x :: m, a, h, hb => by
    obtain ⟨h1, h2⟩ := List.pairwise_cons.mp h
    have hx := hb x (List.mem_cons_self ..)
    have := pw_len' (a := x + 1) h2 fun b hm => ⟨by have := h1 b hm; omega, (hb b (List.mem_cons_of_mem _ hm)).2⟩
    rw [List.length_cons]
    omega
theorem pw_len {p : Int × Int} {m : List Int} (h : IsBx p m) : m.length ≤ p.2.toNat := by
  have := pw_len' (a := 0) (N := p.2) h.1 h.2
  omega
/-! ### reckoning -/
theorem bind_assoc {α β γ : Type} {x : R α} {f : α → R β} {g : β → R γ} : (x.bind f).bind g = x.bind fun a => (f a).bind g := by
  cases x <;> rfl
section
variable {Φ : Nat → List D → R D} {M : Nat → Nat → Option Nat} {r : ISs} {σ : Sg}
theorem st_mutp {i : Nat} {e : IE} {m : MU} {es : IEs} : evSs Φ M (.cons (.mut i (.so e) m es) r) σ = (getV σ i).bind fun d => (evE Φ M e σ).bind fun k => (evEs Φ M es σ).bind fun xs => (chk (pureAll xs)).bind fun _ => (muAt m d k xs).bind fun d' => evSs Φ M r (σ.set i (some d')) := by
  show ((getV σ i).bind fun d => (evE Φ M e σ).bind fun k => (evEs Φ M es σ).bind fun xs => (chk (pureAll xs)).bind fun _ => (muAt m d k xs).bind fun d' => R.ok (Fl.nx (σ.set i (some d')))).bind _ = _
  simp only [bind_assoc, ok_bind]
theorem st_probe {g : IEo} {x j : Nat} {e c : IE} : evSs Φ M (.cons (.probe g x j e c) r) σ = thenS (evS Φ M (.probe g x j e c) σ) (evSs Φ M r) := nr rfl
theorem pb_0 {g : D → Sg → R Bool} {ef : Sg → R D} {cf : Sg → R Bool} {j k : Nat} {ds : List D} : prbL g ef cf j σ k 0 ds = .ok (.nx (σ.set j (some (.lst ds)))) := nr rfl
end
theorem rng_bx (n : Nat) : rngD 0 n = ((List.range n).map fun (i : Nat) => (i : Int)).map D.int := by
  rw [rngD_map, List.map_map]
  refine List.map_congr_left fun i _ => ?_
  show D.int (0 + i) = D.int i
  rw [Int.zero_add]
theorem all_bx (p : Int × Int) : IsBx p ((List.range p.2.toNat).map fun (i : Nat) => (i : Int)) := ⟨range_pw _, fun b hb => by
  obtain ⟨i, hi, rfl⟩ := List.mem_map.mp hb
  have := List.mem_range.mp hi
  omega⟩
theorem filt_bx {p : Int × Int} {m : List Int} (h : IsBx p m) (q : Int → Bool) : IsBx p (m.filter q) := ⟨List.Pairwise.filter _ h.1, fun b hb => h.2 b (List.mem_filter.mp hb).1⟩
theorem ints_rw {N : Nat} : ∀ {L : List Int}, (∀ x ∈ L, 0 ≤ x ∧ x < (N : Int)) → ∃ r : List Nat, L.map D.int = rwD r ∧ r.length = L.length ∧ ∀ n ∈ r, n < N
  | [], _ => ⟨[], rfl, rfl, fun n h => nomatch h⟩
  | x :: L, h => by
    obtain ⟨r, e1, e2, e3⟩ := ints_rw (L := L) fun y hy => h y (List.mem_cons_of_mem _ hy)
    have hx := h x (List.mem_cons_self ..)
    refine ⟨x.toNat :: r, ?_, by rw [List.length_cons, List.length_cons, e2], fun n hn => ?_⟩
    · show D.int x :: L.map D.int = D.int ((x.toNat : Nat) : Int) :: rwD r
      rw [e1, show ((x.toNat : Nat) : Int) = x by omega]
    · rcases List.mem_cons.mp hn with z | z
      · omega
      · exact e3 n z
theorem rev_step {r : List Nat} {i n : Nat} (h : r.reverse[i]? = some n) : i < r.length ∧ r.drop (r.length - (i + 1)) = n :: r.drop (r.length - i) := by
  have hi : i < r.length := by
    have := (List.getElem?_eq_some_iff.mp h).1
    rwa [List.length_reverse] at this
  rw [List.getElem?_reverse hi] at h
  obtain ⟨h1, h2⟩ := List.getElem?_eq_some_iff.mp h
  refine ⟨hi, ?_⟩
  rw [show r.length - (i + 1) = r.length - 1 - i by omega, List.drop_eq_getElem_cons h1, h2]
  rw [show r.length - 1 - i + 1 = r.length - i by omega]
theorem lat_hd {l : List (Stp × Int)} {r : List Nat} {m : List Int} : ∃ T, latB l r m = hL l r m :: T := by
  cases r with
  | nil => exact ⟨[], rfl⟩
  | cons n r => exact ⟨latB l r m, rfl⟩
theorem lat_last {l : List (Stp × Int)} {r : List Nat} {m : List Int} : getAt (lis (latB l r m).reverse) (-1) = .ok (.lst ((hL l r m).map D.int)) := by
  obtain ⟨T, e⟩ := lat_hd (l := l) (r := r) (m := m)
  rw [e, List.reverse_cons, ← lis_app]
  exact at_lastD
theorem lat_snoc {x : List Int} {L : List (List Int)} : lis L.reverse ++ [D.lst (x.map D.int)] = lis (x :: L).reverse := by
  rw [List.reverse_cons, ← lis_app]
  rfl
/-- the words seen in some boxes -/
def snB (m f : List Int) : List Int := m.map fun b => f.getD b.toNat 0
theorem sn_agr {p : Int × Int} {m f g : List Int} (h : IsBx p m) (a : agr m f g) : snB m f = snB m g := List.map_congr_left fun b hb => by
  have := h.2 b hb
  exact a b.toNat (by rw [show ((b.toNat : Nat) : Int) = b by omega]; exact hb)
theorem compL_ii {f : D → R (Option D)} (g : Int → Int) : ∀ l : List Int, (∀ x ∈ l, f (.int x) = .ok (some (.int (g x)))) → compL f (l.map D.int) = .ok ((l.map g).map D.int)
  | [], _ => rfl
  | x :: l, h => by
    rw [List.map_cons, cl_c, h x (List.mem_cons_self ..), okb, compL_ii g l fun y hy => h y (List.mem_cons_of_mem _ hy)]
    rfl
theorem lst_len {l : List (List Int)} : ((lis l).length : Int) = (l.length : Int) := by rw [lis_len]
theorem lis_geta {l : List (Stp × Int)} {r : List Nat} {m : List Int} {i : Nat} (h : i ≤ r.length) : getAt (lis (latB l r m)) (i : Int) = .ok (.lst ((hL l (r.drop i) m).map D.int)) := at_nat (lis_at (latB_at h))
theorem wq0_not : cmpD .Eq (.str (Str.ofString "and")) (.str (Str.ofString "not")) = .ok false := by kernel_rfl
theorem wq0_up : cmpD .Eq (.str (Str.ofString "and")) (.str (Str.ofString "up")) = .ok false := by kernel_rfl
theorem wq0_down : cmpD .Eq (.str (Str.ofString "and")) (.str (Str.ofString "down")) = .ok false := by kernel_rfl
theorem wq0_and : cmpD .Eq (.str (Str.ofString "and")) (.str (Str.ofString "and")) = .ok true := by kernel_rfl
theorem wq0_or : cmpD .Eq (.str (Str.ofString "and")) (.str (Str.ofString "or")) = .ok false := by kernel_rfl
theorem wq0_xor : cmpD .Eq (.str (Str.ofString "and")) (.str (Str.ofString "xor")) = .ok false := by kernel_rfl
theorem wq0_add : cmpD .Eq (.str (Str.ofString "and")) (.str (Str.ofString "add")) = .ok false := by kernel_rfl
theorem wq0_take : cmpD .Eq (.str (Str.ofString "and")) (.str (Str.ofString "take")) = .ok false := by kernel_rfl
theorem wq1_not : cmpD .Eq (.str (Str.ofString "or")) (.str (Str.ofString "not")) = .ok false := by kernel_rfl
theorem wq1_up : cmpD .Eq (.str (Str.ofString "or")) (.str (Str.ofString "up")) = .ok false := by kernel_rfl
theorem wq1_down : cmpD .Eq (.str (Str.ofString "or")) (.str (Str.ofString "down")) = .ok false := by kernel_rfl
theorem wq1_and : cmpD .Eq (.str (Str.ofString "or")) (.str (Str.ofString "and")) = .ok false := by kernel_rfl
theorem wq1_or : cmpD .Eq (.str (Str.ofString "or")) (.str (Str.ofString "or")) = .ok true := by kernel_rfl
theorem wq1_xor : cmpD .Eq (.str (Str.ofString "or")) (.str (Str.ofString "xor")) = .ok false := by kernel_rfl
theorem wq1_add : cmpD .Eq (.str (Str.ofString "or")) (.str (Str.ofString "add")) = .ok false := by kernel_rfl
theorem wq1_take : cmpD .Eq (.str (Str.ofString "or")) (.str (Str.ofString "take")) = .ok false := by kernel_rfl
theorem wq2_not : cmpD .Eq (.str (Str.ofString "xor")) (.str (Str.ofString "not")) = .ok false := by kernel_rfl
theorem wq2_up : cmpD .Eq (.str (Str.ofString "xor")) (.str (Str.ofString "up")) = .ok false := by kernel_rfl
theorem wq2_down : cmpD .Eq (.str (Str.ofString "xor")) (.str (Str.ofString "down")) = .ok false := by kernel_rfl
theorem wq2_and : cmpD .Eq (.str (Str.ofString "xor")) (.str (Str.ofString "and")) = .ok false := by kernel_rfl
theorem wq2_or : cmpD .Eq (.str (Str.ofString "xor")) (.str (Str.ofString "or")) = .ok false := by kernel_rfl
theorem wq2_xor : cmpD .Eq (.str (Str.ofString "xor")) (.str (Str.ofString "xor")) = .ok true := by kernel_rfl
theorem wq2_add : cmpD .Eq (.str (Str.ofString "xor")) (.str (Str.ofString "add")) = .ok false := by kernel_rfl
theorem wq2_take : cmpD .Eq (.str (Str.ofString "xor")) (.str (Str.ofString "take")) = .ok false := by kernel_rfl
theorem wq3_not : cmpD .Eq (.str (Str.ofString "add")) (.str (Str.ofString "not")) = .ok false := by kernel_rfl
theorem wq3_up : cmpD .Eq (.str (Str.ofString "add")) (.str (Str.ofString "up")) = .ok false := by kernel_rfl
theorem wq3_down : cmpD .Eq (.str (Str.ofString "add")) (.str (Str.ofString "down")) = .ok false := by kernel_rfl
theorem wq3_and : cmpD .Eq (.str (Str.ofString "add")) (.str (Str.ofString "and")) = .ok false := by kernel_rfl
theorem wq3_or : cmpD .Eq (.str (Str.ofString "add")) (.str (Str.ofString "or")) = .ok false := by kernel_rfl
theorem wq3_xor : cmpD .Eq (.str (Str.ofString "add")) (.str (Str.ofString "xor")) = .ok false := by kernel_rfl
theorem wq3_add : cmpD .Eq (.str (Str.ofString "add")) (.str (Str.ofString "add")) = .ok true := by kernel_rfl
theorem wq3_take : cmpD .Eq (.str (Str.ofString "add")) (.str (Str.ofString "take")) = .ok false := by kernel_rfl
theorem wq4_not : cmpD .Eq (.str (Str.ofString "take")) (.str (Str.ofString "not")) = .ok false := by kernel_rfl
theorem wq4_up : cmpD .Eq (.str (Str.ofString "take")) (.str (Str.ofString "up")) = .ok false := by kernel_rfl
theorem wq4_down : cmpD .Eq (.str (Str.ofString "take")) (.str (Str.ofString "down")) = .ok false := by kernel_rfl
theorem wq4_and : cmpD .Eq (.str (Str.ofString "take")) (.str (Str.ofString "and")) = .ok false := by kernel_rfl
theorem wq4_or : cmpD .Eq (.str (Str.ofString "take")) (.str (Str.ofString "or")) = .ok false := by kernel_rfl
theorem wq4_xor : cmpD .Eq (.str (Str.ofString "take")) (.str (Str.ofString "xor")) = .ok false := by kernel_rfl
theorem wq4_add : cmpD .Eq (.str (Str.ofString "take")) (.str (Str.ofString "add")) = .ok false := by kernel_rfl
theorem wq4_take : cmpD .Eq (.str (Str.ofString "take")) (.str (Str.ofString "take")) = .ok true := by kernel_rfl
theorem wq5_not : cmpD .Eq (.str (Str.ofString "copy")) (.str (Str.ofString "not")) = .ok false := by kernel_rfl
theorem wq5_up : cmpD .Eq (.str (Str.ofString "copy")) (.str (Str.ofString "up")) = .ok false := by kernel_rfl
theorem wq5_down : cmpD .Eq (.str (Str.ofString "copy")) (.str (Str.ofString "down")) = .ok false := by kernel_rfl
theorem wq5_and : cmpD .Eq (.str (Str.ofString "copy")) (.str (Str.ofString "and")) = .ok false := by kernel_rfl
theorem wq5_or : cmpD .Eq (.str (Str.ofString "copy")) (.str (Str.ofString "or")) = .ok false := by kernel_rfl
theorem wq5_xor : cmpD .Eq (.str (Str.ofString "copy")) (.str (Str.ofString "xor")) = .ok false := by kernel_rfl
theorem wq5_add : cmpD .Eq (.str (Str.ofString "copy")) (.str (Str.ofString "add")) = .ok false := by kernel_rfl
theorem wq5_take : cmpD .Eq (.str (Str.ofString "copy")) (.str (Str.ofString "take")) = .ok false := by kernel_rfl
theorem wq6_not : cmpD .Eq (.str (Str.ofString "put")) (.str (Str.ofString "not")) = .ok false := by kernel_rfl
theorem wq6_up : cmpD .Eq (.str (Str.ofString "put")) (.str (Str.ofString "up")) = .ok false := by kernel_rfl
theorem wq6_down : cmpD .Eq (.str (Str.ofString "put")) (.str (Str.ofString "down")) = .ok false := by kernel_rfl
theorem wq6_and : cmpD .Eq (.str (Str.ofString "put")) (.str (Str.ofString "and")) = .ok false := by kernel_rfl
theorem wq6_or : cmpD .Eq (.str (Str.ofString "put")) (.str (Str.ofString "or")) = .ok false := by kernel_rfl
theorem wq6_xor : cmpD .Eq (.str (Str.ofString "put")) (.str (Str.ofString "xor")) = .ok false := by kernel_rfl
theorem wq6_add : cmpD .Eq (.str (Str.ofString "put")) (.str (Str.ofString "add")) = .ok false := by kernel_rfl
theorem wq6_take : cmpD .Eq (.str (Str.ofString "put")) (.str (Str.ofString "take")) = .ok false := by kernel_rfl
theorem wq7_not : cmpD .Eq (.str (Str.ofString "not")) (.str (Str.ofString "not")) = .ok true := by kernel_rfl
theorem wq7_up : cmpD .Eq (.str (Str.ofString "not")) (.str (Str.ofString "up")) = .ok false := by kernel_rfl
theorem wq7_down : cmpD .Eq (.str (Str.ofString "not")) (.str (Str.ofString "down")) = .ok false := by kernel_rfl
theorem wq7_and : cmpD .Eq (.str (Str.ofString "not")) (.str (Str.ofString "and")) = .ok false := by kernel_rfl
theorem wq7_or : cmpD .Eq (.str (Str.ofString "not")) (.str (Str.ofString "or")) = .ok false := by kernel_rfl
theorem wq7_xor : cmpD .Eq (.str (Str.ofString "not")) (.str (Str.ofString "xor")) = .ok false := by kernel_rfl
theorem wq7_add : cmpD .Eq (.str (Str.ofString "not")) (.str (Str.ofString "add")) = .ok false := by kernel_rfl
theorem wq7_take : cmpD .Eq (.str (Str.ofString "not")) (.str (Str.ofString "take")) = .ok false := by kernel_rfl
theorem wq8_not : cmpD .Eq (.str (Str.ofString "up")) (.str (Str.ofString "not")) = .ok false := by kernel_rfl
theorem wq8_up : cmpD .Eq (.str (Str.ofString "up")) (.str (Str.ofString "up")) = .ok true := by kernel_rfl
theorem wq8_down : cmpD .Eq (.str (Str.ofString "up")) (.str (Str.ofString "down")) = .ok false := by kernel_rfl
theorem wq8_and : cmpD .Eq (.str (Str.ofString "up")) (.str (Str.ofString "and")) = .ok false := by kernel_rfl
theorem wq8_or : cmpD .Eq (.str (Str.ofString "up")) (.str (Str.ofString "or")) = .ok false := by kernel_rfl
theorem wq8_xor : cmpD .Eq (.str (Str.ofString "up")) (.str (Str.ofString "xor")) = .ok false := by kernel_rfl
theorem wq8_add : cmpD .Eq (.str (Str.ofString "up")) (.str (Str.ofString "add")) = .ok false := by kernel_rfl
theorem wq8_take : cmpD .Eq (.str (Str.ofString "up")) (.str (Str.ofString "take")) = .ok false := by kernel_rfl
theorem wq9_not : cmpD .Eq (.str (Str.ofString "down")) (.str (Str.ofString "not")) = .ok false := by kernel_rfl
theorem wq9_up : cmpD .Eq (.str (Str.ofString "down")) (.str (Str.ofString "up")) = .ok false := by kernel_rfl
theorem wq9_down : cmpD .Eq (.str (Str.ofString "down")) (.str (Str.ofString "down")) = .ok true := by kernel_rfl
theorem wq9_and : cmpD .Eq (.str (Str.ofString "down")) (.str (Str.ofString "and")) = .ok false := by kernel_rfl
theorem wq9_or : cmpD .Eq (.str (Str.ofString "down")) (.str (Str.ofString "or")) = .ok false := by kernel_rfl
theorem wq9_xor : cmpD .Eq (.str (Str.ofString "down")) (.str (Str.ofString "xor")) = .ok false := by kernel_rfl
theorem wq9_add : cmpD .Eq (.str (Str.ofString "down")) (.str (Str.ofString "add")) = .ok false := by kernel_rfl
theorem wq9_take : cmpD .Eq (.str (Str.ofString "down")) (.str (Str.ofString "take")) = .ok false := by kernel_rfl
theorem cut_drop {α : Type} {xs : List α} {i : Nat} (h : i ≤ xs.length) : cutD xs (some (i : Int)) none = xs.drop i := by
  unfold cutD HT.sIx
  have e : (xs.drop i).length = xs.length - i := List.length_drop
  simp only [Int.toNat_natCast]
  rw [if_neg (by omega), Nat.min_eq_left h]
  exact List.take_of_length_le (by rw [e]; exact Nat.le_refl _)
/-! ### the law's own -/
def rdL (k i j : Nat) : List Int := if k = 6 then [] else if k = 5 then [(j : Int)] else if 6 < k then [(i : Int)] else [(i : Int), (j : Int)]
theorem rdL_mem {k i j : Nat} {b : Int} : b ∈ rdL k i j ↔ b ∈ readB k i j := by
  unfold rdL readB
  by_cases h5 : k < 5
  · rw [if_neg (by omega), if_neg (by omega), if_neg (by omega), if_pos h5, sortU_mem]
  · rw [if_neg h5]
    by_cases e5 : k = 5
    · rw [if_neg (by omega), if_pos e5, if_pos e5]
    · by_cases e6 : k = 6
      · rw [if_pos e6, if_neg e5, if_pos e6]
      · rw [if_neg e6, if_neg e5, if_pos (by omega), if_neg e5, if_neg e6]
theorem mu_ins {xs : List D} {y : D} : muD .insert (.lst xs) [.int 0, y] = (chk (decide (xs.length < line) && decide ((0 : Int) = 0))).bind fun _ => .ok (.lst (y :: xs)) := nr rfl
theorem mu_at1 {x y : D} {ys : List D} : muAt .append (.tup [x, .lst ys]) (.int 1) [y] = (chk (pureAll ys)).bind fun _ => (muD .append (.lst ys) [y]).bind fun z => .ok (.tup [x, z]) := nr rfl
theorem pure_rw (r : List Nat) : pureAll (rwD r) = true := by
  rw [show rwD r = (rI r).map D.int by unfold rwD rI; rw [List.map_map]; rfl]
  exact pure_ints _
theorem pure_trw (r : List Nat) : (D.tup (rwD r)).pure = true := pure_rw r
theorem in_rw (i : Nat) (r : List Nat) : inD (.int (i : Nat)) (.lst (rwD r)) = .ok (decide (i ∈ r)) := by
  rw [show rwD r = (rI r).map D.int by unfold rwD rI; rw [List.map_map]; rfl, in_li]
  congr 1
  have : ((i : Nat) : Int) ∈ rI r ↔ i ∈ r := by
    unfold rI
    rw [List.mem_map]
    exact ⟨fun ⟨a, h, e⟩ => by rw [← (show a = i by omega)]; exact h, fun h => ⟨i, h, rfl⟩⟩
  exact decide_eq_decide.mpr this
theorem compL_natQ {f : D → R (Option D)} (q : Nat → Bool) (h : Nat → Nat) : ∀ is : List Nat, (∀ i ∈ is, f (.int (i : Nat)) = .ok (if q i then some (.int (h i : Nat)) else none)) → compL f (rwD is) = .ok (rwD ((is.filter q).map h))
  | [], _ => rfl
  | i :: is, H => by
    show compL f (.int (i : Nat) :: rwD is) = _
    rw [cl_c, H i (List.mem_cons_self ..), okb, compL_natQ q h is fun j hj => H j (List.mem_cons_of_mem _ hj), okb, List.filter_cons]
    by_cases e : q i = true
    · rw [if_pos e, if_pos e]
      rfl
    · rw [if_neg e, if_neg e]
theorem compL_lis {f : D → R (Option D)} (q : List Int → Bool) : ∀ M : List (List Int), (∀ x ∈ M, f (.lst (x.map D.int)) = .ok (if q x then some (.lst (x.map D.int)) else none)) → compL f (lis M) = .ok (lis (M.filter q))
  | [], _ => rfl
  | x :: M, H => by
    show compL f (.lst (x.map D.int) :: lis M) = _
    rw [cl_c, H x (List.mem_cons_self ..), okb, compL_lis q M fun y hy => H y (List.mem_cons_of_mem _ hy), okb, List.filter_cons]
    by_cases e : q x = true
    · rw [if_pos e, if_pos e]
      rfl
    · rw [if_neg e, if_neg e]
def mtB (l : List (Stp × Int)) (m : List Int) (r : List Nat) (i : Nat) : Bool := decide (((stf l (r.getD i 0)).2.1 : Int) ∈ hL l (r.drop (i + 1)) m)
theorem filter_range_succ {q : Nat → Bool} {n : Nat} : (List.range (n + 1)).filter q = (if q 0 then [0] else []) ++ ((List.range n).filter fun i => q (i + 1)).map (· + 1) := by
  rw [List.range_succ_eq_map, List.filter_cons, List.filter_map]
  by_cases e : q 0 = true
  · rw [if_pos e, if_pos e]
    rfl
  · rw [if_neg e, if_neg e]
    rfl
section
variable {l : List (Stp × Int)} {m : List Int}
theorem mtB_s {n i : Nat} {r : List Nat} : mtB l m (n :: r) (i + 1) = mtB l m r i := rfl
theorem mtB_0 {n : Nat} {r : List Nat} : mtB l m (n :: r) 0 = decide (((stf l n).2.1 : Int) ∈ hL l r m) := rfl
theorem ouB_eq : ∀ {r : List Nat} {k : Nat}, ouB l m r k = ((List.range r.length).filter fun i => !mtB l m r i).map (· + k)
  | [], k => rfl
  | n :: r, k => by
    rw [ouB_cons, List.length_cons, filter_range_succ, mtB_0]
    have ih := ouB_eq (r := r) (k := k + 1)
    have e : ((List.range r.length).filter fun i => !mtB l m (n :: r) (i + 1)) = (List.range r.length).filter fun i => !mtB l m r i := rfl
    rw [e, List.map_append, List.map_map]
    have e2 : ((· + k) ∘ (· + 1) : Nat → Nat) = (· + (k + 1)) := by
      funext x
      show x + 1 + k = x + (k + 1)
      omega
    rw [e2, ← ih]
    by_cases h : ((stf l n).2.1 : Int) ∈ hL l r m
    · rw [if_pos h, decide_eq_true h]
      rfl
    · rw [if_neg h, decide_eq_false h]
      show k :: _ = [0 + k] ++ _
      rw [Nat.zero_add]
      rfl
theorem prB_eq : ∀ {r : List Nat}, prB l m r = ((List.range r.length).filter fun i => mtB l m r i).map fun i => r.getD i 0
  | [] => rfl
  | n :: r => by
    rw [prB_cons, List.length_cons, filter_range_succ, mtB_0]
    have ih := prB_eq (r := r)
    have e : ((List.range r.length).filter fun i => mtB l m (n :: r) (i + 1)) = (List.range r.length).filter fun i => mtB l m r i := rfl
    rw [e, List.map_append, List.map_map]
    have e2 : ((fun i => (n :: r).getD i 0) ∘ (· + 1) : Nat → Nat) = fun i => r.getD i 0 := rfl
    rw [e2, ← ih]
    by_cases h : ((stf l n).2.1 : Int) ∈ hL l r m
    · rw [if_pos h, decide_eq_true h]
      rfl
    · rw [if_neg h, decide_eq_false h]
      rfl
theorem ouB_mem {r : List Nat} {i : Nat} (h : i < r.length) : i ∈ ouB l m r 0 ↔ mtB l m r i = false := by
  rw [ouB_eq, show ((· + 0) : Nat → Nat) = id from rfl, List.map_id, List.mem_filter, List.mem_range]
  cases mtB l m r i <;> simp [h]
end
theorem sh_pr (a b : List Nat) : (D.tup [.tup (rwD a), .lst (rwD b)]).shaped = true := by
  refine sh_of (n := 2) ?_ ?_
  · show PyData.canLayAll0 [.tuple (toPs (rwD a)), .list (toPs (rwD b))] = true
    rw [toPs_rw, toPs_rw]
    have h1 := can_is (rI a)
    have h2 := can_is (rI b)
    simp [PyData.canLayAll0, PyData.canLay0, h1, h2]
  · show PyData.depth (.tuple [.tuple (toPs (rwD a)), .list (toPs (rwD b))]) ≤ 2
    rw [toPs_rw, toPs_rw]
    have h1 := PySem.W.depth_ints (rI a)
    have h2 := PySem.W.depth_ints (rI b)
    simp [PyData.depth, PyData.depthAll, h1, h2]
theorem sh_hd (l : List (Stp × Int)) (m : List Int) : (D.lst [.lst (stkD l), .lst (m.map D.int)]).shaped = true := by
  have c1 : (D.lst (stkD l)).toP.canLay0 = true := can_lst can_pr l
  have d1 : (D.lst (stkD l)).toP.depth ≤ 3 := dep_lst dep_pr l
  have c2 : (D.lst (m.map D.int)).toP.canLay0 = true := can_lst (fun _ => rfl) m
  have d2 : (D.lst (m.map D.int)).toP.depth ≤ 1 := dep_lst (n := 0) (fun _ => Nat.le_refl _) m
  refine sh_of (n := 4) ?_ ?_
  · show PyData.canLayAll0 [(D.lst (stkD l)).toP, (D.lst (m.map D.int)).toP] = true
    simp [PyData.canLayAll0, c1, c2]
  · show PyData.depth (.list [(D.lst (stkD l)).toP, (D.lst (m.map D.int)).toP]) ≤ 4
    simp only [PyData.depth, PyData.depthAll]
    omega
theorem one_nine : ∀ {M : List (List Int)} {k : Nat} {y : List Int}, (∀ x ∈ M, (9 : Int) ∉ x) → k < M.length → (9 : Int) ∈ y → ((M.set k y).filter fun x => decide ((9 : Int) ∈ x)).length = 1
  | [], k, y, _, h, _ => by simp at h
  | x :: M, 0, y, h, _, hy => by
    rw [List.set_cons_zero, List.filter_cons, if_pos (decide_eq_true hy), List.length_cons]
    rw [List.filter_eq_nil_iff.mpr fun z hz => by
      rw [decide_eq_true_iff]
      exact h z (List.mem_cons_of_mem _ hz)]
    rfl
  | x :: M, k + 1, y, h, hk, hy => by
    rw [List.set_cons_succ, List.filter_cons, if_neg (by rw [decide_eq_true_iff]; exact h x (List.mem_cons_self ..))]
    exact one_nine (fun z hz => h z (List.mem_cons_of_mem _ hz)) (by simpa using hk) hy
theorem lis_set {M : List (List Int)} {k : Nat} {y : List Int} : (lis M).set k (.lst (y.map D.int)) = lis (M.set k y) := by
  unfold lis
  rw [List.map_set]
theorem lat_bx {p : Int × Int} {l : List (Stp × Int)} {m : List Int} (hp : isSz p) (hl : ∀ n, n < l.length → sOk p (stf l n)) {r : List Nat} (hr : ∀ n ∈ r, n < l.length) (hm : IsBx p m) : ∀ x ∈ latB l r m, IsBx p x := fun x hx => by
  obtain ⟨i, hi⟩ := List.getElem?_of_mem hx
  have li := (List.getElem?_eq_some_iff.mp hi).1
  rw [latB_len] at li
  rw [latB_at (by omega)] at hi
  cases hi
  exact hL_ok hp hl (fun n hn => hr n (List.mem_of_mem_drop hn)) hm
theorem zip_lis {L : List (List Int)} {i : Nat} {x : D} (h : (zipD (lis L) (lis L))[i]? = some x) : ∃ m ∈ L, x = .tup [.lst (m.map D.int), .lst (m.map D.int)] := by
  obtain ⟨a, b, h1, h2, rfl⟩ := zipD_get _ _ _ _ h
  unfold lis at h1 h2
  rw [List.getElem?_map] at h1 h2
  cases q : L[i]? with
  | none => rw [q] at h1; cases h1
  | some m =>
    rw [q] at h1 h2
    cases h1
    cases h2
    exact ⟨m, List.mem_of_getElem? q, rfl⟩
theorem pb_s {g : D → Sg → R Bool} {ef : Sg → R D} {cf : Sg → R Bool} {j k m : Nat} {σ : Sg} {ds ys : List D} {d : D} (h1 : ds[k]? = some (.lst ys)) (h2 : g (.lst ys) (σ.set j (some (.lst ds))) = .ok true) (h3 : pureAll ys = true) (h4 : ys.length < line) (h5 : ef (σ.set j (some (.lst ds))) = .ok d) (h6 : d.pure = true)
    (h7 : cf (σ.set j (some (.lst (ds.set k (.lst (ys ++ [d])))))) = .ok false) : prbL g ef cf j σ k (m + 1) ds = prbL g ef cf j σ (k + 1) m (ds.set k (.lst [])) := by
  rw [prbL]
  rw [h1]
  dsimp only
  rw [h2, ok_bind, if_pos rfl, h3, decide_eq_true h4]
  show (R.ok ()).bind _ = _
  rw [ok_bind, h5, ok_bind, h6, chk_true, ok_bind, h7, ok_bind, if_neg (by decide)]
theorem probe_go {g : D → Sg → R Bool} {ef : Sg → R D} {cf : Sg → R Bool} {j : Nat} {σ : Sg} (hg : ∀ (y : List Int) s, g (.lst (y.map D.int)) s = .ok true) (he : ∀ s, ef s = .ok (.int 9))
    (hc : ∀ M : List (List Int), M.length ≤ 1000 → (M.filter fun x => decide ((9 : Int) ∈ x)).length = 1 → cf (σ.set j (some (.lst (lis M)))) = .ok false) : ∀ (n k : Nat) (M : List (List Int)), M.length = k + n → (∀ x ∈ M, (9 : Int) ∉ x ∧ x.length ≤ 1000) → M.length ≤ 1000 → ∃ M', prbL g ef cf j σ k n (lis M) = .ok (.nx (σ.set j (some (.lst (lis M')))))
  | 0, k, M, _, _, _ => ⟨M, rfl⟩
  | n + 1, k, M, hk, hM, hz => by
    have kl : k < M.length := by omega
    obtain ⟨y, hy⟩ : ∃ y, M[k]? = some y := ⟨_, List.getElem?_eq_getElem kl⟩
    have my := List.mem_of_getElem? hy
    obtain ⟨M', e⟩ := probe_go hg he hc n (k + 1) (M.set k []) (by rw [List.length_set]; omega) (fun x hx => by
      rcases List.mem_or_eq_of_mem_set hx with z | z
      · exact hM x z
      · subst z
        exact ⟨(fun h => nomatch h), by decide⟩) (by rw [List.length_set]; exact hz)
    refine ⟨M', ?_⟩
    have one := one_nine (M := M) (k := k) (y := y ++ [9]) (fun x hx => (hM x hx).1) kl (List.mem_append_right _ (List.mem_singleton.mpr rfl))
    have ly := (hM y my).2
    rw [pb_s (lis_at hy) (hg _ _) (pure_ints _) (by rw [List.length_map]; show _ < sizeLine; rw [sizeLine_eq]; omega) (he _) rfl ?_]
    · rw [show (D.lst []) = D.lst (([] : List Int).map D.int) from rfl, lis_set]
      exact e
    · rw [show y.map D.int ++ [D.int 9] = (y ++ [9]).map D.int by rw [List.map_append]; rfl, lis_set]
      exact hc _ (by rw [List.length_set]; exact hz) one
theorem cm_nll : cmpD .NotEq (.lst []) (.lst []) = .ok false := nr rfl
end Ev

/-! Part Y: wishes like tables. -/
namespace Ev
open PySem PySem.Spec PyProof.Rows L2
/-- what may come instead of a, some boxes looked at -/
def likeW (p : Int × Int) (lk : Option (List Nat)) (a : List Int) : Option (List (List Int)) := if lk = some [] then none else some ((FS p).filter fun f => decide (seen f lk = seen a lk))
theorem compL_fsF {f : D → R (Option D)} (q : List Int → Bool) : ∀ A : List (List Int), (∀ a ∈ A, f (tp a) = .ok (if q a then some (tp a) else none)) → compL f (fs A) = .ok (fs (A.filter q))
  | [], _ => rfl
  | x :: A, H => by
    show compL f (tp x :: fs A) = _
    rw [cl_c, H x (List.mem_cons_self ..), okb, compL_fsF q A fun y hy => H y (List.mem_cons_of_mem _ hy), okb, List.filter_cons]
    by_cases e : q x = true
    · rw [if_pos e, if_pos e]
      rfl
    · rw [if_neg e, if_neg e]
theorem compL_each {α : Type} {f : D → R (Option D)} (g : α → D) (k : α → D) : ∀ A : List α, (∀ a ∈ A, f (g a) = .ok (some (k a))) → compL f (A.map g) = .ok (A.map k)
  | [], _ => rfl
  | x :: A, H => by
    rw [List.map_cons, cl_c, H x (List.mem_cons_self ..), okb, compL_each g k A fun y hy => H y (List.mem_cons_of_mem _ hy)]
    rfl
theorem compL_some {f : D → R (Option D)} (u : Nat → Option (List Int)) : ∀ is : List Nat, (∀ i ∈ is, f (.int (i : Nat)) = .ok ((u i).map tp)) → compL f (rwD is) = .ok (fs (is.filterMap u))
  | [], _ => rfl
  | i :: is, H => by
    show compL f (.int (i : Nat) :: rwD is) = _
    rw [cl_c, H i (List.mem_cons_self ..), okb, compL_some u is fun j hj => H j (List.mem_cons_of_mem _ hj), okb, List.filterMap_cons]
    cases u i <;> rfl
theorem lk_eq0 (lk : Option (List Nat)) : cmpD .Eq (lkD lk) (.lst []) = .ok (decide (lk = some [])) := by
  cases lk with
  | none =>
    rw [cm_eqg rfl rfl]
    rfl
  | some js =>
    have := cm_eqli (rI js) []
    rw [show (rI js).map D.int = js.map (fun (j : Nat) => D.int (j : Int)) by unfold rI; rw [List.map_map]; rfl] at this
    refine Eq.trans this ?_
    cases js <;> rfl
theorem bxs_nil {b : Nat} (hb : 0 < b) (lk : Option (List Nat)) : bxs b lk = [] ↔ lk = some [] := by
  cases lk with
  | none =>
    show List.range b = [] ↔ _
    constructor
    · intro h
      have := congrArg List.length h
      rw [List.length_range] at this
      simp at this
      omega
    · intro h
      cases h
  | some js =>
    show js = [] ↔ _
    constructor
    · intro h
      rw [h]
    · intro h
      cases h
      rfl
theorem like_unl {p : Int × Int} (hp : isSz p) {lk : Option (List Nat)} {a : List Int} (ha : a ∈ FS p) : likeW p lk a = if bxs p.2.toNat lk = [] then none else some ((FS p).filter fun f => !unl f a (bxs p.2.toNat lk)) := by
  obtain ⟨z1, z2, z3, z4⟩ := sz_rng hp
  unfold likeW
  by_cases h : lk = some []
  · rw [if_pos h, if_pos ((bxs_nil (by omega) lk).mpr h)]
  · rw [if_neg h, if_neg fun e => h ((bxs_nil (by omega) lk).mp e)]
    congr 1
    refine List.filter_congr fun f hf => ?_
    rw [← seen_ne (mem_FS.mp hf).1 (mem_FS.mp ha).1, Bool.not_not]
/-- where tables part -/
def parF (p : Int × Int) (bs : List Nat) (t o : List (List Int)) (i : Nat) : Option (List Int) := if unl (t.getD i []) (o.getD i []) bs then some ((FS p).getD i []) else none
theorem miss_par {p : Int × Int} (hp : isSz p) {lk : Option (List Nat)} {t o : List (List Int)} (ht : t.length = (FS p).length) (ho : o.length = (FS p).length) (mt : ∀ f ∈ t, f ∈ FS p) (mo : ∀ f ∈ o, f ∈ FS p) {i : Nat} (hi : i < (FS p).length) :
    missR (FS p) (t.map (likeW p lk)) o i = (parF p (bxs p.2.toNat lk) t o i).map tp := by
  obtain ⟨z1, z2, z3, z4⟩ := sz_rng hp
  have e1 : t[i]? = some (t.getD i []) := getD_some (by omega)
  have e2 : o[i]? = some (o.getD i []) := getD_some (by omega)
  have e3 : (FS p)[i]? = some ((FS p).getD i []) := getD_some hi
  have mt' := mt _ (getD_mem (d := []) (show i < t.length by omega))
  have mo' := mo _ (getD_mem (d := []) (show i < o.length by omega))
  unfold missR parF
  rw [List.getElem?_map, e1, e2, e3]
  generalize t.getD i [] = a at *
  generalize o.getD i [] = b at *
  rw [Option.map_some, like_unl hp mt']
  by_cases h : bxs p.2.toNat lk = []
  · rw [if_pos h, h]
    rfl
  · rw [if_neg h]
    show (if b ∈ _ then _ else _) = _
    rw [unl_comm]
    by_cases q : unl b a (bxs p.2.toNat lk) = true
    · rw [if_pos q, if_neg fun z => by
        have := (List.mem_filter.mp z).2
        rw [q] at this
        cases this]
      rfl
    · rw [if_neg q, if_pos (List.mem_filter.mpr ⟨mo', by rw [Bool.not_eq_true] at q; rw [q]; rfl⟩)]
      rfl
theorem find_map {r : Nat → Option D} {u : Nat → Option (List Int)} {n : Nat} (h : ∀ i, i < n → r i = (u i).map tp) : firstR r n = ((List.range n).filterMap u).head?.map tp := by
  unfold firstR
  rw [List.head?_filterMap]
  have : ∀ is : List Nat, (∀ i ∈ is, r i = (u i).map tp) → is.findSome? r = (is.findSome? u).map tp := fun is => by
    induction is with
    | nil => exact fun _ => rfl
    | cons i is ih =>
      intro H
      rw [List.findSome?_cons, List.findSome?_cons, H i (List.mem_cons_self ..)]
      cases u i with
      | none => exact ih fun j hj => H j (List.mem_cons_of_mem _ hj)
      | some x => rfl
  exact this _ fun i hi => h i (List.mem_range.mp hi)
theorem mD_par {p : Int × Int} (hp : isSz p) {lk : Option (List Nat)} {t o : List (List Int)} (ht : t.length = (FS p).length) (ho : o.length = (FS p).length) (mt : ∀ f ∈ t, f ∈ FS p) (mo : ∀ f ∈ o, f ∈ FS p) :
    mD (FS p) (t.map (likeW p lk)) o = (((List.range (FS p).length).filterMap (parF p (bxs p.2.toNat lk) t o)).head?.map tp).getD .non := by
  unfold mD
  rw [find_map fun i hi => miss_par hp ht ho mt mo hi]
theorem mD_same {p : Int × Int} (hp : isSz p) {lk : Option (List Nat)} {t : List (List Int)} (ht : t.length = (FS p).length) (mt : ∀ f ∈ t, f ∈ FS p) : mD (FS p) (t.map (likeW p lk)) t = .non := by
  rw [mD_par hp ht ht mt mt]
  have : (List.range (FS p).length).filterMap (parF p (bxs p.2.toNat lk) t t) = [] := List.filterMap_eq_nil_iff.mpr fun i _ => by
    unfold parF
    rw [unl_self]
    rfl
  rw [this]
  rfl
theorem mu_atL {m : MU} {ds ys xs : List D} {i : Nat} (h : ds[i]? = some (.lst ys)) (hp : pureAll ys = true) : muAt m (.lst ds) (.int (i : Nat)) xs = (muD m (.lst ys) xs).bind fun y => .ok (.lst (ds.set i y)) := by
  have hi := (List.getElem?_eq_some_iff.mp h).1
  have e : ixN ds.length (i : Int) = some i := by
    unfold ixN
    rw [if_pos (by omega), if_pos (by omega)]
    rfl
  show (match ixN ds.length (i : Int) with
    | some j => match ds[j]? with
      | some (.lst ys) => (chk (pureAll ys)).bind fun _ => (muD m (.lst ys) xs).bind fun y => R.ok (D.lst (ds.set j y))
      | _ => .bad
    | none => .bad) = _
  rw [e]
  show (match ds[i]? with
      | some (.lst ys) => (chk (pureAll ys)).bind fun _ => (muD m (.lst ys) xs).bind fun y => R.ok (D.lst (ds.set i y))
      | _ => .bad) = _
  rw [h]
  show (chk (pureAll ys)).bind _ = _
  rw [hp]
  rfl
theorem pure_fs : ∀ A : List (List Int), pureAll (fs A) = true
  | [] => rfl
  | a :: A => by
    show ((tp a).pure && pureAll (fs A)) = true
    rw [pure_fs A, Bool.and_true]
    exact pure_ints a
theorem rev_fs (A : List (List Int)) : (fs A).reverse = fs A.reverse := List.map_reverse.symm
theorem cut_to {α : Type} {xs : List α} {i : Nat} (h : i ≤ xs.length) : cutD xs none (some (i : Int)) = xs.take i := by
  unfold cutD HT.sIx
  simp only [Int.toNat_natCast]
  rw [if_neg (by omega), Nat.min_eq_left h, List.drop_zero, Nat.sub_zero]
theorem zip_w {w : List (Option (List (List Int)))} {i : Nat} {x : D} (h : (zipD (ws w) (ws w))[i]? = some x) : ∃ y ∈ w, x = .tup [wo y, wo y] := by
  obtain ⟨a, b, h1, h2, rfl⟩ := zipD_get _ _ _ _ h
  rw [h1] at h2
  cases h2
  obtain ⟨y, _, my, rfl⟩ := ws_inv h1
  exact ⟨y, my, rfl⟩
theorem zip_f {A : List (List Int)} {i : Nat} {x : D} (h : (zipD (fs A) (fs A))[i]? = some x) : ∃ f ∈ A, x = .tup [tp f, tp f] := by
  obtain ⟨a, b, h1, h2, rfl⟩ := zipD_get _ _ _ _ h
  rw [h1] at h2
  cases h2
  obtain ⟨y, _, my, rfl⟩ := fs_inv h1
  exact ⟨y, my, rfl⟩
theorem cm_erw (X : List Nat) : cmpD .Eq (.lst (rwD X)) (.lst []) = .ok (decide (X = [])) := by
  have := cm_eqli (rI X) []
  rw [show (rI X).map D.int = rwD X by unfold rwD rI; rw [List.map_map]; rfl] at this
  refine Eq.trans this ?_
  cases X <;> rfl
theorem cm_nfs (X : List (List Int)) : cmpD .NotEq (.lst (fs X)) (.lst []) = .ok (!decide (X = [])) := cm_nef X []
theorem ty_wo {ls : List (List Int)} : tyIs (wo (some ls)) .list = some true := rfl
theorem lkD_none : lkD none = .non := rfl
end Ev

/-! Part L: dicts with fillings for keys; tables turned. -/
namespace Ev
open PySem PySem.Spec PyProof.Rows L2
/-! dicts with fillings for keys -/
def nF (f : List Int) : NestedKey := .tup (f.map .num)
theorem nks_ints : ∀ f : List Int, nksOf (f.map D.int) = some (f.map .num)
  | [] => rfl
  | x :: f => by
    show (match nkOf (.int x), nksOf (f.map D.int) with
      | some k, some ks => some (k :: ks)
      | _, _ => none) = _
    rw [nks_ints f]
    rfl
theorem dep_nums : ∀ f : List Int, NestedKey.depthAll (f.map .num) = 0
  | [] => rfl
  | x :: f => by
    show max _ (NestedKey.depthAll (f.map .num)) = 0
    rw [dep_nums f]
    rfl
theorem nk_tp (f : List Int) : nkT (tp f) = some (nF f) := by
  show (match nksOf (f.map D.int) with
      | some ks => if (NestedKey.tup ks).depth ≤ 8 then some (NestedKey.tup ks) else none
      | none => none) = _
  rw [nks_ints f]
  have : (NestedKey.tup (f.map .num)).depth = 1 := by
    show NestedKey.depthAll (f.map .num) + 1 = 1
    rw [dep_nums f]
  show (if (NestedKey.tup (f.map .num)).depth ≤ 8 then some (NestedKey.tup (f.map .num)) else none) = _
  rw [this]
  rfl
theorem nF_inj {f g : List Int} (h : nF f = nF g) : f = g := by
  unfold nF at h
  injection h with h
  induction f generalizing g with
  | nil => cases g with
    | nil => rfl
    | cons b g => cases h
  | cons a f ih => cases g with
    | nil => cases h
    | cons b g =>
      injection h with h1 h2
      injection h1 with h1
      rw [h1, ih h2]
def fkv (L : List (List Int × D)) : List (D × D) := L.map fun e => (tp e.1, e.2)
def fdD : List (List Int × D) → D
  | [] => .dct []
  | e :: L => .dcn (fkv (e :: L))
theorem has_fkv (f : List Int) : ∀ L : List (List Int × D), hasN (nF f) (fkv L) = decide (f ∈ L.map (·.1))
  | [] => rfl
  | e :: L => by
    show (decide (nkT (tp e.1) = some (nF f)) || hasN (nF f) (fkv L)) = _
    rw [has_fkv f L, nk_tp]
    by_cases h : e.1 = f
    · subst h
      simp
    · have : ¬ (some (nF e.1) = some (nF f)) := fun q => h (nF_inj (Option.some.inj q))
      rw [decide_eq_false this]
      have h' : ¬ f = e.1 := fun q => h q.symm
      simp [h']
theorem val_fkv {f : List Int} {d : D} : ∀ {L : List (List Int × D)}, (L.map (·.1)).Nodup → (f, d) ∈ L → valN (nF f) (fkv L) = some d
  | e :: L, hn, hm => by
    rw [List.map_cons, List.nodup_cons] at hn
    show (if nkT (tp e.1) = some (nF f) then some e.2 else valN (nF f) (fkv L)) = _
    rw [nk_tp]
    by_cases h : e.1 = f
    · rw [if_pos (by rw [h])]
      rcases List.mem_cons.mp hm with q | q
      · rw [← q]
      · exact absurd (h ▸ List.mem_map.mpr ⟨_, q, rfl⟩) hn.1
    · rw [if_neg (fun q => h (nF_inj (Option.some.inj q)))]
      rcases List.mem_cons.mp hm with q | q
      · exact absurd (by rw [← q]) h
      · exact val_fkv hn.2 q
theorem ix_fdD {f : List Int} {d : D} {L : List (List Int × D)} (hn : (L.map (·.1)).Nodup) (hm : (f, d) ∈ L) : idxD (fdD L) (tp f) = .ok d := by
  cases L with
  | nil => cases hm
  | cons e L =>
    show (match nkT (tp f) with
      | some q => match valN q (fkv (e :: L)) with
        | some v => R.ok v
        | none => .bad
      | none => .bad) = _
    rw [nk_tp]
    show (match valN (nF f) (fkv (e :: L)) with
        | some v => R.ok v
        | none => .bad) = _
    rw [val_fkv hn hm]
theorem mu_fdD {f : List Int} {d : D} {L : List (List Int × D)} (hl : L.length < 1000) (hn : f ∉ L.map (·.1)) : muD .set (fdD L) [d, tp f] = .ok (fdD (L ++ [(f, d)])) := by
  cases L with
  | nil =>
    show (match nkT (tp f) with
        | some q => (chk ([] : List (L2.Key × D)).isEmpty).bind fun _ => R.ok (D.dcn (putN [] (tp f) q d))
        | none => .bad) = _
    rw [nk_tp]
    rfl
  | cons e L =>
    show (match nkT (tp f) with
      | some q => (chk (decide ((fkv (e :: L)).length < line))).bind fun _ => R.ok (D.dcn (putN (fkv (e :: L)) (tp f) q d))
      | none => .bad) = _
    rw [nk_tp]
    have l : (fkv (e :: L)).length < line := by
      rw [line_val, fkv, List.length_map]
      omega
    show (chk (decide ((fkv (e :: L)).length < line))).bind _ = _
    rw [decide_eq_true l, chkt, okb]
    unfold putN
    rw [has_fkv, decide_eq_false hn]
    show R.ok (D.dcn (fkv (e :: L) ++ [(tp f, d)])) = R.ok (D.dcn (fkv (e :: (L ++ [(f, d)]))))
    simp [fkv]
/-! tables turned -/
theorem FS_nodup {p : Int × Int} (hp : isSz p) : (FS p).Nodup := by
  unfold isSz at hp
  simp only [List.mem_cons, List.mem_nil_iff, or_false] at hp
  rcases hp with rfl | rfl | rfl | rfl | rfl | rfl | rfl | rfl | rfl | rfl | rfl | rfl | rfl | rfl <;> decide +kernel
theorem back_back {n : Nat} {t : List Nat} (h : IsTurn n t) : backT n (backT n t) = t := by
  have hb := backT_turn h
  have l1 := turn_len h
  have l2 := turn_len (backT_turn hb)
  apply List.ext_getElem (by rw [l1, l2])
  intro b h1 h2
  have hbn : b < n := by omega
  have e1 : (backT n (backT n t)).getD b 0 = (backT n t).idxOf b := backT_at hbn
  have lt := turn_lt h hbn
  have e2 : (backT n t).getD (t.getD b 0) 0 = b := by rw [backT_at lt, turn_ix h hbn]
  have e3 : (backT n t).idxOf b = t.getD b 0 := by
    have := turn_ix hb lt
    rw [e2] at this
    exact this
  rw [e3] at e1
  rw [List.getD_eq_getElem?_getD, List.getD_eq_getElem?_getD, List.getElem?_eq_getElem h1, List.getElem?_eq_getElem h2] at e1
  exact e1
theorem turn_fwd {p : Int × Int} {t : List Nat} (h : IsTurn p.2.toNat t) {f : List Int} (hf : f ∈ FS p) : turnF p.2.toNat t (turnF p.2.toNat (backT p.2.toNat t) f) = f := by
  have := turn_back (backT_turn h) hf
  rw [back_back h] at this
  exact this
def turnT (p : Int × Int) (t : List Nat) (T : List (List Int)) : List (List Int) := (FS p).map fun f => turnF p.2.toNat t (T.getD (numF p (turnF p.2.toNat (backT p.2.toNat t) f)) [])
theorem turnT_len {p : Int × Int} {t : List Nat} {T : List (List Int)} : (turnT p t T).length = (FS p).length := List.length_map ..
theorem getD_mem' {T : List (List Int)} {p : Int × Int} (hT : T.length = (FS p).length) (hm : ∀ f ∈ T, f ∈ FS p) {i : Nat} (hi : i < (FS p).length) : T.getD i [] ∈ FS p := by
  have h : i < T.length := by omega
  rw [List.getD_eq_getElem?_getD, List.getElem?_eq_getElem h]
  exact hm _ (List.getElem_mem h)
theorem turnT_at {p : Int × Int} (hp : isSz p) {t : List Nat} (h : IsTurn p.2.toNat t) {T : List (List Int)} {f : List Int} (hf : f ∈ FS p) : (turnT p t T).getD (numF p (turnF p.2.toNat t f)) [] = turnF p.2.toNat t (T.getD (numF p f) []) := by
  unfold turnT
  have hm := turnF_mem h hf
  rw [map_getD (d := []) (num_lt hp hm), FS_getD hp hm, turn_back h hf]
theorem turnT_mem {p : Int × Int} (hp : isSz p) {t : List Nat} (h : IsTurn p.2.toNat t) {T : List (List Int)} (hT : T.length = (FS p).length) (hm : ∀ f ∈ T, f ∈ FS p) : ∀ f ∈ turnT p t T, f ∈ FS p := fun f hf => by
  obtain ⟨g, hg, rfl⟩ := List.mem_map.mp hf
  exact turnF_mem h (getD_mem' hT hm (num_lt hp (turnF_mem (backT_turn h) hg)))
theorem turnT_back {p : Int × Int} (hp : isSz p) {t : List Nat} (h : IsTurn p.2.toNat t) {T : List (List Int)} (hT : T.length = (FS p).length) (hm : ∀ f ∈ T, f ∈ FS p) : turnT p (backT p.2.toNat t) (turnT p t T) = T := by
  refine Eq.trans ?_ (behF_none' hp hT)
  unfold behF
  show (FS p).map _ = (FS p).map _
  refine List.map_congr_left fun f hf => ?_
  rw [back_back h, turnT_at hp h hf, turn_back h (getD_mem' hT hm (num_lt hp hf))]
theorem row_turn {p : Int × Int} {t : List Nat} (h : IsTurn p.2.toNat t) {l : List (Stp × Int)} (hl : stkOk p l) : ∀ (r : List Nat), (∀ n ∈ r, n < l.length) → ∀ f ∈ FS p, rowF p (l.map fun x => (tst t x.1, x.2)) r (turnF p.2.toNat t f) = turnF p.2.toNat t (rowF p l r f)
  | [], _, f, _ => rfl
  | n :: r, hr, f, hf => by
    have hn := hr n (List.mem_cons_self ..)
    have ok := (stk_ok hl hn).1
    have e : stf (l.map fun x => (tst t x.1, x.2)) n = tst t (stf l n) := by
      unfold stf
      rw [map_getD (d := ((0, 0, 0), 0)) hn]
    have e2 : dnS p (tst t (stf l n)) (turnF p.2.toNat t f) = turnF p.2.toNat t (dnS p (stf l n) f) := dn_turn h ok hf
    show rowF p _ r (dnS p (stf (l.map fun x => (tst t x.1, x.2)) n) (turnF p.2.toNat t f)) = turnF p.2.toNat t (rowF p l r (dnS p (stf l n) f))
    rw [e, e2]
    exact row_turn h hl r (fun m hm => hr m (List.mem_cons_of_mem _ hm)) _ (dn_mem hf)
theorem tab_turn {p : Int × Int} (hp : isSz p) {t : List Nat} (h : IsTurn p.2.toNat t) {l : List (Stp × Int)} (hl : stkOk p l) {r : List Nat} (hr : ∀ n ∈ r, n < l.length) : tabF p (l.map fun x => (tst t x.1, x.2)) r = turnT p t (tabF p l r) := by
  unfold tabF turnT
  refine List.map_congr_left fun f hf => ?_
  have hm := turnF_mem (backT_turn h) hf
  rw [map_getD (d := []) (num_lt hp hm), FS_getD hp hm, ← row_turn h hl r hr _ hm, turn_fwd h hf]
theorem getD_at {T : List (List Int)} {i : Nat} (h : i < T.length) : T[i]? = some (T.getD i []) := by
  rw [List.getD_eq_getElem?_getD, List.getElem?_eq_getElem h]
  rfl
theorem nodup_map {α β : Type} {f : α → β} : ∀ {l : List α}, (∀ a ∈ l, ∀ b ∈ l, f a = f b → a = b) → l.Nodup → (l.map f).Nodup
  | [], _, _ => List.nodup_nil
  | a :: l, h, hn => by
    rw [List.nodup_cons] at hn
    rw [List.map_cons, List.nodup_cons]
    refine ⟨fun hm => ?_, nodup_map (fun x hx y hy => h x (List.mem_cons_of_mem _ hx) y (List.mem_cons_of_mem _ hy)) hn.2⟩
    obtain ⟨b, hb, e⟩ := List.mem_map.mp hm
    have := h b (List.mem_cons_of_mem _ hb) a (List.mem_cons_self ..) e
    exact hn.1 (this ▸ hb)
theorem fs_set {U : List (List Int)} {j : Nat} (h : j < U.length) (g : List Int) : muD .set (.lst (fs U)) [tp g, .int (j : Int)] = .ok (.lst (fs (U.set j g))) := by
  show (match L2.ixN (fs U).length (j : Int) with
    | some j => R.ok (D.lst ((fs U).set j (tp g)))
    | none => .bad) = _
  have e : ixN (fs U).length (j : Int) = some j := by
    unfold ixN
    rw [if_pos (by omega), if_pos (by rw [fs_len]; omega)]
    simp
  rw [e]
  show R.ok (D.lst _) = _
  rw [fs, fs, List.map_set]
end Ev

/-! Part F: lists of fillings sorted; wishes turned; looser wishes. -/
namespace Ev
open PySem PySem.Spec PyProof.Rows L2
theorem le_tab {p : Int × Int} (hp : isSz p) : ∀ i ∈ List.range (FS p).length, ∀ j ∈ List.range (FS p).length, leD (tp ((FS p).getD i [])) (tp ((FS p).getD j [])) = decide (i ≤ j) := by
  unfold isSz at hp
  simp only [List.mem_cons, List.mem_nil_iff, or_false] at hp
  rcases hp with rfl | rfl | rfl | rfl | rfl | rfl | rfl | rfl | rfl | rfl | rfl | rfl | rfl | rfl <;> decide +kernel
def inF (A : List (List Int)) (f : List Int) : Bool := decide (f ∈ A)
theorem FS_range {p : Int × Int} : FS p = (List.range (FS p).length).map fun i => (FS p).getD i [] := by
  apply List.ext_getElem?
  intro i
  rw [List.getElem?_map]
  by_cases h : i < (FS p).length
  · rw [List.getElem?_range h]
    exact getD_at h
  · rw [List.getElem?_eq_none (by omega), List.getElem?_eq_none (by rw [List.length_range]; omega)]
    rfl
theorem alike_ints : ∀ f g : List Int, PySem.W.alike (tp f).toP (tp g).toP = true
  | [], [] => rfl
  | [], b :: g => rfl
  | a :: f, [] => rfl
  | a :: f, b :: g => by
    have := alike_ints f g
    show (true && PySem.W.alikeAll (toPs (f.map D.int)) (toPs (g.map D.int))) = true
    rw [Bool.true_and]
    exact this
theorem fs_sortable (A : List (List Int)) (h : A.length ≤ 1000) (n : Nat) (hn : ∀ f ∈ A, f.length = n + 1) : sortable (fs A) = true := by
  unfold sortable
  rw [Bool.and_eq_true, Bool.and_eq_true]
  refine ⟨List.all_eq_true.mpr fun x hx => ?_, decide_eq_true (by rw [fs_len]; show _ ≤ sizeLine; rw [sizeLine_eq]; omega), List.all_eq_true.mpr fun x hx => List.all_eq_true.mpr fun y hy => ?_⟩
  · obtain ⟨f, hf, rfl⟩ := List.mem_map.mp hx
    have l := hn f hf
    cases f with
    | nil => simp at l
    | cons a f =>
      show ((tp (a :: f)).pure && ((tp (a :: f)).shaped && decide ((tp (a :: f)).toP.depth ≤ 60))) = true
      rw [show (tp (a :: f)).pure = true from pure_ints (a :: f), sh_tp, decide_eq_true (by have := dep_tp (a :: f); exact Nat.le_trans this (by decide))]
      rfl
  · obtain ⟨f, hf, rfl⟩ := List.mem_map.mp hx
    obtain ⟨g, hg, rfl⟩ := List.mem_map.mp hy
    have l1 := hn f hf
    have l2 := hn g hg
    exact alike_ints f g
/-- sorted fillings -/
theorem sort_fs {p : Int × Int} (hp : isSz p) {A : List (List Int)} (hn : A.Nodup) (hA : ∀ f ∈ A, f ∈ FS p) : biD .sorted [.lst (fs A)] = .ok (.lst (fs ((FS p).filter (inF A)))) := by
  obtain ⟨z1, z2, z3, z4⟩ := sz_rng hp
  obtain ⟨F0, F1⟩ := FS_len hp
  have la : A.length ≤ 64 := by
    have pm : ((FS p).filter (inF A)).Perm A := (List.perm_ext_iff_of_nodup (List.Pairwise.filter _ (FS_nodup hp)) hn).mpr fun a => ⟨fun h => of_decide_eq_true (List.mem_filter.mp h).2, fun h => List.mem_filter.mpr ⟨hA a h, decide_eq_true h⟩⟩
    rw [← pm.length_eq]
    exact Nat.le_trans (List.length_filter_le ..) F1
  have srt := fs_sortable A (by omega) (p.2.toNat - 1) fun f hf => by
    rw [FS_exact hp f (hA f hf)]
    omega
  have em : (fs A).mergeSort leD = fs ((FS p).filter (inF A)) := by
    let e : Int → D := fun i => tp ((FS p).getD i.toNat [])
    let is : List Int := A.map fun f => (numF p f : Int)
    let js : List Int := ((List.range (FS p).length).filter fun i => inF A ((FS p).getD i [])).map fun (i : Nat) => (i : Int)
    have e1 : fs A = is.map e := by
      show A.map tp = (A.map fun f => (numF p f : Int)).map e
      rw [List.map_map]
      refine List.map_congr_left fun f hf => ?_
      show tp f = tp ((FS p).getD ((numF p f : Int)).toNat [])
      rw [Int.toNat_natCast, FS_getD hp (hA f hf)]
    have hr : ∀ i ∈ is, ∃ n : Nat, i = n ∧ n < (FS p).length := fun i hi => by
      obtain ⟨f, hf, rfl⟩ := List.mem_map.mp hi
      exact ⟨numF p f, rfl, num_lt hp (hA f hf)⟩
    have e2 : (is.mergeSort (fun a b => decide (a ≤ b))).map e = (is.map e).mergeSort leD := List.map_mergeSort fun a ha b hb => by
      obtain ⟨i, rfl, hi⟩ := hr a ha
      obtain ⟨j, rfl, hj⟩ := hr b hb
      show decide ((i : Int) ≤ j) = leD (tp ((FS p).getD ((i : Int)).toNat [])) (tp ((FS p).getD ((j : Int)).toNat []))
      rw [Int.toNat_natCast, Int.toNat_natCast, le_tab hp i (List.mem_range.mpr hi) j (List.mem_range.mpr hj)]
      exact decide_eq_decide.mpr (by omega)
    have nis : is.Nodup := nodup_map (fun a ha b hb h => by
      have h : numF p a = numF p b := by omega
      rw [← FS_getD hp (hA a ha), ← FS_getD hp (hA b hb), h]) hn
    have njs : js.Nodup := nodup_map (fun a _ b _ h => by omega) (List.Pairwise.filter _ List.nodup_range)
    have pm : js.Perm is := (List.perm_ext_iff_of_nodup njs nis).mpr fun a => by
      constructor
      · intro h
        obtain ⟨i, hi, rfl⟩ := List.mem_map.mp h
        obtain ⟨h1, h2⟩ := List.mem_filter.mp hi
        have h1 := List.mem_range.mp h1
        have h2 : (FS p).getD i [] ∈ A := of_decide_eq_true h2
        exact List.mem_map.mpr ⟨_, h2, by rw [num_of hp i (List.mem_range.mpr h1)]⟩
      · intro h
        obtain ⟨f, hf, rfl⟩ := List.mem_map.mp h
        refine List.mem_map.mpr ⟨numF p f, List.mem_filter.mpr ⟨List.mem_range.mpr (num_lt hp (hA f hf)), ?_⟩, rfl⟩
        show decide _ = true
        rw [FS_getD hp (hA f hf)]
        exact decide_eq_true hf
    have pw : js.Pairwise (· ≤ ·) := by
      refine List.pairwise_map.mpr (List.Pairwise.filter _ ?_)
      exact (List.pairwise_lt_range (n := (FS p).length)).imp fun h => by omega
    have e3 := sortedInts_eq pm pw
    rw [e1, ← e2, ← e3]
    show (((List.range (FS p).length).filter fun i => inF A ((FS p).getD i [])).map fun (i : Nat) => (i : Int)).map e = ((FS p).filter (inF A)).map tp
    rw [List.map_map]
    conv => rhs; rw [FS_range, List.filter_map, List.map_map]
    refine List.map_congr_left fun i hi => ?_
    show tp ((FS p).getD ((i : Int)).toNat []) = tp ((FS p).getD i [])
    rw [Int.toNat_natCast]
  cases A with
  | nil =>
    show R.ok (D.lst ((([] : List Int).mergeSort (fun a b => decide (a ≤ b))).map D.int)) = _
    rw [← em, show fs [] = [] from rfl, List.mergeSort_nil, List.mergeSort_nil]
    rfl
  | cons a A =>
    show (match intsOf (fs (a :: A)) with
      | some is => R.ok (D.lst ((is.mergeSort (fun a b => decide (a ≤ b))).map D.int))
      | none => (chk (sortable (fs (a :: A)))).bind fun _ => R.ok (D.lst ((fs (a :: A)).mergeSort leD))) = _
    rw [show intsOf (fs (a :: A)) = none from rfl, srt, em]
    rfl
/-! lists of fillings, rising -/
def sub (p : Int × Int) (ls : List (List Int)) : Prop := (FS p).filter (inF ls) = ls
section
variable {p : Int × Int} {t : List Nat} {ls : List (List Int)}
theorem sub_mem (h : sub p ls) {f : List Int} (hf : f ∈ ls) : f ∈ FS p := by
  unfold sub at h
  rw [← h] at hf
  exact (List.mem_filter.mp hf).1
theorem sub_filter (q : List Int → Bool) : sub p ((FS p).filter q) := by
  unfold sub
  refine List.filter_congr fun f hf => ?_
  cases h : q f with
  | true => exact decide_eq_true (List.mem_filter.mpr ⟨hf, h⟩)
  | false =>
    refine decide_eq_false fun m => ?_
    rw [(List.mem_filter.mp m).2] at h
    cases h
theorem sub_nodup (hp : isSz p) (h : sub p ls) : ls.Nodup := by
  unfold sub at h
  rw [← h]
  exact List.Pairwise.filter _ (FS_nodup hp)
theorem sub_len (hp : isSz p) (h : sub p ls) : ls.length ≤ 64 := by
  unfold sub at h
  rw [← h]
  exact Nat.le_trans (List.length_filter_le ..) (FS_len hp).2
def turnS (p : Int × Int) (t : List Nat) (ls : List (List Int)) : List (List Int) := (FS p).filter fun f => inF ls (turnF p.2.toNat (backT p.2.toNat t) f)
theorem turnS_sub : sub p (turnS p t ls) := sub_filter _
theorem turnS_mem (h : IsTurn p.2.toNat t) {g : List Int} (hg : g ∈ FS p) : turnF p.2.toNat t g ∈ turnS p t ls ↔ g ∈ ls := by
  unfold turnS
  rw [List.mem_filter, turn_back h hg]
  exact ⟨fun x => of_decide_eq_true x.2, fun x => ⟨turnF_mem h hg, decide_eq_true x⟩⟩
theorem turnS_back (h : IsTurn p.2.toNat t) (hs : sub p ls) : turnS p (backT p.2.toNat t) (turnS p t ls) = ls := by
  refine Eq.trans ?_ hs
  show (FS p).filter _ = (FS p).filter _
  refine List.filter_congr fun f hf => ?_
  rw [back_back h]
  exact decide_eq_decide.mpr (turnS_mem h hf)
theorem turnS_sort (hp : isSz p) (h : IsTurn p.2.toNat t) (hs : sub p ls) : biD .sorted [.lst (fs (ls.map (turnF p.2.toNat t)))] = .ok (.lst (fs (turnS p t ls))) := by
  have hm : ∀ f ∈ ls, f ∈ FS p := fun f hf => sub_mem hs hf
  rw [sort_fs hp (nodup_map (fun a ha b hb e => by rw [← turn_back h (hm a ha), e, turn_back h (hm b hb)]) (sub_nodup hp hs)) (fun f hf => by
    obtain ⟨g, hg, rfl⟩ := List.mem_map.mp hf
    exact turnF_mem h (hm g hg))]
  refine congrArg (fun x => R.ok (D.lst (fs x))) (List.filter_congr fun f hf => ?_)
  refine decide_eq_decide.mpr ⟨fun x => ?_, fun x => ?_⟩
  · obtain ⟨g, hg, rfl⟩ := List.mem_map.mp x
    rw [turn_back h (hm g hg)]
    exact hg
  · exact List.mem_map.mpr ⟨_, x, turn_fwd h hf⟩
end
/-! wishes -/
abbrev Wsh := List (Option (List (List Int)))
def wOk (p : Int × Int) (w : Wsh) : Prop := w.length = (FS p).length ∧ ∀ ls, some ls ∈ w → sub p ls
def wAt (p : Int × Int) (w : Wsh) (f : List Int) : Option (List (List Int)) := w.getD (numF p f) none
def turnW (p : Int × Int) (t : List Nat) (w : Wsh) : Wsh := (FS p).map fun f => (wAt p w (turnF p.2.toNat (backT p.2.toNat t) f)).map (turnS p t)
section
variable {p : Int × Int} {t : List Nat} {w v : Wsh}
theorem turnW_len : (turnW p t w).length = (FS p).length := List.length_map ..
theorem wAt_sub (hp : isSz p) (hw : wOk p w) {f : List Int} (hf : f ∈ FS p) {ls : List (List Int)} (e : wAt p w f = some ls) : sub p ls := by
  have h : numF p f < w.length := by
    rw [hw.1]
    exact num_lt hp hf
  unfold wAt at e
  rw [List.getD_eq_getElem?_getD, List.getElem?_eq_getElem h] at e
  have e : w[numF p f] = some ls := e
  exact hw.2 ls (e ▸ List.getElem_mem h)
theorem turnW_ok : wOk p (turnW p t w) := ⟨turnW_len, fun ls h => by
  obtain ⟨f, _, e⟩ := List.mem_map.mp h
  cases q : wAt p w (turnF p.2.toNat (backT p.2.toNat t) f) with
  | none => rw [q] at e; cases e
  | some x =>
    rw [q] at e
    cases e
    exact turnS_sub⟩
theorem turnW_at (hp : isSz p) (h : IsTurn p.2.toNat t) {f : List Int} (hf : f ∈ FS p) : wAt p (turnW p t w) (turnF p.2.toNat t f) = (wAt p w f).map (turnS p t) := by
  have hm := turnF_mem h hf
  unfold turnW wAt
  rw [map_getD (d := []) (num_lt hp hm), FS_getD hp hm, turn_back h hf]
theorem w_eta (hp : isSz p) (hw : w.length = (FS p).length) : (FS p).map (wAt p w) = w := by
  apply List.ext_getElem?
  intro i
  rw [List.getElem?_map]
  by_cases h : i < (FS p).length
  · rw [getD_at h]
    show some (w.getD (numF p ((FS p).getD i [])) none) = _
    rw [num_of hp i (List.mem_range.mpr h), List.getD_eq_getElem?_getD, List.getElem?_eq_getElem (by omega)]
    rfl
  · rw [List.getElem?_eq_none (by omega), List.getElem?_eq_none (by omega)]
    rfl
theorem turnW_back (hp : isSz p) (h : IsTurn p.2.toNat t) (hw : wOk p w) : turnW p (backT p.2.toNat t) (turnW p t w) = w := by
  refine Eq.trans ?_ (w_eta hp hw.1)
  unfold turnW
  show (FS p).map _ = (FS p).map _
  refine List.map_congr_left fun f hf => ?_
  rw [back_back h]
  show (wAt p (turnW p t w) (turnF p.2.toNat t f)).map _ = _
  rw [turnW_at hp h hf]
  cases e : wAt p w f with
  | none => rfl
  | some ls =>
    show some (turnS p (backT p.2.toNat t) (turnS p t ls)) = some ls
    rw [turnS_back h (wAt_sub hp hw hf e)]
/-- the table does the wish -/
theorem mD_iff (hp : isSz p) {T : List (List Int)} (hw : w.length = (FS p).length) (hT : T.length = (FS p).length) : mD (FS p) w T = .non ↔ ∀ f ∈ FS p, ∀ ls, wAt p w f = some ls → T.getD (numF p f) [] ∈ ls := by
  have at_ : ∀ i, i < (FS p).length → missR (FS p) w T i = match w.getD i none with
      | some ls => if T.getD i [] ∈ ls then none else some (tp ((FS p).getD i []))
      | none => none := fun i hi => by
    unfold missR
    rw [getD_at hi, getD_at (T := T) (by omega), List.getD_eq_getElem?_getD (a := none), List.getElem?_eq_getElem (show i < w.length by omega)]
    cases w[i]'(show i < w.length by omega) <;> rfl
  constructor
  · intro h f hf ls e
    have hi := num_lt hp hf
    by_cases q : T.getD (numF p f) [] ∈ ls
    · exact q
    · exfalso
      have no : firstR (missR (FS p) w T) (FS p).length = none ∨ ∃ g, firstR (missR (FS p) w T) (FS p).length = some (tp g) := by
        cases x : firstR (missR (FS p) w T) (FS p).length with
        | none => exact .inl rfl
        | some d =>
          unfold firstR at x
          obtain ⟨i, hi, ei⟩ := List.exists_of_findSome?_eq_some x
          rw [at_ i (List.mem_range.mp hi)] at ei
          cases y : w.getD i none with
          | none => rw [y] at ei; cases ei
          | some l =>
            rw [y] at ei
            by_cases z : T.getD i [] ∈ l
            · rw [show (match some l with
                | some ls => if T.getD i [] ∈ ls then none else some (tp ((FS p).getD i []))
                | none => none) = (none : Option D) from if_pos z] at ei
              cases ei
            · rw [show (match some l with
                | some ls => if T.getD i [] ∈ ls then none else some (tp ((FS p).getD i []))
                | none => none) = some (tp ((FS p).getD i [])) from if_neg z] at ei
              cases ei
              exact .inr ⟨_, rfl⟩
      rcases no with x | ⟨g, x⟩
      · unfold firstR at x
        have := List.findSome?_eq_none_iff.mp x (numF p f) (List.mem_range.mpr hi)
        rw [at_ _ hi, show w.getD (numF p f) none = some ls from e] at this
        rw [show (match some ls with
                | some ls => if T.getD (numF p f) [] ∈ ls then none else some (tp ((FS p).getD (numF p f) []))
                | none => none) = some (tp ((FS p).getD (numF p f) [])) from if_neg q] at this
        cases this
      · unfold mD at h
        rw [x] at h
        cases h
  · intro h
    unfold mD
    rw [firstR_none fun i hi => ?_]
    · rfl
    · rw [at_ i hi]
      cases y : w.getD i none with
      | none => rfl
      | some l =>
        have hf : (FS p).getD i [] ∈ FS p := getD_mem' rfl (fun f hf => hf) hi
        have ni := num_of hp i (List.mem_range.mpr hi)
        have := h _ hf l (by unfold wAt; rw [ni]; exact y)
        rw [ni] at this
        exact if_pos this
theorem does_turn (hp : isSz p) (h : IsTurn p.2.toNat t) {T : List (List Int)} (hw : wOk p w) (hT : T.length = (FS p).length) (mT : ∀ f ∈ T, f ∈ FS p) : mD (FS p) (turnW p t w) (turnT p t T) = .non ↔ mD (FS p) w T = .non := by
  rw [mD_iff hp turnW_len turnT_len, mD_iff hp hw.1 hT]
  constructor
  · intro H f hf ls e
    have := H _ (turnF_mem h hf) (turnS p t ls) (by rw [turnW_at hp h hf, e]; rfl)
    rw [turnT_at hp h hf] at this
    exact (turnS_mem h (getD_mem' hT mT (num_lt hp hf))).mp this
  · intro H f' hf' ls' e
    have hf := turnF_mem (backT_turn h) hf'
    have ef := turn_fwd h hf'
    generalize turnF p.2.toNat (backT p.2.toNat t) f' = f at *
    subst ef
    rw [turnW_at hp h hf] at e
    cases y : wAt p w f with
    | none => rw [y] at e; cases e
    | some l =>
      rw [y] at e
      cases e
      rw [turnT_at hp h hf]
      exact (turnS_mem h (getD_mem' hT mT (num_lt hp hf))).mpr (H f hf l y)
/-- as loose as -/
def looseB (p : Int × Int) (w v : Wsh) : Bool := (FS p).all fun f => match wAt p w f with
  | none => true
  | some here => ((wAt p v f).getD (FS p)).all (inF here)
theorem loose_iff : looseB p w v = true ↔ ∀ f ∈ FS p, ∀ here, wAt p w f = some here → ∀ g ∈ (wAt p v f).getD (FS p), g ∈ here := by
  unfold looseB
  rw [List.all_eq_true]
  constructor
  · intro H f hf here e g hg
    have := H f hf
    rw [e] at this
    exact of_decide_eq_true (List.all_eq_true.mp this g hg)
  · intro H f hf
    cases e : wAt p w f with
    | none => rfl
    | some here => exact List.all_eq_true.mpr fun g hg => decide_eq_true (H f hf here e g hg)
theorem loose_turn (hp : isSz p) (h : IsTurn p.2.toNat t) (hv : wOk p v) : looseB p (turnW p t w) (turnW p t v) = looseB p w v := by
  rw [Bool.eq_iff_iff, loose_iff, loose_iff]
  constructor
  · intro H f hf here e g hg
    have hgF : g ∈ FS p := by
      cases q : wAt p v f with
      | none => rw [q] at hg; exact hg
      | some l => rw [q] at hg; exact sub_mem (wAt_sub hp hv hf q) hg
    refine (turnS_mem h hgF).mp (H _ (turnF_mem h hf) (turnS p t here) (by rw [turnW_at hp h hf, e]; rfl) _ ?_)
    rw [turnW_at hp h hf]
    cases q : wAt p v f with
    | none => exact turnF_mem h hgF
    | some l =>
      rw [q] at hg
      exact (turnS_mem h hgF).mpr hg
  · intro H f' hf' here' e g' hg'
    have hf := turnF_mem (backT_turn h) hf'
    have ef := turn_fwd h hf'
    generalize turnF p.2.toNat (backT p.2.toNat t) f' = f at *
    subst ef
    rw [turnW_at hp h hf] at e hg'
    cases y : wAt p w f with
    | none => rw [y] at e; cases e
    | some here =>
      rw [y] at e
      cases e
      have hgF' : g' ∈ FS p := by
        cases q : wAt p v f with
        | none => rw [q] at hg'; exact hg'
        | some l => rw [q] at hg'; exact sub_mem turnS_sub hg'
      have hg := turnF_mem (backT_turn h) hgF'
      have eg := turn_fwd h hgF'
      generalize turnF p.2.toNat (backT p.2.toNat t) g' = g at *
      subst eg
      refine (turnS_mem h hg).mpr (H f hf here y g ?_)
      cases q : wAt p v f with
      | none => exact hg
      | some l =>
        rw [q] at hg'
        exact (turnS_mem h hg).mp hg'
end
end Ev

/-! Part G: fillings put together in a dict; wishes at windows. -/
namespace Ev
open PySem PySem.Spec PyProof.Rows L2
abbrev FL2 := List (List Int × D)
def keysF (L : FL2) : List (List Int) := L.map (·.1)
/-- a dict of truths -/
def truF (K : List (List Int)) : FL2 := K.map fun f => (f, D.bl true)
def insF (K : List (List Int)) (f : List Int) : List (List Int) := if f ∈ K then K else K ++ [f]
theorem keys_tru (K : List (List Int)) : keysF (truF K) = K := by
  unfold keysF truF
  rw [List.map_map]
  exact List.map_id K
theorem in_ins {K : List (List Int)} {f g : List Int} : g ∈ insF K f ↔ g ∈ K ∨ g = f := by
  unfold insF
  split
  · next h => exact ⟨.inl, fun x => x.elim id fun e => e ▸ h⟩
  · rw [List.mem_append, List.mem_singleton]
theorem ins_len {K : List (List Int)} {f : List Int} : (insF K f).length ≤ K.length + 1 := by
  unfold insF
  split
  · omega
  · rw [List.length_append]
    exact Nat.le_refl _
theorem valF_none {f : List Int} : ∀ {L : FL2}, f ∉ keysF L → valN (nF f) (fkv L) = none
  | [], _ => rfl
  | e :: L, h => by
    have h1 : ¬ e.1 = f := fun q => h (q ▸ List.mem_cons_self ..)
    have h2 : f ∉ keysF L := fun q => h (List.mem_cons_of_mem _ q)
    show (if nkT (tp e.1) = some (nF f) then some e.2 else valN (nF f) (fkv L)) = none
    rw [nk_tp, if_neg (fun q => h1 (nF_inj (Option.some.inj q)))]
    exact valF_none h2
theorem valF_some {f : List Int} : ∀ {L : FL2}, f ∈ keysF L → ∃ d, valN (nF f) (fkv L) = some d
  | e :: L, h => by
    show ∃ d, (if nkT (tp e.1) = some (nF f) then some e.2 else valN (nF f) (fkv L)) = some d
    rw [nk_tp]
    by_cases q : e.1 = f
    · exact ⟨_, if_pos (by rw [q])⟩
    · rw [if_neg (fun z => q (nF_inj (Option.some.inj z)))]
      refine valF_some ?_
      rcases List.mem_cons.mp h with z | z
      · exact absurd z.symm q
      · exact z
theorem in_fdD (f : List Int) (L : FL2) : inD (tp f) (fdD L) = .ok (decide (f ∈ keysF L)) := by
  cases L with
  | nil =>
    show (chk (([] : List (L2.Key × D)).isEmpty && (nkT (tp f)).isSome)).bind (fun _ => R.ok false) = _
    rw [nk_tp]
    rfl
  | cons e L =>
    show (match nkT (tp f) with
      | some q => R.ok (valN q (fkv (e :: L))).isSome
      | none => .bad) = _
    rw [nk_tp]
    show R.ok (valN (nF f) (fkv (e :: L))).isSome = _
    by_cases h : f ∈ keysF (e :: L)
    · obtain ⟨d, hd⟩ := valF_some h
      rw [hd, decide_eq_true h]
      rfl
    · rw [valF_none h, decide_eq_false h]
      rfl
theorem put_tru (f : List Int) : ∀ K : List (List Int), (fkv (truF K)).map (fun kv => if nkT kv.1 = some (nF f) then (kv.1, D.bl true) else kv) = fkv (truF K)
  | [] => rfl
  | g :: K => by
    show (if nkT (tp g) = some (nF f) then (tp g, D.bl true) else (tp g, D.bl true)) :: _ = (tp g, D.bl true) :: fkv (truF K)
    rw [ite_self]
    congr 1
    exact put_tru f K
theorem mu_tru (K : List (List Int)) (f : List Int) (h : K.length < 1000) : muD .set (fdD (truF K)) [.bl true, tp f] = .ok (fdD (truF (insF K f))) := by
  by_cases q : f ∈ K
  · unfold insF
    rw [if_pos q]
    cases K with
    | nil => cases q
    | cons e K =>
      show (match nkT (tp f) with
        | some q => (chk (decide ((fkv (truF (e :: K))).length < line))).bind fun _ => R.ok (D.dcn (putN (fkv (truF (e :: K))) (tp f) q (.bl true)))
        | none => .bad) = _
      rw [nk_tp]
      have l : (fkv (truF (e :: K))).length < line := by
        rw [line_val, fkv, List.length_map, truF, List.length_map]
        omega
      show (chk (decide ((fkv (truF (e :: K))).length < line))).bind _ = _
      rw [decide_eq_true l, chkt, okb]
      unfold putN
      rw [has_fkv, show (truF (e :: K)).map (·.1) = e :: K from keys_tru _, decide_eq_true q, if_pos rfl, put_tru]
      rfl
  · unfold insF
    rw [if_neg q, mu_fdD (by rw [truF, List.length_map]; exact h) (by rw [show (truF K).map (·.1) = K from keys_tru K]; exact q)]
    show R.ok (fdD (truF K ++ [(f, .bl true)])) = R.ok (fdD (truF (K ++ [f])))
    unfold truF
    rw [List.map_append]
    rfl
/-! put together -/
def setF (s : List Int) (e : D) (L : FL2) : FL2 := L.map fun kv => if kv.1 = s then (kv.1, e) else kv
theorem setF_not {s : List Int} {e : D} {L : FL2} (h : s ∉ keysF L) : setF s e L = L := by
  unfold setF
  conv => rhs; rw [← List.map_id L]
  refine List.map_congr_left fun kv hk => if_neg fun q => h ?_
  exact q ▸ List.mem_map.mpr ⟨kv, hk, rfl⟩
theorem keys_set {s : List Int} {e : D} {L : FL2} : keysF (setF s e L) = keysF L := by
  unfold keysF setF
  rw [List.map_map]
  refine List.map_congr_left fun kv _ => ?_
  show (if kv.1 = s then (kv.1, e) else kv).1 = kv.1
  split <;> rfl
theorem setN_fkv {s : List Int} {e : D} : ∀ {L : FL2}, (keysF L).Nodup → setN (nF s) e (fkv L) = fkv (setF s e L)
  | [], _ => rfl
  | kv :: L, h => by
    have h : (kv.1 :: keysF L).Nodup := h
    rw [List.nodup_cons] at h
    show (if nkT (tp kv.1) = some (nF s) then (tp kv.1, e) :: fkv L else (tp kv.1, kv.2) :: setN (nF s) e (fkv L)) = fkv ((if kv.1 = s then (kv.1, e) else kv) :: setF s e L)
    rw [nk_tp]
    by_cases q : kv.1 = s
    · rw [if_pos (by rw [q]), if_pos q, setF_not (q ▸ h.1)]
      rfl
    · rw [if_neg (fun z => q (nF_inj (Option.some.inj z))), if_neg q, setN_fkv h.2]
      rfl
theorem app_fd {s x : List Int} {ys : List (List Int)} {L : FL2} (hn : (keysF L).Nodup) (hm : (s, D.lst (fs ys)) ∈ L) (hy : ys.length < 1000) : appD (fdD L) (tp s) (tp x) = .ok (fdD (setF s (.lst (fs (ys ++ [x]))) L)) := by
  cases L with
  | nil => cases hm
  | cons e L =>
    show (match nkT (tp s) with
      | some q => match valN q (fkv (e :: L)) with
        | some (.lst ys) => (chk (decide (ys.length < line) && (pureAll ys && (tp x).pure))).bind fun _ => R.ok (D.dcn (setN q (.lst (ys ++ [tp x])) (fkv (e :: L))))
        | _ => .bad
      | none => .bad) = _
    rw [nk_tp]
    show (match valN (nF s) (fkv (e :: L)) with
        | some (.lst ys) => (chk (decide (ys.length < line) && (pureAll ys && (tp x).pure))).bind fun _ => R.ok (D.dcn (setN (nF s) (.lst (ys ++ [tp x])) (fkv (e :: L))))
        | _ => .bad) = _
    rw [val_fkv hn hm]
    show (chk (decide ((fs ys).length < line) && (pureAll (fs ys) && (tp x).pure))).bind _ = _
    rw [decide_eq_true (show (fs ys).length < line by rw [fs_len, line_val]; omega), pure_fs, show (tp x).pure = true from pure_ints x, setN_fkv hn]
    show R.ok (D.dcn (fkv (setF s (.lst (fs ys ++ [tp x])) (e :: L)))) = R.ok (fdD (setF s (.lst (fs (ys ++ [x]))) (e :: L)))
    rw [fs_snoc]
    rfl
theorem std_fd {s : List Int} {L : FL2} (hl : L.length < 1000) (hn : (keysF L).Nodup) : (s ∉ keysF L → stdD (fdD L) (tp s) = .ok (fdD (L ++ [(s, .lst [])]))) ∧ (∀ ys, (s, D.lst (fs ys)) ∈ L → stdD (fdD L) (tp s) = .ok (fdD L)) := by
  cases L with
  | nil =>
    refine ⟨fun _ => ?_, fun ys h => by cases h⟩
    show (match nkT (tp s) with
      | some q => (chk ([] : List (L2.Key × D)).isEmpty).bind fun _ => R.ok (D.dcn [(tp s, .lst [])])
      | none => .bad) = _
    rw [nk_tp]
    rfl
  | cons e L =>
    have l : (fkv (e :: L)).length < line := by
      rw [line_val, fkv, List.length_map]
      omega
    have go : stdD (fdD (e :: L)) (tp s) = match valN (nF s) (fkv (e :: L)) with
      | some v => (chk (lstP v)).bind fun _ => R.ok (D.dcn (fkv (e :: L)))
      | none => R.ok (D.dcn (fkv (e :: L) ++ [(tp s, D.lst [])])) := by
      show (match nkT (tp s) with
        | some q => (chk (decide ((fkv (e :: L)).length < line))).bind fun _ => match valN q (fkv (e :: L)) with
          | some v => (chk (lstP v)).bind fun _ => R.ok (D.dcn (fkv (e :: L)))
          | none => R.ok (D.dcn (fkv (e :: L) ++ [(tp s, D.lst [])]))
        | none => .bad) = _
      rw [nk_tp]
      show (chk (decide ((fkv (e :: L)).length < line))).bind _ = _
      rw [decide_eq_true l, chkt, okb]
    refine ⟨fun h => ?_, fun ys h => ?_⟩
    · rw [go, valF_none h]
      show R.ok (D.dcn (fkv (e :: L) ++ [(tp s, .lst [])])) = R.ok (D.dcn (fkv (e :: L ++ [(s, .lst [])])))
      simp [fkv]
    · rw [go, val_fkv hn h]
      show (chk (pureAll (fs ys))).bind _ = _
      rw [pure_fs]
      rfl
structure GOk (key : List Int → List Int) (B : List (List Int)) (L : FL2) : Prop where
  nd : (keysF L).Nodup
  val : ∀ s d, (s, d) ∈ L → d = .lst (fs (B.filter fun f => decide (key f = s)))
  all : ∀ f ∈ B, key f ∈ keysF L
  len : L.length ≤ B.length
theorem GOk.get {key : List Int → List Int} {B : List (List Int)} {L : FL2} (h : GOk key B L) {f : List Int} (hf : f ∈ B) : idxD (fdD L) (tp (key f)) = .ok (.lst (fs (B.filter fun g => decide (key g = key f)))) := by
  obtain ⟨kv, hk, e⟩ := List.mem_map.mp (h.all f hf)
  refine ix_fdD h.nd ?_
  have := h.val kv.1 kv.2 hk
  rw [e] at this
  rw [← this, ← e]
  exact hk
theorem GOk.next {key : List Int → List Int} {B : List (List Int)} {L : FL2} (h : GOk key B L) (x : List Int) (hb : B.length < 500) : ∃ d1 L', stdD (fdD L) (tp (key x)) = .ok d1 ∧ appD d1 (tp (key x)) (tp x) = .ok (fdD L') ∧ GOk key (B ++ [x]) L' := by
  have hl := h.len
  obtain ⟨s1, s2⟩ := std_fd (s := key x) (show L.length < 1000 by omega) h.nd
  have fin : ∀ L0 : FL2, (keysF L0).Nodup → (key x, D.lst (fs (B.filter fun f => decide (key f = key x)))) ∈ L0 → (∀ kv ∈ L0, kv.1 ≠ key x → kv ∈ L) → (∀ s ∈ keysF L, s ∈ keysF L0) → L0.length ≤ B.length + 1 → ∃ L', appD (fdD L0) (tp (key x)) (tp x) = .ok (fdD L') ∧ GOk key (B ++ [x]) L' := fun L0 n0 m0 k0 a0 c0 => by
    refine ⟨_, app_fd n0 m0 (Nat.lt_of_le_of_lt (List.length_filter_le ..) (by omega)), ⟨by rw [keys_set]; exact n0, fun s d hm => ?_, fun f hf => ?_, by rw [setF, List.length_map, List.length_append, List.length_singleton]; exact c0⟩⟩
    · obtain ⟨kv, hk, e⟩ := List.mem_map.mp hm
      rw [List.filter_append]
      by_cases q : kv.1 = key x
      · rw [if_pos q] at e
        cases e
        rw [q]
        rw [show [x].filter (fun f => decide (key f = key x)) = [x] from by rw [List.filter_cons, if_pos (decide_eq_true rfl)]; rfl]
      · rw [if_neg q] at e
        subst e
        have := h.val s d (k0 _ hk q)
        rw [this]
        rw [show [x].filter (fun f => decide (key f = s)) = [] from by rw [List.filter_cons, if_neg (fun z => q (of_decide_eq_true z).symm)]; rfl, List.append_nil]
    · rw [keys_set]
      rcases List.mem_append.mp hf with z | z
      · exact a0 _ (h.all f z)
      · rw [List.mem_singleton.mp z]
        exact List.mem_map.mpr ⟨_, m0, rfl⟩
  by_cases q : key x ∈ keysF L
  · obtain ⟨kv, hk, e⟩ := List.mem_map.mp q
    have hm : (key x, D.lst (fs (B.filter fun f => decide (key f = key x)))) ∈ L := by
      have := h.val kv.1 kv.2 hk
      rw [e] at this
      rw [← this, ← e]
      exact hk
    obtain ⟨L', e1, e2⟩ := fin L h.nd hm (fun kv hk _ => hk) (fun s hs => hs) (by omega)
    exact ⟨_, L', s2 _ hm, e1, e2⟩
  · have no : B.filter (fun f => decide (key f = key x)) = [] := List.filter_eq_nil_iff.mpr fun f hf z => q ((of_decide_eq_true z) ▸ h.all f hf)
    have nd : (keysF (L ++ [(key x, D.lst [])])).Nodup := by
      show ((L ++ [(key x, D.lst [])]).map (·.1)).Nodup
      rw [List.map_append, List.nodup_append]
      refine ⟨h.nd, List.pairwise_singleton _ _, fun a ha b hb e => ?_⟩
      rw [List.map_cons, List.map_nil, List.mem_singleton] at hb
      rw [hb] at e
      have e : a = key x := e
      exact q (e ▸ ha)
    obtain ⟨L', e1, e2⟩ := fin (L ++ [(key x, D.lst [])]) nd (by
      rw [no]
      exact List.mem_append_right _ (List.mem_singleton.mpr rfl)) (fun kv hk hne => by
      rcases List.mem_append.mp hk with z | z
      · exact z
      · rw [List.mem_singleton] at z
        rw [z] at hne
        exact absurd rfl hne) (fun s hs => by
      show s ∈ (L ++ [(key x, D.lst [])]).map (·.1)
      rw [List.map_append]
      exact List.mem_append_left _ hs) (by rw [List.length_append, List.length_singleton]; omega)
    exact ⟨_, L', s1 q, e1, e2⟩
section
variable {Φ : Nat → List D → R D} {M : Nat → Nat → Option Nat} {r : ISs} {σ : Sg}
theorem st_sdp {i : Nat} {k x : IE} : evSs Φ M (.cons (.sdp i k x) r) σ = thenS ((getV σ i).bind fun d => (evE Φ M k σ).bind fun kk => (stdD d kk).bind fun d1 => (evE Φ M x (σ.set i (some d1))).bind fun xv => (appD d1 kk xv).bind fun d2 => R.ok (.nx (σ.set i (some d2)))) (evSs Φ M r) := nr rfl
theorem st_exp {e : IE} : evSs Φ M (.cons (.exp e) r) σ = thenS ((evE Φ M e σ).bind fun _ => R.ok (.nx σ)) (evSs Φ M r) := nr rfl
end
/-! the wish at a window -/
def winW (p : Int × Int) (l : List (Stp × Int)) (a b c : List Nat) (m : List Int) : Wsh := (FS p).map fun f => if f ∈ tabF p l a then some ((FS p).filter fun g => decide (snB m (rowF p l c g) = snB m (rowF p l c (rowF p l b f)))) else none
theorem winW_len {p : Int × Int} {l : List (Stp × Int)} {a b c : List Nat} {m : List Int} : (winW p l a b c m).length = (FS p).length := List.length_map ..
theorem rowF_app {p : Int × Int} {l : List (Stp × Int)} {a b : List Nat} {f : List Int} : rowF p l (a ++ b) f = rowF p l b (rowF p l a f) := List.foldl_append ..
theorem win_does {p : Int × Int} (hp : isSz p) {l : List (Stp × Int)} {a b c q : List Nat} {m : List Int} : mD (FS p) (winW p l a b c m) (tabF p l q) = .non ↔ ∀ f ∈ FS p, snB m (rowF p l (a ++ b ++ c) f) = snB m (rowF p l (a ++ q ++ c) f) := by
  rw [mD_iff hp winW_len tabF_len]
  have at_ : ∀ f ∈ FS p, wAt p (winW p l a b c m) f = if f ∈ tabF p l a then some ((FS p).filter fun g => decide (snB m (rowF p l c g) = snB m (rowF p l c (rowF p l b f)))) else none := fun f hf => by
    unfold winW wAt
    rw [map_getD (d := []) (num_lt hp hf), FS_getD hp hf]
  have tq : ∀ f ∈ FS p, (tabF p l q).getD (numF p f) [] = rowF p l q f := fun f hf => by
    unfold tabF
    rw [map_getD (d := []) (num_lt hp hf), FS_getD hp hf]
  constructor
  · intro H f hf
    have hg : rowF p l a f ∈ FS p := rowF_mem hf
    have ma : rowF p l a f ∈ tabF p l a := List.mem_map.mpr ⟨f, hf, rfl⟩
    have := H _ hg _ (by rw [at_ _ hg, if_pos ma])
    rw [tq _ hg] at this
    have := of_decide_eq_true (List.mem_filter.mp this).2
    rw [rowF_app, rowF_app, rowF_app, rowF_app]
    exact this.symm
  · intro H g hg ls e
    rw [at_ g hg] at e
    by_cases z : g ∈ tabF p l a
    · rw [if_pos z] at e
      cases e
      obtain ⟨f, hf, rfl⟩ := List.mem_map.mp z
      have := H f hf
      rw [rowF_app, rowF_app, rowF_app, rowF_app] at this
      rw [tq _ hg]
      exact List.mem_filter.mpr ⟨rowF_mem hg, decide_eq_true this.symm⟩
    · rw [if_neg z] at e
      cases e
end Ev

namespace Lw
open PySem PySem.Spec PyProof.Rows L2 Ev
def topS (i : Nat) : Stmt := PySem.Challenge.pw_leastrow_k74_whole_any_row_in_a_window.main.body.getD i (.Pass ⟨0, 0, 0, 0⟩)
/-- _law_size: 0 _law_cell, 1 _law_some -/
abbrev s0 : Stmt := topS 39
abbrev N0 : List Str := ["_law_cell", "_law_some"]
theorem sc0 : FnScope N0 ["_law_cell"] (defScope s0) := ⟨rfl, rfl, rfl, by decide +kernel, rfl, by decide +kernel, by decide +kernel⟩
def t0_1 : ISs := .cons (.ret (.idx (.var 1) (.bin .Mod (.var 0) (.bi .len (.cons (.var 1) .nil))))) .nil
def b0 : ISs := .cons (.asg 1 (.lst (.cons (.tup (.cons (.int 1) (.cons (.int 1) .nil))) (.cons (.tup (.cons (.int 1) (.cons (.int 2) .nil))) (.cons (.tup (.cons (.int 1) (.cons (.int 3) .nil))) (.cons (.tup (.cons (.int 2) (.cons (.int 1) .nil))) (.cons (.tup (.cons (.int 2) (.cons (.int 2) .nil))) (.cons (.tup (.cons (.int 1) (.cons (.int 4) .nil))) (.cons (.tup (.cons (.int 3) (.cons (.int 1) .nil))) (.cons (.tup (.cons (.int 1) (.cons (.int 3) .nil))) .nil)))))))))) t0_1
def R0 : List Bod := (2, b0) :: []
def K0 : Fk := ⟨fun i => [0, 1].getD i 2, fun i => [1, 1].getD i 3, 0, 1⟩
/-- _law_mixed: 0 _law_cell, 1 _law_k, 2 _law_number -/
abbrev s1 : Stmt := topS 38
abbrev N1 : List Str := ["_law_cell", "_law_k", "_law_number"]
theorem sc1 : FnScope N1 ["_law_cell", "_law_k"] (defScope s1) := ⟨rfl, rfl, rfl, by decide +kernel, rfl, by decide +kernel, by decide +kernel⟩
def t1_2 : ISs := .cons (.ret (.bin .Mod (.bin .Add (.bin .Add (.bin .Mult (.var 2) (.var 2)) (.bin .Mult (.int 16807) (.var 2))) (.var 1)) (.int 2147483629))) .nil
def t1_1 : ISs := .cons (.asg 2 (.bin .Mod (.bin .Add (.bin .Add (.bin .Mult (.bin .Mod (.var 0) (.int 2147483647)) (.int 48271)) (.bin .Mult (.bin .Mult (.var 1) (.var 1)) (.int 69621))) (.int 7919)) (.int 2147483647))) t1_2
def b1 : ISs := .cons (.ife (.cmp .Eq (.bin .Mod (.var 0) (.int 2)) (.int 1))
  (.cons (.ret (.bin .FloorDiv (.var 0) (.int 2)))
  .nil)
  .nil) t1_1
def R1 : List Bod := (3, b1) :: R0
def K1 : Fk := ⟨fun i => [0, 0, 0].getD i 2, fun i => [1, 1, 1].getD i 3, 0, 1⟩
/-- _law_step: 0 _law_m, 1 _law_size_here, 2 _law_i, 3 _law_j, 4 _law_kind -/
abbrev s2 : Stmt := topS 41
abbrev N2 : List Str := ["_law_m", "_law_size_here", "_law_i", "_law_j", "_law_kind"]
theorem sc2 : FnScope N2 ["_law_m", "_law_size_here"] (defScope s2) := ⟨rfl, rfl, rfl, by decide +kernel, rfl, by decide +kernel, by decide +kernel⟩
def t2_5 : ISs := .cons (.ret (.tup (.cons (.idx (.lst (.cons (.str (Str.ofString "not")) (.cons (.str (Str.ofString "up")) (.cons (.str (Str.ofString "down")) .nil)))) (.bin .Sub (.var 4) (.int 7))) (.cons (.var 2) .nil)))) .nil
def t2_4 : ISs := .cons (.ife (.cmp .Eq (.var 4) (.int 6))
  (.cons (.ret (.tup (.cons (.str (Str.ofString "put")) (.cons (.var 2) (.cons (.bin .Mod (.bin .FloorDiv (.var 0) (.int 360)) (.bin .LShift (.int 1) (.idx (.var 1) (.int 0)))) .nil)))))
  .nil)
  .nil) t2_5
def t2_3 : ISs := .cons (.ife (.cmp .Lt (.var 4) (.int 6))
  (.cons (.ret (.tup (.cons (.idx (.lst (.cons (.str (Str.ofString "and")) (.cons (.str (Str.ofString "or")) (.cons (.str (Str.ofString "xor")) (.cons (.str (Str.ofString "add")) (.cons (.str (Str.ofString "take")) (.cons (.str (Str.ofString "copy")) .nil))))))) (.var 4)) (.cons (.var 2) (.cons (.var 3) .nil)))))
  .nil)
  .nil) t2_4
def t2_2 : ISs := .cons (.asg 4 (.bin .Mod (.var 0) (.int 10))) t2_3
def t2_1 : ISs := .cons (.asg 3 (.bin .Mod (.bin .FloorDiv (.var 0) (.int 60)) (.idx (.var 1) (.int 1)))) t2_2
def b2 : ISs := .cons (.asg 2 (.bin .Mod (.bin .FloorDiv (.var 0) (.int 10)) (.idx (.var 1) (.int 1)))) t2_1
def R2 : List Bod := (5, b2) :: R1
def K2 : Fk := ⟨fun i => [0, 0, 0, 0, 0].getD i 2, fun i => [1, 1, 1, 1, 1].getD i 3, 0, 1⟩
/-- _law_cell_at: 0 _law_script, 1 _law_k -/
abbrev s3 : Stmt := topS 36
abbrev N3 : List Str := ["_law_script", "_law_k"]
theorem sc3 : FnScope N3 ["_law_script", "_law_k"] (defScope s3) := ⟨rfl, rfl, rfl, by decide +kernel, rfl, by decide +kernel, by decide +kernel⟩
def t3_1 : ISs := .cons (.ret (.int 0)) .nil
def b3 : ISs := .cons (.ife (.cmp .Lt (.var 1) (.bi .len (.cons (.var 0) .nil)))
  (.cons (.ret (.idx (.var 0) (.var 1)))
  .nil)
  .nil) t3_1
def R3 : List Bod := (2, b3) :: R2
def K3 : Fk := ⟨fun i => [1, 0].getD i 2, fun i => [3, 1].getD i 3, 0, 1⟩
/-- _law_kit: 0 _law_script, 1 _law_start, 2 _law_size_here, 3 _law_most, 4 _law_dear, 5 _law_kit_here, 6 _law_k, 7 _law_m, 8 _law_step_here, 9 _law_one, 10 _law_price -/
abbrev s4 : Stmt := topS 44
abbrev N4 : List Str := ["_law_script", "_law_start", "_law_size_here", "_law_most", "_law_dear", "_law_kit_here", "_law_k", "_law_m", "_law_step_here", "_law_one", "_law_price"]
theorem sc4 : FnScope N4 ["_law_script", "_law_start", "_law_size_here", "_law_most", "_law_dear"] (defScope s4) := ⟨rfl, rfl, rfl, by decide +kernel, rfl, by decide +kernel, by decide +kernel⟩
def L4_0_2 : ISs := .cons (.ife (.cmp .NotIn (.var 8) (.comp (.var 9) (.many [9, 10]) (.el (.var 5)) .no))
  (.cons (.mut 5 .no .append (.cons (.tup (.cons (.var 8) (.cons (.bin .Add (.int 1) (.bin .Mod (.bin .FloorDiv (.var 7) (.bin .Pow (.int 10) (.int 6))) (.var 4))) .nil))) .nil))
  .nil)
  .nil) .nil
def L4_0_1 : ISs := .cons (.asg 8 (.call 2 (.cons (.var 7) (.cons (.var 2) .nil)))) L4_0_2
def L4_0 : ISs := .cons (.asg 7 (.call 1 (.cons (.call 3 (.cons (.var 0) (.cons (.bin .Add (.var 1) (.var 6)) .nil))) (.cons (.bin .Add (.var 6) (.int 1)) .nil)))) L4_0_1
def t4_2 : ISs := .cons (.ret (.var 5)) .nil
def t4_1 : ISs := .cons (.for_ (.one 6) (.rg1 (.var 3)) L4_0) t4_2
def b4 : ISs := .cons (.asg 5 (.lst .nil)) t4_1
def R4 : List Bod := (11, b4) :: R3
def K4 : Fk := ⟨fun i => [1, 0, 0, 0, 0, 1, 0, 0, 0, 0, 0].getD i 2, fun i => [3, 1, 1, 1, 1, 1, 1, 1, 1, 1, 1].getD i 3, 1, 1⟩
/-- _law_row: 0 _law_cells_here, 1 _law_kit_here, 2 _law_k -/
abbrev s5 : Stmt := topS 46
abbrev N5 : List Str := ["_law_cells_here", "_law_kit_here", "_law_k"]
theorem sc5 : FnScope N5 ["_law_cells_here", "_law_kit_here"] (defScope s5) := ⟨rfl, rfl, rfl, by decide +kernel, rfl, by decide +kernel, by decide +kernel⟩
def b5 : ISs := .cons (.ret (.bi .tuple (.cons (.comp (.bin .Mod (.call 1 (.cons (.idx (.var 0) (.var 2)) (.cons (.var 2) .nil))) (.bi .len (.cons (.var 1) .nil))) (.one 2) (.rg1 (.bi .len (.cons (.var 0) .nil))) .no) .nil))) .nil
def R5 : List Bod := (3, b5) :: R4
def K5 : Fk := ⟨fun i => [1, 1, 0].getD i 2, fun i => [3, 3, 1].getD i 3, 0, 1⟩
/-- _law_looked: 0 _law_cell, 1 _law_size_here, 2 _law_box -/
abbrev s6 : Stmt := topS 47
abbrev N6 : List Str := ["_law_cell", "_law_size_here", "_law_box"]
theorem sc6 : FnScope N6 ["_law_cell", "_law_size_here"] (defScope s6) := ⟨rfl, rfl, rfl, by decide +kernel, rfl, by decide +kernel, by decide +kernel⟩
def t6_1 : ISs := .cons (.ret (.comp (.var 2) (.one 2) (.rg1 (.idx (.var 1) (.int 1))) (.so (.cmp .Eq (.bin .Mod (.bin .FloorDiv (.bin .FloorDiv (.var 0) (.int 5)) (.bin .LShift (.int 1) (.var 2))) (.int 2)) (.int 1))))) .nil
def b6 : ISs := .cons (.ife (.cmp .Eq (.bin .Mod (.var 0) (.int 5)) (.int 0))
  (.cons (.ret (.lrg (.idx (.var 1) (.int 1))))
  .nil)
  .nil) t6_1
def R6 : List Bod := (3, b6) :: R5
def K6 : Fk := ⟨fun i => [0, 0, 0].getD i 2, fun i => [1, 1, 1].getD i 3, 1, 1⟩
/-- look_at_window: 0 row, 1 place, 2 many -/
abbrev s7 : Stmt := topS 31
abbrev N7 : List Str := ["row", "place", "many"]
theorem sc7 : FnScope N7 ["row", "place", "many"] (defScope s7) := ⟨rfl, rfl, rfl, by decide +kernel, rfl, by decide +kernel, by decide +kernel⟩
def b7 : ISs := .cons (.ife (.bo true (.cmp .Lt (.var 1) (.int 0)) (.bo true (.cmp .Lt (.var 2) (.int 1)) (.cmp .Gt (.bin .Add (.var 1) (.var 2)) (.bi .len (.cons (.var 0) .nil)))))
  (.cons .nev
  .nil)
  .nil) .nil
def R7 : List Bod := (3, b7) :: R6
def K7 : Fk := ⟨fun i => [0, 0, 0].getD i 2, fun i => [1, 1, 1].getD i 3, 0, 1⟩
/-- boxes_looked: 0 size, 1 looked -/
abbrev s8 : Stmt := topS 22
abbrev N8 : List Str := ["size", "looked"]
theorem sc8 : FnScope N8 ["size", "looked"] (defScope s8) := ⟨rfl, rfl, rfl, by decide +kernel, rfl, by decide +kernel, by decide +kernel⟩
def t8_1 : ISs := .cons (.ret (.lsp (.var 1))) .nil
def b8 : ISs := .cons (.ife (.cmp .Is (.var 1) .non)
  (.cons (.ret (.lrg (.idx (.var 0) (.int 1))))
  .nil)
  .nil) t8_1
def R8 : List Bod := (2, b8) :: R7
def K8 : Fk := ⟨fun i => [0, 1].getD i 2, fun i => [1, 3].getD i 3, 1, 1⟩
/-- words_of: 0 size -/
abbrev s9 : Stmt := topS 5
abbrev N9 : List Str := ["size"]
theorem sc9 : FnScope N9 ["size"] (defScope s9) := ⟨rfl, rfl, rfl, by decide +kernel, rfl, by decide +kernel, by decide +kernel⟩
def b9 : ISs := .cons (.ret (.bin .LShift (.int 1) (.idx (.var 0) (.int 0)))) .nil
def R9 : List Bod := (1, b9) :: R8
def K9 : Fk := ⟨fun i => [0].getD i 2, fun i => [1].getD i 3, 0, 1⟩
/-- kind_of: 0 word, 1 kinds -/
abbrev s10 : Stmt := topS 19
abbrev N10 : List Str := ["word", "kinds"]
theorem sc10 : FnScope N10 ["word"] (defScope s10) := ⟨rfl, rfl, rfl, by decide +kernel, rfl, by decide +kernel, by decide +kernel⟩
def t10_4 : ISs := .cons (.ret (.mth .get (.var 1) (.cons (.var 0) .nil))) .nil
def t10_3 : ISs := .cons (.mut 1 .no .set (.cons (.mk 2) (.cons (.str (Str.ofString "down")) .nil))) t10_4
def t10_2 : ISs := .cons (.mut 1 .no .set (.cons (.mk 1) (.cons (.str (Str.ofString "up")) .nil))) t10_3
def t10_1 : ISs := .cons (.mut 1 .no .set (.cons (.mk 0) (.cons (.str (Str.ofString "not")) .nil))) t10_2
def b10 : ISs := .cons (.asg 1 (.dsp (.cons (.str (Str.ofString "and")) (.cons (.mk 3) (.cons (.str (Str.ofString "or")) (.cons (.mk 4) (.cons (.str (Str.ofString "xor")) (.cons (.mk 5) (.cons (.str (Str.ofString "add")) (.cons (.mk 6) (.cons (.str (Str.ofString "take")) (.cons (.mk 7) (.cons (.str (Str.ofString "copy")) (.cons (.mk 8) (.cons (.str (Str.ofString "put")) (.cons (.mk 9) .nil)))))))))))))))) t10_1
def R10 : List Bod := (2, b10) :: R9
def K10 : Fk := ⟨fun i => [0, 1].getD i 2, fun i => [1, 1].getD i 3, 0, 1⟩
/-- Kind.made: 0 self, 1 step, 2 filling -/
abbrev s11 : Stmt := inClass (topS 9) 0
abbrev N11 : List Str := ["self", "step", "filling"]
theorem sc11 : FnScope N11 ["self", "step", "filling"] (defScope s11) := ⟨rfl, rfl, rfl, by decide +kernel, rfl, by decide +kernel, by decide +kernel⟩
def b11 : ISs := .cons (.ret (.bin .Sub (.neg (.int 1)) (.idx (.var 2) (.idx (.var 1) (.int 1))))) .nil
def R11 : List Bod := (3, b11) :: R10
def K11 : Fk := ⟨fun i => [0, 0, 0].getD i 2, fun i => [1, 1, 1].getD i 3, 0, 1⟩
/-- Up.made: 0 self, 1 step, 2 filling -/
abbrev s12 : Stmt := inClass (topS 10) 0
abbrev N12 : List Str := ["self", "step", "filling"]
theorem sc12 : FnScope N12 ["self", "step", "filling"] (defScope s12) := ⟨rfl, rfl, rfl, by decide +kernel, rfl, by decide +kernel, by decide +kernel⟩
def b12 : ISs := .cons (.ret (.bin .Mult (.int 2) (.idx (.var 2) (.idx (.var 1) (.int 1))))) .nil
def R12 : List Bod := (3, b12) :: R11
def K12 : Fk := ⟨fun i => [0, 0, 0].getD i 2, fun i => [1, 1, 1].getD i 3, 0, 1⟩
/-- Down.made: 0 self, 1 step, 2 filling -/
abbrev s13 : Stmt := inClass (topS 11) 0
abbrev N13 : List Str := ["self", "step", "filling"]
theorem sc13 : FnScope N13 ["self", "step", "filling"] (defScope s13) := ⟨rfl, rfl, rfl, by decide +kernel, rfl, by decide +kernel, by decide +kernel⟩
def b13 : ISs := .cons (.ret (.bin .RShift (.idx (.var 2) (.idx (.var 1) (.int 1))) (.int 1))) .nil
def R13 : List Bod := (3, b13) :: R12
def K13 : Fk := ⟨fun i => [0, 0, 0].getD i 2, fun i => [1, 1, 1].getD i 3, 0, 1⟩
/-- And.made: 0 self, 1 step, 2 filling -/
abbrev s14 : Stmt := inClass (topS 13) 0
abbrev N14 : List Str := ["self", "step", "filling"]
theorem sc14 : FnScope N14 ["self", "step", "filling"] (defScope s14) := ⟨rfl, rfl, rfl, by decide +kernel, rfl, by decide +kernel, by decide +kernel⟩
def b14 : ISs := .cons (.ret (.bin .BitAnd (.idx (.var 2) (.idx (.var 1) (.int 1))) (.idx (.var 2) (.idx (.var 1) (.int 2))))) .nil
def R14 : List Bod := (3, b14) :: R13
def K14 : Fk := ⟨fun i => [0, 0, 0].getD i 2, fun i => [1, 1, 1].getD i 3, 0, 1⟩
/-- Or.made: 0 self, 1 step, 2 filling -/
abbrev s15 : Stmt := inClass (topS 14) 0
abbrev N15 : List Str := ["self", "step", "filling"]
theorem sc15 : FnScope N15 ["self", "step", "filling"] (defScope s15) := ⟨rfl, rfl, rfl, by decide +kernel, rfl, by decide +kernel, by decide +kernel⟩
def b15 : ISs := .cons (.ret (.bin .BitOr (.idx (.var 2) (.idx (.var 1) (.int 1))) (.idx (.var 2) (.idx (.var 1) (.int 2))))) .nil
def R15 : List Bod := (3, b15) :: R14
def K15 : Fk := ⟨fun i => [0, 0, 0].getD i 2, fun i => [1, 1, 1].getD i 3, 0, 1⟩
/-- Xor.made: 0 self, 1 step, 2 filling -/
abbrev s16 : Stmt := inClass (topS 15) 0
abbrev N16 : List Str := ["self", "step", "filling"]
theorem sc16 : FnScope N16 ["self", "step", "filling"] (defScope s16) := ⟨rfl, rfl, rfl, by decide +kernel, rfl, by decide +kernel, by decide +kernel⟩
def b16 : ISs := .cons (.ret (.bin .BitXor (.idx (.var 2) (.idx (.var 1) (.int 1))) (.idx (.var 2) (.idx (.var 1) (.int 2))))) .nil
def R16 : List Bod := (3, b16) :: R15
def K16 : Fk := ⟨fun i => [0, 0, 0].getD i 2, fun i => [1, 1, 1].getD i 3, 0, 1⟩
/-- Add.made: 0 self, 1 step, 2 filling -/
abbrev s17 : Stmt := inClass (topS 16) 0
abbrev N17 : List Str := ["self", "step", "filling"]
theorem sc17 : FnScope N17 ["self", "step", "filling"] (defScope s17) := ⟨rfl, rfl, rfl, by decide +kernel, rfl, by decide +kernel, by decide +kernel⟩
def b17 : ISs := .cons (.ret (.bin .Add (.idx (.var 2) (.idx (.var 1) (.int 1))) (.idx (.var 2) (.idx (.var 1) (.int 2))))) .nil
def R17 : List Bod := (3, b17) :: R16
def K17 : Fk := ⟨fun i => [0, 0, 0].getD i 2, fun i => [1, 1, 1].getD i 3, 0, 1⟩
/-- Take.made: 0 self, 1 step, 2 filling -/
abbrev s18 : Stmt := inClass (topS 17) 0
abbrev N18 : List Str := ["self", "step", "filling"]
theorem sc18 : FnScope N18 ["self", "step", "filling"] (defScope s18) := ⟨rfl, rfl, rfl, by decide +kernel, rfl, by decide +kernel, by decide +kernel⟩
def b18 : ISs := .cons (.ret (.bin .Sub (.idx (.var 2) (.idx (.var 1) (.int 1))) (.idx (.var 2) (.idx (.var 1) (.int 2))))) .nil
def R18 : List Bod := (3, b18) :: R17
def K18 : Fk := ⟨fun i => [0, 0, 0].getD i 2, fun i => [1, 1, 1].getD i 3, 0, 1⟩
/-- Copy.made: 0 self, 1 step, 2 filling -/
abbrev s19 : Stmt := inClass (topS 18) 0
abbrev N19 : List Str := ["self", "step", "filling"]
theorem sc19 : FnScope N19 ["self", "step", "filling"] (defScope s19) := ⟨rfl, rfl, rfl, by decide +kernel, rfl, by decide +kernel, by decide +kernel⟩
def b19 : ISs := .cons (.ret (.idx (.var 2) (.idx (.var 1) (.int 2)))) .nil
def R19 : List Bod := (3, b19) :: R18
def K19 : Fk := ⟨fun i => [0, 0, 0].getD i 2, fun i => [1, 1, 1].getD i 3, 0, 1⟩
/-- Put.made: 0 self, 1 step, 2 filling -/
abbrev s20 : Stmt := inClass (topS 12) 0
abbrev N20 : List Str := ["self", "step", "filling"]
theorem sc20 : FnScope N20 ["self", "step", "filling"] (defScope s20) := ⟨rfl, rfl, rfl, by decide +kernel, rfl, by decide +kernel, by decide +kernel⟩
def b20 : ISs := .cons (.ret (.idx (.var 1) (.int 2))) .nil
def R20 : List Bod := (3, b20) :: R19
def K20 : Fk := ⟨fun i => [0, 0, 0].getD i 2, fun i => [1, 1, 1].getD i 3, 0, 1⟩
/-- step_on: 0 size, 1 step, 2 filling, 3 word, 4 box -/
abbrev s21 : Stmt := topS 20
abbrev N21 : List Str := ["size", "step", "filling", "word", "box"]
theorem sc21 : FnScope N21 ["size", "step", "filling"] (defScope s21) := ⟨rfl, rfl, rfl, by decide +kernel, rfl, by decide +kernel, by decide +kernel⟩
def t21_2 : ISs := .cons (.ret (.bin .Add (.bin .Add (.slc (.var 2) .no (.so (.var 4))) (.tup (.cons (.var 3) .nil))) (.slc (.var 2) (.so (.bin .Add (.var 4) (.int 1))) .no))) .nil
def t21_1 : ISs := .cons (.asg 4 (.idx (.var 1) (.int 1))) t21_2
def b21 : ISs := .cons (.asg 3 (.bin .Mod (.omt 0 (.call 10 (.cons (.idx (.var 1) (.int 0)) .nil)) (.cons (.var 1) (.cons (.var 2) .nil))) (.call 9 (.cons (.var 0) .nil)))) t21_1
def R21 : List Bod := (5, b21) :: R20
def K21 : Fk := ⟨fun i => [0, 0, 0, 0, 0].getD i 2, fun i => [1, 1, 1, 1, 1].getD i 3, 0, 1⟩
/-- row_on: 0 size, 1 stock, 2 row, 3 filling, 4 number -/
abbrev s22 : Stmt := topS 24
abbrev N22 : List Str := ["size", "stock", "row", "filling", "number"]
theorem sc22 : FnScope N22 ["size", "stock", "row", "filling"] (defScope s22) := ⟨rfl, rfl, rfl, by decide +kernel, rfl, by decide +kernel, by decide +kernel⟩
def L22_0 : ISs := .cons (.asg 3 (.call 21 (.cons (.var 0) (.cons (.idx (.idx (.var 1) (.var 4)) (.int 0)) (.cons (.var 3) .nil))))) .nil
def t22_1 : ISs := .cons (.ret (.var 3)) .nil
def b22 : ISs := .cons (.for_ (.one 4) (.el (.var 2)) L22_0) t22_1
def R22 : List Bod := (5, b22) :: R21
def K22 : Fk := ⟨fun i => [0, 1, 0, 0, 0].getD i 2, fun i => [1, 3, 1, 1, 1].getD i 3, 0, 1⟩
/-- fillings: 0 size, 1 found, 2 box, 3 longer, 4 filling, 5 word -/
abbrev s23 : Stmt := topS 6
abbrev N23 : List Str := ["size", "found", "box", "longer", "filling", "word"]
theorem sc23 : FnScope N23 ["size"] (defScope s23) := ⟨rfl, rfl, rfl, by decide +kernel, rfl, by decide +kernel, by decide +kernel⟩
def L23_0 : ISs := .cons (.mut 3 .no .append (.cons (.bin .Add (.var 4) (.tup (.cons (.var 5) .nil))) .nil)) .nil
def L23_1 : ISs := .cons (.for_ (.one 5) (.rg1 (.call 9 (.cons (.var 0) .nil))) L23_0) .nil
def L23_2_2 : ISs := .cons (.mov 1 3) .nil
def L23_2_1 : ISs := .cons (.for_ (.one 4) (.el (.var 1)) L23_1) L23_2_2
def L23_2 : ISs := .cons (.asg 3 (.lst .nil)) L23_2_1
def t23_2 : ISs := .cons (.ret (.var 1)) .nil
def t23_1 : ISs := .cons (.for_ (.one 2) (.rg1 (.idx (.var 0) (.int 1))) L23_2) t23_2
def b23 : ISs := .cons (.asg 1 (.lst (.cons (.tup .nil) .nil))) t23_1
def R23 : List Bod := (6, b23) :: R22
def K23 : Fk := ⟨fun i => [0, 1, 0, 1, 0, 0].getD i 2, fun i => [1, 1, 1, 1, 1, 1].getD i 3, 1, 1⟩
/-- table_of: 0 size, 1 stock, 2 row, 3 filling -/
abbrev s24 : Stmt := topS 26
abbrev N24 : List Str := ["size", "stock", "row", "filling"]
theorem sc24 : FnScope N24 ["size", "stock", "row"] (defScope s24) := ⟨rfl, rfl, rfl, by decide +kernel, rfl, by decide +kernel, by decide +kernel⟩
def b24 : ISs := .cons (.ret (.bi .tuple (.cons (.comp (.call 22 (.cons (.var 0) (.cons (.var 1) (.cons (.var 2) (.cons (.var 3) .nil))))) (.one 3) (.el (.call 23 (.cons (.var 0) .nil))) .no) .nil))) .nil
def R24 : List Bod := (4, b24) :: R23
def K24 : Fk := ⟨fun i => [0, 1, 0, 0].getD i 2, fun i => [1, 3, 1, 1].getD i 3, 0, 1⟩
/-- seen_in: 0 filling, 1 boxes, 2 box -/
abbrev s25 : Stmt := topS 32
abbrev N25 : List Str := ["filling", "boxes", "box"]
theorem sc25 : FnScope N25 ["filling", "boxes"] (defScope s25) := ⟨rfl, rfl, rfl, by decide +kernel, rfl, by decide +kernel, by decide +kernel⟩
def b25 : ISs := .cons (.ret (.bi .tuple (.cons (.comp (.idx (.var 0) (.var 2)) (.one 2) (.el (.var 1)) .no) .nil))) .nil
def R25 : List Bod := (3, b25) :: R24
def K25 : Fk := ⟨fun i => [0, 1, 0].getD i 2, fun i => [1, 3, 1].getD i 3, 0, 1⟩
/-- fillings_by_sight: 0 size, 1 table, 2 boxes, 3 found, 4 filling, 5 came -/
abbrev s26 : Stmt := topS 33
abbrev N26 : List Str := ["size", "table", "boxes", "found", "filling", "came"]
theorem sc26 : FnScope N26 ["size", "table", "boxes"] (defScope s26) := ⟨rfl, rfl, rfl, by decide +kernel, rfl, by decide +kernel, by decide +kernel⟩
def L26_0 : ISs := .cons (.sdp 3 (.call 25 (.cons (.var 5) (.cons (.var 2) .nil))) (.var 4)) .nil
def t26_2 : ISs := .cons (.ret (.var 3)) .nil
def t26_1 : ISs := .cons (.for_ (.many [4, 5]) (.zip (.call 23 (.cons (.var 0) .nil)) (.var 1)) L26_0) t26_2
def b26 : ISs := .cons (.asg 3 (.dct .nil .nil)) t26_1
def R26 : List Bod := (6, b26) :: R25
def K26 : Fk := ⟨fun i => [0, 0, 1, 2, 0, 0].getD i 2, fun i => [1, 1, 3, 1, 1, 1].getD i 3, 2, 1⟩
/-- number_of: 0 size, 1 filling, 2 number, 3 word -/
abbrev s27 : Stmt := topS 7
abbrev N27 : List Str := ["size", "filling", "number", "word"]
theorem sc27 : FnScope N27 ["size", "filling"] (defScope s27) := ⟨rfl, rfl, rfl, by decide +kernel, rfl, by decide +kernel, by decide +kernel⟩
def L27_0 : ISs := .cons (.asg 2 (.bin .Add (.bin .Mult (.var 2) (.call 9 (.cons (.var 0) .nil))) (.var 3))) .nil
def t27_2 : ISs := .cons (.ret (.var 2)) .nil
def t27_1 : ISs := .cons (.for_ (.one 3) (.el (.var 1)) L27_0) t27_2
def b27 : ISs := .cons (.asg 2 (.int 0)) t27_1
def R27 : List Bod := (4, b27) :: R26
def K27 : Fk := ⟨fun i => [0, 0, 0, 0].getD i 2, fun i => [1, 1, 1, 1].getD i 3, 0, 1⟩
/-- wish_at: 0 size, 1 kit, 2 row, 3 place, 4 many, 5 looked, 6 boxes, 7 come, 8 filling, 9 inside, 10 behind, 11 alike, 12 wish, 13 came -/
abbrev s28 : Stmt := topS 34
abbrev N28 : List Str := ["size", "kit", "row", "place", "many", "looked", "boxes", "come", "filling", "inside", "behind", "alike", "wish", "came"]
theorem sc28 : FnScope N28 ["size", "kit", "row", "place", "many", "looked"] (defScope s28) := ⟨rfl, rfl, rfl, by decide +kernel, rfl, by decide +kernel, by decide +kernel⟩
def L28_0 : ISs := .cons (.mut 7 .no .set (.cons (.bl true) (.cons (.var 8) .nil))) .nil
def L28_1 : ISs := .cons (.ife (.cmp .In (.var 8) (.var 7))
  (.cons (.mut 12 .no .append (.cons (.bi .list (.cons (.idx (.var 11) (.call 25 (.cons (.idx (.var 10) (.call 27 (.cons (.var 0) (.cons (.var 13) .nil)))) (.cons (.var 6) .nil)))) .nil)) .nil))
  .nil)
  (.cons (.mut 12 .no .append (.cons .non .nil))
  .nil)) .nil
def t28_9 : ISs := .cons (.ret (.var 12)) .nil
def t28_8 : ISs := .cons (.for_ (.many [8, 13]) (.zip (.call 23 (.cons (.var 0) .nil)) (.var 9)) L28_1) t28_9
def t28_7 : ISs := .cons (.asg 12 (.lst .nil)) t28_8
def t28_6 : ISs := .cons (.asg 11 (.call 26 (.cons (.var 0) (.cons (.var 10) (.cons (.var 6) .nil))))) t28_7
def t28_5 : ISs := .cons (.asg 10 (.call 24 (.cons (.var 0) (.cons (.var 1) (.cons (.slc (.var 2) (.so (.bin .Add (.var 3) (.var 4))) .no) .nil))))) t28_6
def t28_4 : ISs := .cons (.asg 9 (.call 24 (.cons (.var 0) (.cons (.var 1) (.cons (.slc (.var 2) (.so (.var 3)) (.so (.bin .Add (.var 3) (.var 4)))) .nil))))) t28_5
def t28_3 : ISs := .cons (.for_ (.one 8) (.el (.call 24 (.cons (.var 0) (.cons (.var 1) (.cons (.slc (.var 2) .no (.so (.var 3))) .nil))))) L28_0) t28_4
def t28_2 : ISs := .cons (.asg 7 (.dct .nil .nil)) t28_3
def t28_1 : ISs := .cons (.asg 6 (.call 8 (.cons (.var 0) (.cons (.var 5) .nil)))) t28_2
def b28 : ISs := .cons (.exp (.call 7 (.cons (.var 2) (.cons (.var 3) (.cons (.var 4) .nil))))) t28_1
def R28 : List Bod := (14, b28) :: R27
def K28 : Fk := ⟨fun i => [0, 1, 0, 0, 0, 1, 1, 1, 0, 0, 0, 2, 2, 0].getD i 2, fun i => [1, 3, 1, 1, 1, 3, 1, 1, 1, 1, 1, 2, 2, 1].getD i 3, 2, 2⟩
/-- _law_cells: 0 _law_script, 1 _law_start, 2 _law_many, 3 _law_k -/
abbrev s29 : Stmt := topS 37
abbrev N29 : List Str := ["_law_script", "_law_start", "_law_many", "_law_k"]
theorem sc29 : FnScope N29 ["_law_script", "_law_start", "_law_many"] (defScope s29) := ⟨rfl, rfl, rfl, by decide +kernel, rfl, by decide +kernel, by decide +kernel⟩
def b29 : ISs := .cons (.ret (.comp (.call 3 (.cons (.var 0) (.cons (.bin .Add (.var 1) (.var 3)) .nil))) (.one 3) (.rg1 (.var 2)) .no)) .nil
def R29 : List Bod := (4, b29) :: R28
def K29 : Fk := ⟨fun i => [1, 0, 0, 0].getD i 2, fun i => [3, 1, 1, 1].getD i 3, 1, 1⟩
/-- misses_at: 0 size, 1 wish, 2 table, 3 number, 4 filling -/
abbrev s30 : Stmt := topS 28
abbrev N30 : List Str := ["size", "wish", "table", "number", "filling"]
theorem sc30 : FnScope N30 ["size", "wish", "table"] (defScope s30) := ⟨rfl, rfl, rfl, by decide +kernel, rfl, by decide +kernel, by decide +kernel⟩
def L30_0 : ISs := .cons (.ife (.bo false (.cmp .IsNot (.idx (.var 1) (.var 3)) .non) (.cmp .NotIn (.idx (.var 2) (.var 3)) (.idx (.var 1) (.var 3))))
  (.cons (.ret (.var 4))
  .nil)
  .nil) .nil
def t30_1 : ISs := .cons (.ret .non) .nil
def b30 : ISs := .cons (.for_ (.many [3, 4]) (.enu (.call 23 (.cons (.var 0) .nil))) L30_0) t30_1
def R30 : List Bod := (5, b30) :: R29
def K30 : Fk := ⟨fun i => [0, 2, 0, 0, 0].getD i 2, fun i => [1, 3, 1, 1, 1].getD i 3, 0, 1⟩
/-- does_wish: 0 size, 1 wish, 2 table -/
abbrev s31 : Stmt := topS 29
abbrev N31 : List Str := ["size", "wish", "table"]
theorem sc31 : FnScope N31 ["size", "wish", "table"] (defScope s31) := ⟨rfl, rfl, rfl, by decide +kernel, rfl, by decide +kernel, by decide +kernel⟩
def b31 : ISs := .cons (.ret (.cmp .Is (.call 30 (.cons (.var 0) (.cons (.var 1) (.cons (.var 2) .nil)))) .non)) .nil
def R31 : List Bod := (3, b31) :: R30
def K31 : Fk := ⟨fun i => [0, 2, 0].getD i 2, fun i => [1, 3, 1].getD i 3, 0, 1⟩
/-- _law_other: 0 _law_cell, 1 _law_k, 2 _law_kit_here, 3 _law_m, 4 _law_found, 5 _law_j -/
abbrev s32 : Stmt := topS 50
abbrev N32 : List Str := ["_law_cell", "_law_k", "_law_kit_here", "_law_m", "_law_found", "_law_j"]
theorem sc32 : FnScope N32 ["_law_cell", "_law_k", "_law_kit_here"] (defScope s32) := ⟨rfl, rfl, rfl, by decide +kernel, rfl, by decide +kernel, by decide +kernel⟩
def L32_0_1 : ISs := .cons (.mut 4 .no .append (.cons (.bin .Mod (.var 3) (.bi .len (.cons (.var 2) .nil))) .nil)) .nil
def L32_0 : ISs := .cons (.asg 3 (.bin .FloorDiv (.var 3) (.int 5))) L32_0_1
def t32_3 : ISs := .cons (.ret (.bi .tuple (.cons (.var 4) .nil))) .nil
def t32_2 : ISs := .cons (.for_ (.one 5) (.rg1 (.bin .Mod (.var 3) (.int 5))) L32_0) t32_3
def t32_1 : ISs := .cons (.asg 4 (.lst .nil)) t32_2
def b32 : ISs := .cons (.asg 3 (.call 1 (.cons (.var 0) (.cons (.bin .Add (.var 1) (.int 40)) .nil)))) t32_1
def R32 : List Bod := (6, b32) :: R31
def K32 : Fk := ⟨fun i => [0, 0, 1, 0, 1, 0].getD i 2, fun i => [1, 1, 3, 1, 1, 1].getD i 3, 0, 1⟩
/-- _law_all: 0 _law_size_here, 1 _law_found, 2 _law_box, 3 _law_longer, 4 _law_one, 5 _law_word_here -/
abbrev s33 : Stmt := topS 40
abbrev N33 : List Str := ["_law_size_here", "_law_found", "_law_box", "_law_longer", "_law_one", "_law_word_here"]
theorem sc33 : FnScope N33 ["_law_size_here"] (defScope s33) := ⟨rfl, rfl, rfl, by decide +kernel, rfl, by decide +kernel, by decide +kernel⟩
def L33_0 : ISs := .cons (.asg 3 (.bin .Add (.var 3) (.comp (.bin .Add (.var 4) (.tup (.cons (.var 5) .nil))) (.one 5) (.rg1 (.bin .LShift (.int 1) (.idx (.var 0) (.int 0)))) .no))) .nil
def L33_1_2 : ISs := .cons (.mov 1 3) .nil
def L33_1_1 : ISs := .cons (.for_ (.one 4) (.el (.var 1)) L33_0) L33_1_2
def L33_1 : ISs := .cons (.asg 3 (.lst .nil)) L33_1_1
def t33_2 : ISs := .cons (.ret (.var 1)) .nil
def t33_1 : ISs := .cons (.for_ (.one 2) (.rg1 (.idx (.var 0) (.int 1))) L33_1) t33_2
def b33 : ISs := .cons (.asg 1 (.lst (.cons (.tup .nil) .nil))) t33_1
def R33 : List Bod := (6, b33) :: R32
def K33 : Fk := ⟨fun i => [0, 1, 0, 1, 0, 0].getD i 2, fun i => [1, 1, 1, 1, 1, 1].getD i 3, 1, 1⟩
/-- _law_seen: 0 _law_filling, 1 _law_looked_here, 2 _law_box -/
abbrev s34 : Stmt := topS 48
abbrev N34 : List Str := ["_law_filling", "_law_looked_here", "_law_box"]
theorem sc34 : FnScope N34 ["_law_filling", "_law_looked_here"] (defScope s34) := ⟨rfl, rfl, rfl, by decide +kernel, rfl, by decide +kernel, by decide +kernel⟩
def b34 : ISs := .cons (.ret (.comp (.idx (.var 0) (.var 2)) (.one 2) (.el (.var 1)) .no)) .nil
def R34 : List Bod := (3, b34) :: R33
def K34 : Fk := ⟨fun i => [0, 1, 0].getD i 2, fun i => [1, 3, 1].getD i 3, 1, 1⟩
/-- _law_word: 0 _law_size_here, 1 _law_step_here, 2 _law_filling, 3 _law_word_here, 4 _law_other_here -/
abbrev s35 : Stmt := topS 42
abbrev N35 : List Str := ["_law_size_here", "_law_step_here", "_law_filling", "_law_word_here", "_law_other_here"]
theorem sc35 : FnScope N35 ["_law_size_here", "_law_step_here", "_law_filling"] (defScope s35) := ⟨rfl, rfl, rfl, by decide +kernel, rfl, by decide +kernel, by decide +kernel⟩
def t35_11 : ISs := .cons (.ret (.var 4)) .nil
def t35_10 : ISs := .cons (.ife (.cmp .Eq (.idx (.var 1) (.int 0)) (.str (Str.ofString "take")))
  (.cons (.ret (.bin .Sub (.var 3) (.var 4)))
  .nil)
  .nil) t35_11
def t35_9 : ISs := .cons (.ife (.cmp .Eq (.idx (.var 1) (.int 0)) (.str (Str.ofString "add")))
  (.cons (.ret (.bin .Add (.var 3) (.var 4)))
  .nil)
  .nil) t35_10
def t35_8 : ISs := .cons (.ife (.cmp .Eq (.idx (.var 1) (.int 0)) (.str (Str.ofString "xor")))
  (.cons (.ret (.bin .BitXor (.var 3) (.var 4)))
  .nil)
  .nil) t35_9
def t35_7 : ISs := .cons (.ife (.cmp .Eq (.idx (.var 1) (.int 0)) (.str (Str.ofString "or")))
  (.cons (.ret (.bin .BitOr (.var 3) (.var 4)))
  .nil)
  .nil) t35_8
def t35_6 : ISs := .cons (.ife (.cmp .Eq (.idx (.var 1) (.int 0)) (.str (Str.ofString "and")))
  (.cons (.ret (.bin .BitAnd (.var 3) (.var 4)))
  .nil)
  .nil) t35_7
def t35_5 : ISs := .cons (.asg 4 (.idx (.var 2) (.idx (.var 1) (.int 2)))) t35_6
def t35_4 : ISs := .cons (.ife (.cmp .Eq (.idx (.var 1) (.int 0)) (.str (Str.ofString "put")))
  (.cons (.ret (.idx (.var 1) (.int 2)))
  .nil)
  .nil) t35_5
def t35_3 : ISs := .cons (.ife (.cmp .Eq (.idx (.var 1) (.int 0)) (.str (Str.ofString "down")))
  (.cons (.ret (.bin .FloorDiv (.var 3) (.int 2)))
  .nil)
  .nil) t35_4
def t35_2 : ISs := .cons (.ife (.cmp .Eq (.idx (.var 1) (.int 0)) (.str (Str.ofString "up")))
  (.cons (.ret (.bin .Mult (.int 2) (.var 3)))
  .nil)
  .nil) t35_3
def t35_1 : ISs := .cons (.ife (.cmp .Eq (.idx (.var 1) (.int 0)) (.str (Str.ofString "not")))
  (.cons (.ret (.bin .Sub (.bin .Sub (.bin .LShift (.int 1) (.idx (.var 0) (.int 0))) (.int 1)) (.var 3)))
  .nil)
  .nil) t35_2
def b35 : ISs := .cons (.asg 3 (.idx (.var 2) (.idx (.var 1) (.int 1)))) t35_1
def R35 : List Bod := (5, b35) :: R34
def K35 : Fk := ⟨fun i => [0, 0, 0, 0, 0].getD i 2, fun i => [1, 1, 1, 1, 1].getD i 3, 0, 1⟩
/-- _law_made: 0 _law_size_here, 1 _law_step_here, 2 _law_filling, 3 _law_word_here -/
abbrev s36 : Stmt := topS 43
abbrev N36 : List Str := ["_law_size_here", "_law_step_here", "_law_filling", "_law_word_here"]
theorem sc36 : FnScope N36 ["_law_size_here", "_law_step_here", "_law_filling"] (defScope s36) := ⟨rfl, rfl, rfl, by decide +kernel, rfl, by decide +kernel, by decide +kernel⟩
def t36_1 : ISs := .cons (.ret (.bin .Add (.bin .Add (.slc (.var 2) .no (.so (.idx (.var 1) (.int 1)))) (.tup (.cons (.var 3) .nil))) (.slc (.var 2) (.so (.bin .Add (.idx (.var 1) (.int 1)) (.int 1))) .no))) .nil
def b36 : ISs := .cons (.asg 3 (.bin .Mod (.call 35 (.cons (.var 0) (.cons (.var 1) (.cons (.var 2) .nil)))) (.bin .LShift (.int 1) (.idx (.var 0) (.int 0))))) t36_1
def R36 : List Bod := (4, b36) :: R35
def K36 : Fk := ⟨fun i => [0, 0, 0, 0].getD i 2, fun i => [1, 1, 1, 1].getD i 3, 0, 1⟩
/-- _law_done: 0 _law_size_here, 1 _law_kit_here, 2 _law_row_here, 3 _law_filling, 4 _law_number -/
abbrev s37 : Stmt := topS 45
abbrev N37 : List Str := ["_law_size_here", "_law_kit_here", "_law_row_here", "_law_filling", "_law_number"]
theorem sc37 : FnScope N37 ["_law_size_here", "_law_kit_here", "_law_row_here", "_law_filling"] (defScope s37) := ⟨rfl, rfl, rfl, by decide +kernel, rfl, by decide +kernel, by decide +kernel⟩
def L37_0 : ISs := .cons (.asg 3 (.call 36 (.cons (.var 0) (.cons (.idx (.idx (.var 1) (.var 4)) (.int 0)) (.cons (.var 3) .nil))))) .nil
def t37_1 : ISs := .cons (.ret (.var 3)) .nil
def b37 : ISs := .cons (.for_ (.one 4) (.el (.var 2)) L37_0) t37_1
def R37 : List Bod := (5, b37) :: R36
def K37 : Fk := ⟨fun i => [0, 1, 0, 0, 0].getD i 2, fun i => [1, 3, 1, 1, 1].getD i 3, 0, 1⟩
/-- _law_same: 0 _law_size_here, 1 _law_kit_here, 2 _law_one, 3 _law_other_here, 4 _law_looked_here, 5 _law_filling, 6 _law_here -/
abbrev s38 : Stmt := topS 49
abbrev N38 : List Str := ["_law_size_here", "_law_kit_here", "_law_one", "_law_other_here", "_law_looked_here", "_law_filling", "_law_here"]
theorem sc38 : FnScope N38 ["_law_size_here", "_law_kit_here", "_law_one", "_law_other_here", "_law_looked_here"] (defScope s38) := ⟨rfl, rfl, rfl, by decide +kernel, rfl, by decide +kernel, by decide +kernel⟩
def L38_0_1 : ISs := .cons (.ife (.cmp .NotEq (.var 6) (.call 34 (.cons (.call 37 (.cons (.var 0) (.cons (.var 1) (.cons (.var 3) (.cons (.var 5) .nil))))) (.cons (.var 4) .nil))))
  (.cons (.ret (.bl false))
  .nil)
  .nil) .nil
def L38_0 : ISs := .cons (.asg 6 (.call 34 (.cons (.call 37 (.cons (.var 0) (.cons (.var 1) (.cons (.var 2) (.cons (.var 5) .nil))))) (.cons (.var 4) .nil)))) L38_0_1
def t38_1 : ISs := .cons (.ret (.bl true)) .nil
def b38 : ISs := .cons (.for_ (.one 5) (.el (.call 33 (.cons (.var 0) .nil))) L38_0) t38_1
def R38 : List Bod := (7, b38) :: R37
def K38 : Fk := ⟨fun i => [0, 1, 0, 0, 1, 0, 1].getD i 2, fun i => [1, 3, 1, 1, 3, 1, 1].getD i 3, 0, 1⟩
/-- law: 0 _law_script, 1 _law_size_here, 2 _law_kit_here, 3 _law_row_here, 4 _law_looked_here, 5 _law_place, 6 _law_many, 7 _law_wish, 8 _law_cells_here, 9 _law_k, 10 _law_other_here, 11 _law_there -/
abbrev s39 : Stmt := topS 51
abbrev N39 : List Str := ["_law_script", "_law_size_here", "_law_kit_here", "_law_row_here", "_law_looked_here", "_law_place", "_law_many", "_law_wish", "_law_cells_here", "_law_k", "_law_other_here", "_law_there"]
theorem sc39 : FnScope N39 ["_law_script"] (defScope s39) := ⟨rfl, rfl, rfl, by decide +kernel, rfl, by decide +kernel, by decide +kernel⟩
def L39_0_2 : ISs := .cons (.ife (.cmp .NotEq (.call 31 (.cons (.var 1) (.cons (.var 7) (.cons (.call 24 (.cons (.var 1) (.cons (.var 2) (.cons (.var 10) .nil)))) .nil)))) (.call 38 (.cons (.var 1) (.cons (.var 2) (.cons (.var 3) (.cons (.var 11) (.cons (.var 4) .nil)))))))
  (.cons (.ret (.bl false))
  .nil)
  .nil) .nil
def L39_0_1 : ISs := .cons (.asg 11 (.bin .Add (.bin .Add (.slc (.var 3) .no (.so (.var 5))) (.var 10)) (.slc (.var 3) (.so (.bin .Add (.var 5) (.var 6))) .no))) L39_0_2
def L39_0 : ISs := .cons (.asg 10 (.call 32 (.cons (.idx (.var 8) (.var 9)) (.cons (.var 9) (.cons (.var 2) .nil))))) L39_0_1
def t39_10 : ISs := .cons (.ret (.bl true)) .nil
def t39_9 : ISs := .cons (.for_ (.one 9) (.rg1 (.bi .len (.cons (.var 8) .nil))) L39_0) t39_10
def t39_8 : ISs := .cons (.asg 8 (.bin .Add (.lst (.cons (.int 0) (.cons (.int 1) .nil))) (.slc (.var 0) (.so (.int 21)) (.so (.int 63))))) t39_9
def t39_7 : ISs := .cons (.ife (.cmp .IsNot (.call 31 (.cons (.var 1) (.cons (.var 7) (.cons (.call 24 (.cons (.var 1) (.cons (.var 2) (.cons (.slc (.var 3) (.so (.var 5)) (.so (.bin .Add (.var 5) (.var 6)))) .nil)))) .nil)))) (.bl true))
  (.cons (.ret (.bl false))
  .nil)
  .nil) t39_8
def t39_6 : ISs := .cons (.asg 7 (.call 28 (.cons (.var 1) (.cons (.var 2) (.cons (.var 3) (.cons (.var 5) (.cons (.var 6) (.cons (.var 4) .nil)))))))) t39_7
def t39_5 : ISs := .cons (.asg 6 (.bin .Add (.int 1) (.bin .Mod (.bin .FloorDiv (.call 3 (.cons (.var 0) (.cons (.int 2) .nil))) (.int 40)) (.bin .Sub (.bi .len (.cons (.var 3) .nil)) (.var 5))))) t39_6
def t39_4 : ISs := .cons (.asg 5 (.bin .Mod (.call 3 (.cons (.var 0) (.cons (.int 2) .nil))) (.bi .len (.cons (.var 3) .nil)))) t39_5
def t39_3 : ISs := .cons (.asg 4 (.call 6 (.cons (.call 3 (.cons (.var 0) (.cons (.int 1) .nil))) (.cons (.var 1) .nil)))) t39_4
def t39_2 : ISs := .cons (.asg 3 (.call 5 (.cons (.call 29 (.cons (.var 0) (.cons (.int 9) (.cons (.bin .Add (.int 1) (.bin .Mod (.bin .FloorDiv (.call 3 (.cons (.var 0) (.cons (.int 1) .nil))) (.int 320)) (.int 12))) .nil)))) (.cons (.var 2) .nil)))) t39_3
def t39_1 : ISs := .cons (.asg 2 (.call 4 (.cons (.var 0) (.cons (.int 3) (.cons (.var 1) (.cons (.int 6) (.cons (.int 9) .nil))))))) t39_2
def b39 : ISs := .cons (.asg 1 (.call 0 (.cons (.call 3 (.cons (.var 0) (.cons (.int 0) .nil))) .nil))) t39_1
def R39 : List Bod := (12, b39) :: R38
def K39 : Fk := ⟨fun i => [1, 0, 1, 0, 1, 0, 0, 2, 1, 0, 0, 0].getD i 2, fun i => [3, 1, 3, 1, 3, 1, 1, 2, 1, 1, 1, 1].getD i 3, 0, 1⟩
def sgL : List Sig := [⟨[0], 0, 1⟩, ⟨[0, 0], 0, 1⟩, ⟨[0, 0], 0, 1⟩, ⟨[1, 0], 0, 1⟩, ⟨[1, 0, 0, 0, 0], 1, 1⟩, ⟨[1, 1], 0, 1⟩, ⟨[0, 0], 1, 1⟩, ⟨[0, 0, 0], 0, 1⟩, ⟨[0, 1], 1, 1⟩, ⟨[0], 0, 1⟩, ⟨[0], 0, 1⟩, ⟨[0, 0, 0], 0, 1⟩, ⟨[0, 0, 0], 0, 1⟩, ⟨[0, 0, 0], 0, 1⟩, ⟨[0, 0, 0], 0, 1⟩, ⟨[0, 0, 0], 0, 1⟩, ⟨[0, 0, 0], 0, 1⟩, ⟨[0, 0, 0], 0, 1⟩, ⟨[0, 0, 0], 0, 1⟩, ⟨[0, 0, 0], 0, 1⟩, ⟨[0, 0, 0], 0, 1⟩, ⟨[0, 0, 0], 0, 1⟩, ⟨[0, 1, 0, 0], 0, 1⟩, ⟨[0], 1, 1⟩, ⟨[0, 1, 0], 0, 1⟩, ⟨[0, 1], 0, 1⟩, ⟨[0, 0, 1], 2, 1⟩, ⟨[0, 0], 0, 1⟩, ⟨[0, 1, 0, 0, 0, 1], 2, 2⟩, ⟨[1, 0, 0], 1, 1⟩, ⟨[0, 2, 0], 0, 1⟩, ⟨[0, 2, 0], 0, 1⟩, ⟨[0, 0, 1], 0, 1⟩, ⟨[0], 1, 1⟩, ⟨[0, 1], 1, 1⟩, ⟨[0, 0, 0], 0, 1⟩, ⟨[0, 0, 0], 0, 1⟩, ⟨[0, 1, 0, 0], 0, 1⟩, ⟨[0, 1, 0, 0, 1], 0, 1⟩, ⟨[1], 0, 1⟩]
def msL : List Sig := [⟨[0, 0], 0, 1⟩]
def TT : TX := ⟨"_law_size" :: "_law_mixed" :: "_law_step" :: "_law_cell_at" :: "_law_kit" :: "_law_row" :: "_law_looked" :: "look_at_window" :: "boxes_looked" :: "words_of" :: "kind_of" :: "" :: "" :: "" :: "" :: "" :: "" :: "" :: "" :: "" :: "" :: "step_on" :: "row_on" :: "fillings" :: "table_of" :: "seen_in" :: "fillings_by_sight" :: "number_of" :: "wish_at" :: "_law_cells" :: "misses_at" :: "does_wish" :: "_law_other" :: "_law_all" :: "_law_seen" :: "_law_word" :: "_law_made" :: "_law_done" :: "_law_same" :: "law" :: [], ["Kind", "Up", "Down", "And", "Or", "Xor", "Add", "Take", "Copy", "Put"], ["made"], fun i => sgL.getD i ⟨[], 2, 3⟩, fun i => msL.getD i ⟨[], 2, 3⟩, [[some 11], [some 12], [some 13], [some 14], [some 15], [some 16], [some 17], [some 18], [some 19], [some 20]], [], [], fun i => [0, 0, 0, 0, 0, 0, 0, 0, 0, 0, 0, 0, 0, 0, 0, 0, 0, 0, 0, 0, 0, 0, 0, 0, 0, 0, 0, 0, 1, 0, 0, 0, 0, 0, 0, 0, 0, 0, 0, 0].getD i 0⟩
abbrev ph : Nat → List D → R D := phiR TT.M R39
/-- _law_size -/
def g0 (ds : List D) : R D := evB (phiR TT.M []) TT.M 2 b0 ds
/-- _law_mixed -/
def g1 (ds : List D) : R D := evB (phiR TT.M R0) TT.M 3 b1 ds
/-- _law_step -/
def g2 (ds : List D) : R D := evB (phiR TT.M R1) TT.M 5 b2 ds
/-- _law_cell_at -/
def g3 (ds : List D) : R D := evB (phiR TT.M R2) TT.M 2 b3 ds
/-- _law_kit -/
def g4 (ds : List D) : R D := evB (phiR TT.M R3) TT.M 11 b4 ds
/-- _law_row -/
def g5 (ds : List D) : R D := evB (phiR TT.M R4) TT.M 3 b5 ds
/-- _law_looked -/
def g6 (ds : List D) : R D := evB (phiR TT.M R5) TT.M 3 b6 ds
/-- look_at_window -/
def g7 (ds : List D) : R D := evB (phiR TT.M R6) TT.M 3 b7 ds
/-- boxes_looked -/
def g8 (ds : List D) : R D := evB (phiR TT.M R7) TT.M 2 b8 ds
/-- words_of -/
def g9 (ds : List D) : R D := evB (phiR TT.M R8) TT.M 1 b9 ds
/-- kind_of -/
def g10 (ds : List D) : R D := evB (phiR TT.M R9) TT.M 2 b10 ds
/-- Kind.made -/
def g11 (ds : List D) : R D := evB (phiR TT.M R10) TT.M 3 b11 ds
/-- Up.made -/
def g12 (ds : List D) : R D := evB (phiR TT.M R11) TT.M 3 b12 ds
/-- Down.made -/
def g13 (ds : List D) : R D := evB (phiR TT.M R12) TT.M 3 b13 ds
/-- And.made -/
def g14 (ds : List D) : R D := evB (phiR TT.M R13) TT.M 3 b14 ds
/-- Or.made -/
def g15 (ds : List D) : R D := evB (phiR TT.M R14) TT.M 3 b15 ds
/-- Xor.made -/
def g16 (ds : List D) : R D := evB (phiR TT.M R15) TT.M 3 b16 ds
/-- Add.made -/
def g17 (ds : List D) : R D := evB (phiR TT.M R16) TT.M 3 b17 ds
/-- Take.made -/
def g18 (ds : List D) : R D := evB (phiR TT.M R17) TT.M 3 b18 ds
/-- Copy.made -/
def g19 (ds : List D) : R D := evB (phiR TT.M R18) TT.M 3 b19 ds
/-- Put.made -/
def g20 (ds : List D) : R D := evB (phiR TT.M R19) TT.M 3 b20 ds
/-- step_on -/
def g21 (ds : List D) : R D := evB (phiR TT.M R20) TT.M 5 b21 ds
/-- row_on -/
def g22 (ds : List D) : R D := evB (phiR TT.M R21) TT.M 5 b22 ds
/-- fillings -/
def g23 (ds : List D) : R D := evB (phiR TT.M R22) TT.M 6 b23 ds
/-- table_of -/
def g24 (ds : List D) : R D := evB (phiR TT.M R23) TT.M 4 b24 ds
/-- seen_in -/
def g25 (ds : List D) : R D := evB (phiR TT.M R24) TT.M 3 b25 ds
/-- fillings_by_sight -/
def g26 (ds : List D) : R D := evB (phiR TT.M R25) TT.M 6 b26 ds
/-- number_of -/
def g27 (ds : List D) : R D := evB (phiR TT.M R26) TT.M 4 b27 ds
/-- wish_at -/
def g28 (ds : List D) : R D := evB (phiR TT.M R27) TT.M 14 b28 ds
/-- _law_cells -/
def g29 (ds : List D) : R D := evB (phiR TT.M R28) TT.M 4 b29 ds
/-- misses_at -/
def g30 (ds : List D) : R D := evB (phiR TT.M R29) TT.M 5 b30 ds
/-- does_wish -/
def g31 (ds : List D) : R D := evB (phiR TT.M R30) TT.M 3 b31 ds
/-- _law_other -/
def g32 (ds : List D) : R D := evB (phiR TT.M R31) TT.M 6 b32 ds
/-- _law_all -/
def g33 (ds : List D) : R D := evB (phiR TT.M R32) TT.M 6 b33 ds
/-- _law_seen -/
def g34 (ds : List D) : R D := evB (phiR TT.M R33) TT.M 3 b34 ds
/-- _law_word -/
def g35 (ds : List D) : R D := evB (phiR TT.M R34) TT.M 5 b35 ds
/-- _law_made -/
def g36 (ds : List D) : R D := evB (phiR TT.M R35) TT.M 4 b36 ds
/-- _law_done -/
def g37 (ds : List D) : R D := evB (phiR TT.M R36) TT.M 5 b37 ds
/-- _law_same -/
def g38 (ds : List D) : R D := evB (phiR TT.M R37) TT.M 7 b38 ds
/-- law -/
def g39 (ds : List D) : R D := evB (phiR TT.M R38) TT.M 12 b39 ds
theorem c4_1 (ds : List D) : phiR TT.M R3 1 ds = g1 ds := rfl
theorem c4_2 (ds : List D) : phiR TT.M R3 2 ds = g2 ds := rfl
theorem c4_3 (ds : List D) : phiR TT.M R3 3 ds = g3 ds := rfl
theorem c5_1 (ds : List D) : phiR TT.M R4 1 ds = g1 ds := rfl
theorem c21_9 (ds : List D) : phiR TT.M R20 9 ds = g9 ds := rfl
theorem c21_10 (ds : List D) : phiR TT.M R20 10 ds = g10 ds := rfl
theorem c21_11 (ds : List D) : phiR TT.M R20 11 ds = g11 ds := rfl
theorem c21_12 (ds : List D) : phiR TT.M R20 12 ds = g12 ds := rfl
theorem c21_13 (ds : List D) : phiR TT.M R20 13 ds = g13 ds := rfl
theorem c21_14 (ds : List D) : phiR TT.M R20 14 ds = g14 ds := rfl
theorem c21_15 (ds : List D) : phiR TT.M R20 15 ds = g15 ds := rfl
theorem c21_16 (ds : List D) : phiR TT.M R20 16 ds = g16 ds := rfl
theorem c21_17 (ds : List D) : phiR TT.M R20 17 ds = g17 ds := rfl
theorem c21_18 (ds : List D) : phiR TT.M R20 18 ds = g18 ds := rfl
theorem c21_19 (ds : List D) : phiR TT.M R20 19 ds = g19 ds := rfl
theorem c21_20 (ds : List D) : phiR TT.M R20 20 ds = g20 ds := rfl
theorem c22_21 (ds : List D) : phiR TT.M R21 21 ds = g21 ds := rfl
theorem c23_9 (ds : List D) : phiR TT.M R22 9 ds = g9 ds := rfl
theorem c24_22 (ds : List D) : phiR TT.M R23 22 ds = g22 ds := rfl
theorem c24_23 (ds : List D) : phiR TT.M R23 23 ds = g23 ds := rfl
theorem c26_23 (ds : List D) : phiR TT.M R25 23 ds = g23 ds := rfl
theorem c26_25 (ds : List D) : phiR TT.M R25 25 ds = g25 ds := rfl
theorem c27_9 (ds : List D) : phiR TT.M R26 9 ds = g9 ds := rfl
theorem c28_7 (ds : List D) : phiR TT.M R27 7 ds = g7 ds := rfl
theorem c28_8 (ds : List D) : phiR TT.M R27 8 ds = g8 ds := rfl
theorem c28_23 (ds : List D) : phiR TT.M R27 23 ds = g23 ds := rfl
theorem c28_24 (ds : List D) : phiR TT.M R27 24 ds = g24 ds := rfl
theorem c28_25 (ds : List D) : phiR TT.M R27 25 ds = g25 ds := rfl
theorem c28_26 (ds : List D) : phiR TT.M R27 26 ds = g26 ds := rfl
theorem c28_27 (ds : List D) : phiR TT.M R27 27 ds = g27 ds := rfl
theorem c29_3 (ds : List D) : phiR TT.M R28 3 ds = g3 ds := rfl
theorem c30_23 (ds : List D) : phiR TT.M R29 23 ds = g23 ds := rfl
theorem c31_30 (ds : List D) : phiR TT.M R30 30 ds = g30 ds := rfl
theorem c32_1 (ds : List D) : phiR TT.M R31 1 ds = g1 ds := rfl
theorem c36_35 (ds : List D) : phiR TT.M R35 35 ds = g35 ds := rfl
theorem c37_36 (ds : List D) : phiR TT.M R36 36 ds = g36 ds := rfl
theorem c38_33 (ds : List D) : phiR TT.M R37 33 ds = g33 ds := rfl
theorem c38_34 (ds : List D) : phiR TT.M R37 34 ds = g34 ds := rfl
theorem c38_37 (ds : List D) : phiR TT.M R37 37 ds = g37 ds := rfl
theorem c39_0 (ds : List D) : phiR TT.M R38 0 ds = g0 ds := rfl
theorem c39_3 (ds : List D) : phiR TT.M R38 3 ds = g3 ds := rfl
theorem c39_4 (ds : List D) : phiR TT.M R38 4 ds = g4 ds := rfl
theorem c39_5 (ds : List D) : phiR TT.M R38 5 ds = g5 ds := rfl
theorem c39_6 (ds : List D) : phiR TT.M R38 6 ds = g6 ds := rfl
theorem c39_24 (ds : List D) : phiR TT.M R38 24 ds = g24 ds := rfl
theorem c39_28 (ds : List D) : phiR TT.M R38 28 ds = g28 ds := rfl
theorem c39_29 (ds : List D) : phiR TT.M R38 29 ds = g29 ds := rfl
theorem c39_31 (ds : List D) : phiR TT.M R38 31 ds = g31 ds := rfl
theorem c39_32 (ds : List D) : phiR TT.M R38 32 ds = g32 ds := rfl
theorem c39_38 (ds : List D) : phiR TT.M R38 38 ds = g38 ds := rfl
theorem cM0_0 : TT.M 0 0 = some 11 := rfl
theorem cM1_0 : TT.M 1 0 = some 12 := rfl
theorem cM2_0 : TT.M 2 0 = some 13 := rfl
theorem cM3_0 : TT.M 3 0 = some 14 := rfl
theorem cM4_0 : TT.M 4 0 = some 15 := rfl
theorem cM5_0 : TT.M 5 0 = some 16 := rfl
theorem cM6_0 : TT.M 6 0 = some 17 := rfl
theorem cM7_0 : TT.M 7 0 = some 18 := rfl
theorem cM8_0 : TT.M 8 0 = some 19 := rfl
theorem cM9_0 : TT.M 9 0 = some 20 := rfl
theorem ph_law (ds : List D) : ph 39 ds = g39 ds := rfl
theorem m0 : mSs (TT.sx []) N0 b0 (defScope s0) (defBody s0) = true := by decide +kernel
theorem w0 : wSs (TT.sx []) K0 b0 [] = true := by decide +kernel
theorem m1 : mSs (TT.sx R0) N1 b1 (defScope s1) (defBody s1) = true := by decide +kernel
theorem w1 : wSs (TT.sx R0) K1 b1 [] = true := by decide +kernel
theorem m2 : mSs (TT.sx R1) N2 b2 (defScope s2) (defBody s2) = true := by decide +kernel
theorem w2 : wSs (TT.sx R1) K2 b2 [] = true := by decide +kernel
theorem m3 : mSs (TT.sx R2) N3 b3 (defScope s3) (defBody s3) = true := by decide +kernel
theorem w3 : wSs (TT.sx R2) K3 b3 [] = true := by decide +kernel
theorem m4 : mSs (TT.sx R3) N4 b4 (defScope s4) (defBody s4) = true := by decide +kernel
theorem w4 : wSs (TT.sx R3) K4 b4 [] = true := by decide +kernel
theorem m5 : mSs (TT.sx R4) N5 b5 (defScope s5) (defBody s5) = true := by decide +kernel
theorem w5 : wSs (TT.sx R4) K5 b5 [] = true := by decide +kernel
theorem m6 : mSs (TT.sx R5) N6 b6 (defScope s6) (defBody s6) = true := by decide +kernel
theorem w6 : wSs (TT.sx R5) K6 b6 [] = true := by decide +kernel
theorem m7 : mSs (TT.sx R6) N7 b7 (defScope s7) (defBody s7) = true := by decide +kernel
theorem w7 : wSs (TT.sx R6) K7 b7 [] = true := by decide +kernel
theorem m8 : mSs (TT.sx R7) N8 b8 (defScope s8) (defBody s8) = true := by decide +kernel
theorem w8 : wSs (TT.sx R7) K8 b8 [] = true := by decide +kernel
theorem m9 : mSs (TT.sx R8) N9 b9 (defScope s9) (defBody s9) = true := by decide +kernel
theorem w9 : wSs (TT.sx R8) K9 b9 [] = true := by decide +kernel
theorem m10 : mSs (TT.sx R9) N10 b10 (defScope s10) (defBody s10) = true := by decide +kernel
theorem w10 : wSs (TT.sx R9) K10 b10 [] = true := by decide +kernel
theorem m11 : mSs (TT.sx R10) N11 b11 (defScope s11) (defBody s11) = true := by decide +kernel
theorem w11 : wSs (TT.sx R10) K11 b11 [] = true := by decide +kernel
theorem m12 : mSs (TT.sx R11) N12 b12 (defScope s12) (defBody s12) = true := by decide +kernel
theorem w12 : wSs (TT.sx R11) K12 b12 [] = true := by decide +kernel
theorem m13 : mSs (TT.sx R12) N13 b13 (defScope s13) (defBody s13) = true := by decide +kernel
theorem w13 : wSs (TT.sx R12) K13 b13 [] = true := by decide +kernel
theorem m14 : mSs (TT.sx R13) N14 b14 (defScope s14) (defBody s14) = true := by decide +kernel
theorem w14 : wSs (TT.sx R13) K14 b14 [] = true := by decide +kernel
theorem m15 : mSs (TT.sx R14) N15 b15 (defScope s15) (defBody s15) = true := by decide +kernel
theorem w15 : wSs (TT.sx R14) K15 b15 [] = true := by decide +kernel
theorem m16 : mSs (TT.sx R15) N16 b16 (defScope s16) (defBody s16) = true := by decide +kernel
theorem w16 : wSs (TT.sx R15) K16 b16 [] = true := by decide +kernel
theorem m17 : mSs (TT.sx R16) N17 b17 (defScope s17) (defBody s17) = true := by decide +kernel
theorem w17 : wSs (TT.sx R16) K17 b17 [] = true := by decide +kernel
theorem m18 : mSs (TT.sx R17) N18 b18 (defScope s18) (defBody s18) = true := by decide +kernel
theorem w18 : wSs (TT.sx R17) K18 b18 [] = true := by decide +kernel
theorem m19 : mSs (TT.sx R18) N19 b19 (defScope s19) (defBody s19) = true := by decide +kernel
theorem w19 : wSs (TT.sx R18) K19 b19 [] = true := by decide +kernel
theorem m20 : mSs (TT.sx R19) N20 b20 (defScope s20) (defBody s20) = true := by decide +kernel
theorem w20 : wSs (TT.sx R19) K20 b20 [] = true := by decide +kernel
theorem m21 : mSs (TT.sx R20) N21 b21 (defScope s21) (defBody s21) = true := by decide +kernel
theorem w21 : wSs (TT.sx R20) K21 b21 [] = true := by decide +kernel
theorem m22 : mSs (TT.sx R21) N22 b22 (defScope s22) (defBody s22) = true := by decide +kernel
theorem w22 : wSs (TT.sx R21) K22 b22 [] = true := by decide +kernel
theorem m23 : mSs (TT.sx R22) N23 b23 (defScope s23) (defBody s23) = true := by decide +kernel
theorem w23 : wSs (TT.sx R22) K23 b23 [] = true := by decide +kernel
theorem m24 : mSs (TT.sx R23) N24 b24 (defScope s24) (defBody s24) = true := by decide +kernel
theorem w24 : wSs (TT.sx R23) K24 b24 [] = true := by decide +kernel
theorem m25 : mSs (TT.sx R24) N25 b25 (defScope s25) (defBody s25) = true := by decide +kernel
theorem w25 : wSs (TT.sx R24) K25 b25 [] = true := by decide +kernel
theorem m26 : mSs (TT.sx R25) N26 b26 (defScope s26) (defBody s26) = true := by decide +kernel
theorem w26 : wSs (TT.sx R25) K26 b26 [] = true := by decide +kernel
theorem m27 : mSs (TT.sx R26) N27 b27 (defScope s27) (defBody s27) = true := by decide +kernel
theorem w27 : wSs (TT.sx R26) K27 b27 [] = true := by decide +kernel
theorem m28 : mSs (TT.sx R27) N28 b28 (defScope s28) (defBody s28) = true := by decide +kernel
theorem w28 : wSs (TT.sx R27) K28 b28 [] = true := by decide +kernel
theorem m29 : mSs (TT.sx R28) N29 b29 (defScope s29) (defBody s29) = true := by decide +kernel
theorem w29 : wSs (TT.sx R28) K29 b29 [] = true := by decide +kernel
theorem m30 : mSs (TT.sx R29) N30 b30 (defScope s30) (defBody s30) = true := by decide +kernel
theorem w30 : wSs (TT.sx R29) K30 b30 [] = true := by decide +kernel
theorem m31 : mSs (TT.sx R30) N31 b31 (defScope s31) (defBody s31) = true := by decide +kernel
theorem w31 : wSs (TT.sx R30) K31 b31 [] = true := by decide +kernel
theorem m32 : mSs (TT.sx R31) N32 b32 (defScope s32) (defBody s32) = true := by decide +kernel
theorem w32 : wSs (TT.sx R31) K32 b32 [] = true := by decide +kernel
theorem m33 : mSs (TT.sx R32) N33 b33 (defScope s33) (defBody s33) = true := by decide +kernel
theorem w33 : wSs (TT.sx R32) K33 b33 [] = true := by decide +kernel
theorem m34 : mSs (TT.sx R33) N34 b34 (defScope s34) (defBody s34) = true := by decide +kernel
theorem w34 : wSs (TT.sx R33) K34 b34 [] = true := by decide +kernel
theorem m35 : mSs (TT.sx R34) N35 b35 (defScope s35) (defBody s35) = true := by decide +kernel
theorem w35 : wSs (TT.sx R34) K35 b35 [] = true := by decide +kernel
theorem m36 : mSs (TT.sx R35) N36 b36 (defScope s36) (defBody s36) = true := by decide +kernel
theorem w36 : wSs (TT.sx R35) K36 b36 [] = true := by decide +kernel
theorem m37 : mSs (TT.sx R36) N37 b37 (defScope s37) (defBody s37) = true := by decide +kernel
theorem w37 : wSs (TT.sx R36) K37 b37 [] = true := by decide +kernel
theorem m38 : mSs (TT.sx R37) N38 b38 (defScope s38) (defBody s38) = true := by decide +kernel
theorem w38 : wSs (TT.sx R37) K38 b38 [] = true := by decide +kernel
theorem m39 : mSs (TT.sx R38) N39 b39 (defScope s39) (defBody s39) = true := by decide +kernel
theorem w39 : wSs (TT.sx R38) K39 b39 [] = true := by decide +kernel
section
variable {P : Program} {w : World} {K : PySem.W.Frag} {mg : Str → Option Value} {base : Heap}
theorem run (T : Tab TT P w K mg base [] 0)
    {f0 : Addr} {fd0 : FuncData} (F0 : FunD K "_law_size" "_law_size" (defArgs s0) (defBody s0) (defScope s0) [] [] f0 fd0) (g0 : mg "_law_size" = some (.ref f0)) (bd0 : ∀ m, m ≤ TT.df 0 → ∃ us, Vals (List.replicate m V.non) us ∧ Binds K fd0 ["_law_cell"] us)
    {f1 : Addr} {fd1 : FuncData} (F1 : FunD K "_law_mixed" "_law_mixed" (defArgs s1) (defBody s1) (defScope s1) [] [] f1 fd1) (g1 : mg "_law_mixed" = some (.ref f1)) (bd1 : ∀ m, m ≤ TT.df 1 → ∃ us, Vals (List.replicate m V.non) us ∧ Binds K fd1 ["_law_cell", "_law_k"] us)
    {f2 : Addr} {fd2 : FuncData} (F2 : FunD K "_law_step" "_law_step" (defArgs s2) (defBody s2) (defScope s2) [] [] f2 fd2) (g2 : mg "_law_step" = some (.ref f2)) (bd2 : ∀ m, m ≤ TT.df 2 → ∃ us, Vals (List.replicate m V.non) us ∧ Binds K fd2 ["_law_m", "_law_size_here"] us)
    {f3 : Addr} {fd3 : FuncData} (F3 : FunD K "_law_cell_at" "_law_cell_at" (defArgs s3) (defBody s3) (defScope s3) [] [] f3 fd3) (g3 : mg "_law_cell_at" = some (.ref f3)) (bd3 : ∀ m, m ≤ TT.df 3 → ∃ us, Vals (List.replicate m V.non) us ∧ Binds K fd3 ["_law_script", "_law_k"] us)
    {f4 : Addr} {fd4 : FuncData} (F4 : FunD K "_law_kit" "_law_kit" (defArgs s4) (defBody s4) (defScope s4) [] [] f4 fd4) (g4 : mg "_law_kit" = some (.ref f4)) (bd4 : ∀ m, m ≤ TT.df 4 → ∃ us, Vals (List.replicate m V.non) us ∧ Binds K fd4 ["_law_script", "_law_start", "_law_size_here", "_law_most", "_law_dear"] us)
    {f5 : Addr} {fd5 : FuncData} (F5 : FunD K "_law_row" "_law_row" (defArgs s5) (defBody s5) (defScope s5) [] [] f5 fd5) (g5 : mg "_law_row" = some (.ref f5)) (bd5 : ∀ m, m ≤ TT.df 5 → ∃ us, Vals (List.replicate m V.non) us ∧ Binds K fd5 ["_law_cells_here", "_law_kit_here"] us)
    {f6 : Addr} {fd6 : FuncData} (F6 : FunD K "_law_looked" "_law_looked" (defArgs s6) (defBody s6) (defScope s6) [] [] f6 fd6) (g6 : mg "_law_looked" = some (.ref f6)) (bd6 : ∀ m, m ≤ TT.df 6 → ∃ us, Vals (List.replicate m V.non) us ∧ Binds K fd6 ["_law_cell", "_law_size_here"] us)
    {f7 : Addr} {fd7 : FuncData} (F7 : FunD K "look_at_window" "look_at_window" (defArgs s7) (defBody s7) (defScope s7) [] [] f7 fd7) (g7 : mg "look_at_window" = some (.ref f7)) (bd7 : ∀ m, m ≤ TT.df 7 → ∃ us, Vals (List.replicate m V.non) us ∧ Binds K fd7 ["row", "place", "many"] us)
    {f8 : Addr} {fd8 : FuncData} (F8 : FunD K "boxes_looked" "boxes_looked" (defArgs s8) (defBody s8) (defScope s8) [] [] f8 fd8) (g8 : mg "boxes_looked" = some (.ref f8)) (bd8 : ∀ m, m ≤ TT.df 8 → ∃ us, Vals (List.replicate m V.non) us ∧ Binds K fd8 ["size", "looked"] us)
    {f9 : Addr} {fd9 : FuncData} (F9 : FunD K "words_of" "words_of" (defArgs s9) (defBody s9) (defScope s9) [] [] f9 fd9) (g9 : mg "words_of" = some (.ref f9)) (bd9 : ∀ m, m ≤ TT.df 9 → ∃ us, Vals (List.replicate m V.non) us ∧ Binds K fd9 ["size"] us)
    {f10 : Addr} {fd10 : FuncData} (F10 : FunD K "kind_of" "kind_of" (defArgs s10) (defBody s10) (defScope s10) [] [] f10 fd10) (g10 : mg "kind_of" = some (.ref f10)) (bd10 : ∀ m, m ≤ TT.df 10 → ∃ us, Vals (List.replicate m V.non) us ∧ Binds K fd10 ["word"] us)
    {f11 : Addr} {fd11 : FuncData} (F11 : FunD K "made" "Kind.made" (defArgs s11) (defBody s11) (defScope s11) [] [] f11 fd11) (bd11 : Binds K fd11 ["self", "step", "filling"] []) (M11 : MthL TT K mg f11 11 [(0, 0)])
    {f12 : Addr} {fd12 : FuncData} (F12 : FunD K "made" "Up.made" (defArgs s12) (defBody s12) (defScope s12) [] [] f12 fd12) (bd12 : Binds K fd12 ["self", "step", "filling"] []) (M12 : MthL TT K mg f12 12 [(1, 0)])
    {f13 : Addr} {fd13 : FuncData} (F13 : FunD K "made" "Down.made" (defArgs s13) (defBody s13) (defScope s13) [] [] f13 fd13) (bd13 : Binds K fd13 ["self", "step", "filling"] []) (M13 : MthL TT K mg f13 13 [(2, 0)])
    {f14 : Addr} {fd14 : FuncData} (F14 : FunD K "made" "And.made" (defArgs s14) (defBody s14) (defScope s14) [] [] f14 fd14) (bd14 : Binds K fd14 ["self", "step", "filling"] []) (M14 : MthL TT K mg f14 14 [(3, 0)])
    {f15 : Addr} {fd15 : FuncData} (F15 : FunD K "made" "Or.made" (defArgs s15) (defBody s15) (defScope s15) [] [] f15 fd15) (bd15 : Binds K fd15 ["self", "step", "filling"] []) (M15 : MthL TT K mg f15 15 [(4, 0)])
    {f16 : Addr} {fd16 : FuncData} (F16 : FunD K "made" "Xor.made" (defArgs s16) (defBody s16) (defScope s16) [] [] f16 fd16) (bd16 : Binds K fd16 ["self", "step", "filling"] []) (M16 : MthL TT K mg f16 16 [(5, 0)])
    {f17 : Addr} {fd17 : FuncData} (F17 : FunD K "made" "Add.made" (defArgs s17) (defBody s17) (defScope s17) [] [] f17 fd17) (bd17 : Binds K fd17 ["self", "step", "filling"] []) (M17 : MthL TT K mg f17 17 [(6, 0)])
    {f18 : Addr} {fd18 : FuncData} (F18 : FunD K "made" "Take.made" (defArgs s18) (defBody s18) (defScope s18) [] [] f18 fd18) (bd18 : Binds K fd18 ["self", "step", "filling"] []) (M18 : MthL TT K mg f18 18 [(7, 0)])
    {f19 : Addr} {fd19 : FuncData} (F19 : FunD K "made" "Copy.made" (defArgs s19) (defBody s19) (defScope s19) [] [] f19 fd19) (bd19 : Binds K fd19 ["self", "step", "filling"] []) (M19 : MthL TT K mg f19 19 [(8, 0)])
    {f20 : Addr} {fd20 : FuncData} (F20 : FunD K "made" "Put.made" (defArgs s20) (defBody s20) (defScope s20) [] [] f20 fd20) (bd20 : Binds K fd20 ["self", "step", "filling"] []) (M20 : MthL TT K mg f20 20 [(9, 0)])
    {f21 : Addr} {fd21 : FuncData} (F21 : FunD K "step_on" "step_on" (defArgs s21) (defBody s21) (defScope s21) [] [] f21 fd21) (g21 : mg "step_on" = some (.ref f21)) (bd21 : ∀ m, m ≤ TT.df 21 → ∃ us, Vals (List.replicate m V.non) us ∧ Binds K fd21 ["size", "step", "filling"] us)
    {f22 : Addr} {fd22 : FuncData} (F22 : FunD K "row_on" "row_on" (defArgs s22) (defBody s22) (defScope s22) [] [] f22 fd22) (g22 : mg "row_on" = some (.ref f22)) (bd22 : ∀ m, m ≤ TT.df 22 → ∃ us, Vals (List.replicate m V.non) us ∧ Binds K fd22 ["size", "stock", "row", "filling"] us)
    {f23 : Addr} {fd23 : FuncData} (F23 : FunD K "fillings" "fillings" (defArgs s23) (defBody s23) (defScope s23) [] [] f23 fd23) (g23 : mg "fillings" = some (.ref f23)) (bd23 : ∀ m, m ≤ TT.df 23 → ∃ us, Vals (List.replicate m V.non) us ∧ Binds K fd23 ["size"] us)
    {f24 : Addr} {fd24 : FuncData} (F24 : FunD K "table_of" "table_of" (defArgs s24) (defBody s24) (defScope s24) [] [] f24 fd24) (g24 : mg "table_of" = some (.ref f24)) (bd24 : ∀ m, m ≤ TT.df 24 → ∃ us, Vals (List.replicate m V.non) us ∧ Binds K fd24 ["size", "stock", "row"] us)
    {f25 : Addr} {fd25 : FuncData} (F25 : FunD K "seen_in" "seen_in" (defArgs s25) (defBody s25) (defScope s25) [] [] f25 fd25) (g25 : mg "seen_in" = some (.ref f25)) (bd25 : ∀ m, m ≤ TT.df 25 → ∃ us, Vals (List.replicate m V.non) us ∧ Binds K fd25 ["filling", "boxes"] us)
    {f26 : Addr} {fd26 : FuncData} (F26 : FunD K "fillings_by_sight" "fillings_by_sight" (defArgs s26) (defBody s26) (defScope s26) [] [] f26 fd26) (g26 : mg "fillings_by_sight" = some (.ref f26)) (bd26 : ∀ m, m ≤ TT.df 26 → ∃ us, Vals (List.replicate m V.non) us ∧ Binds K fd26 ["size", "table", "boxes"] us)
    {f27 : Addr} {fd27 : FuncData} (F27 : FunD K "number_of" "number_of" (defArgs s27) (defBody s27) (defScope s27) [] [] f27 fd27) (g27 : mg "number_of" = some (.ref f27)) (bd27 : ∀ m, m ≤ TT.df 27 → ∃ us, Vals (List.replicate m V.non) us ∧ Binds K fd27 ["size", "filling"] us)
    {f28 : Addr} {fd28 : FuncData} (F28 : FunD K "wish_at" "wish_at" (defArgs s28) (defBody s28) (defScope s28) [.non] [] f28 fd28) (g28 : mg "wish_at" = some (.ref f28)) (bd28 : ∀ m, m ≤ TT.df 28 → ∃ us, Vals (List.replicate m V.non) us ∧ Binds K fd28 ["size", "kit", "row", "place", "many", "looked"] us)
    {f29 : Addr} {fd29 : FuncData} (F29 : FunD K "_law_cells" "_law_cells" (defArgs s29) (defBody s29) (defScope s29) [] [] f29 fd29) (g29 : mg "_law_cells" = some (.ref f29)) (bd29 : ∀ m, m ≤ TT.df 29 → ∃ us, Vals (List.replicate m V.non) us ∧ Binds K fd29 ["_law_script", "_law_start", "_law_many"] us)
    {f30 : Addr} {fd30 : FuncData} (F30 : FunD K "misses_at" "misses_at" (defArgs s30) (defBody s30) (defScope s30) [] [] f30 fd30) (g30 : mg "misses_at" = some (.ref f30)) (bd30 : ∀ m, m ≤ TT.df 30 → ∃ us, Vals (List.replicate m V.non) us ∧ Binds K fd30 ["size", "wish", "table"] us)
    {f31 : Addr} {fd31 : FuncData} (F31 : FunD K "does_wish" "does_wish" (defArgs s31) (defBody s31) (defScope s31) [] [] f31 fd31) (g31 : mg "does_wish" = some (.ref f31)) (bd31 : ∀ m, m ≤ TT.df 31 → ∃ us, Vals (List.replicate m V.non) us ∧ Binds K fd31 ["size", "wish", "table"] us)
    {f32 : Addr} {fd32 : FuncData} (F32 : FunD K "_law_other" "_law_other" (defArgs s32) (defBody s32) (defScope s32) [] [] f32 fd32) (g32 : mg "_law_other" = some (.ref f32)) (bd32 : ∀ m, m ≤ TT.df 32 → ∃ us, Vals (List.replicate m V.non) us ∧ Binds K fd32 ["_law_cell", "_law_k", "_law_kit_here"] us)
    {f33 : Addr} {fd33 : FuncData} (F33 : FunD K "_law_all" "_law_all" (defArgs s33) (defBody s33) (defScope s33) [] [] f33 fd33) (g33 : mg "_law_all" = some (.ref f33)) (bd33 : ∀ m, m ≤ TT.df 33 → ∃ us, Vals (List.replicate m V.non) us ∧ Binds K fd33 ["_law_size_here"] us)
    {f34 : Addr} {fd34 : FuncData} (F34 : FunD K "_law_seen" "_law_seen" (defArgs s34) (defBody s34) (defScope s34) [] [] f34 fd34) (g34 : mg "_law_seen" = some (.ref f34)) (bd34 : ∀ m, m ≤ TT.df 34 → ∃ us, Vals (List.replicate m V.non) us ∧ Binds K fd34 ["_law_filling", "_law_looked_here"] us)
    {f35 : Addr} {fd35 : FuncData} (F35 : FunD K "_law_word" "_law_word" (defArgs s35) (defBody s35) (defScope s35) [] [] f35 fd35) (g35 : mg "_law_word" = some (.ref f35)) (bd35 : ∀ m, m ≤ TT.df 35 → ∃ us, Vals (List.replicate m V.non) us ∧ Binds K fd35 ["_law_size_here", "_law_step_here", "_law_filling"] us)
    {f36 : Addr} {fd36 : FuncData} (F36 : FunD K "_law_made" "_law_made" (defArgs s36) (defBody s36) (defScope s36) [] [] f36 fd36) (g36 : mg "_law_made" = some (.ref f36)) (bd36 : ∀ m, m ≤ TT.df 36 → ∃ us, Vals (List.replicate m V.non) us ∧ Binds K fd36 ["_law_size_here", "_law_step_here", "_law_filling"] us)
    {f37 : Addr} {fd37 : FuncData} (F37 : FunD K "_law_done" "_law_done" (defArgs s37) (defBody s37) (defScope s37) [] [] f37 fd37) (g37 : mg "_law_done" = some (.ref f37)) (bd37 : ∀ m, m ≤ TT.df 37 → ∃ us, Vals (List.replicate m V.non) us ∧ Binds K fd37 ["_law_size_here", "_law_kit_here", "_law_row_here", "_law_filling"] us)
    {f38 : Addr} {fd38 : FuncData} (F38 : FunD K "_law_same" "_law_same" (defArgs s38) (defBody s38) (defScope s38) [] [] f38 fd38) (g38 : mg "_law_same" = some (.ref f38)) (bd38 : ∀ m, m ≤ TT.df 38 → ∃ us, Vals (List.replicate m V.non) us ∧ Binds K fd38 ["_law_size_here", "_law_kit_here", "_law_one", "_law_other_here", "_law_looked_here"] us)
    {f39 : Addr} {fd39 : FuncData} (F39 : FunD K "law" "law" (defArgs s39) (defBody s39) (defScope s39) [] [] f39 fd39) (g39 : mg "law" = some (.ref f39)) (bd39 : ∀ m, m ≤ TT.df 39 → ∃ us, Vals (List.replicate m V.non) us ∧ Binds K fd39 ["_law_script"] us)
    (h : ∀ ns : List Int, ns.length ≤ 63 → (∀ z ∈ ns, Builtin.Int.intBits z ≤ 1048576) → ph 39 [.scr ns] = .ok (.bl true)) : FnOk P w K mg base CX0 40 f39 fd39 ["_law_script"] (spL K) := by
  have T := T.step F0 sc0 m0 w0 (by decide) rfl rfl rfl rfl g0 bd0
  have T := T.step F1 sc1 m1 w1 (by decide) rfl rfl rfl rfl g1 bd1
  have T := T.step F2 sc2 m2 w2 (by decide) rfl rfl rfl rfl g2 bd2
  have T := T.step F3 sc3 m3 w3 (by decide) rfl rfl rfl rfl g3 bd3
  have T := T.step F4 sc4 m4 w4 (by decide) rfl rfl rfl rfl g4 bd4
  have T := T.step F5 sc5 m5 w5 (by decide) rfl rfl rfl rfl g5 bd5
  have T := T.step F6 sc6 m6 w6 (by decide) rfl rfl rfl rfl g6 bd6
  have T := T.step F7 sc7 m7 w7 (by decide) rfl rfl rfl rfl g7 bd7
  have T := T.step F8 sc8 m8 w8 (by decide) rfl rfl rfl rfl g8 bd8
  have T := T.step F9 sc9 m9 w9 (by decide) rfl rfl rfl rfl g9 bd9
  have T := T.step F10 sc10 m10 w10 (by decide) rfl rfl rfl rfl g10 bd10
  have T := T.stepM F11 sc11 m11 w11 (by decide) rfl rfl rfl rfl bd11 [(0, 0)] (by decide) M11
  have T := T.stepM F12 sc12 m12 w12 (by decide) rfl rfl rfl rfl bd12 [(1, 0)] (by decide) M12
  have T := T.stepM F13 sc13 m13 w13 (by decide) rfl rfl rfl rfl bd13 [(2, 0)] (by decide) M13
  have T := T.stepM F14 sc14 m14 w14 (by decide) rfl rfl rfl rfl bd14 [(3, 0)] (by decide) M14
  have T := T.stepM F15 sc15 m15 w15 (by decide) rfl rfl rfl rfl bd15 [(4, 0)] (by decide) M15
  have T := T.stepM F16 sc16 m16 w16 (by decide) rfl rfl rfl rfl bd16 [(5, 0)] (by decide) M16
  have T := T.stepM F17 sc17 m17 w17 (by decide) rfl rfl rfl rfl bd17 [(6, 0)] (by decide) M17
  have T := T.stepM F18 sc18 m18 w18 (by decide) rfl rfl rfl rfl bd18 [(7, 0)] (by decide) M18
  have T := T.stepM F19 sc19 m19 w19 (by decide) rfl rfl rfl rfl bd19 [(8, 0)] (by decide) M19
  have T := T.stepM F20 sc20 m20 w20 (by decide) rfl rfl rfl rfl bd20 [(9, 0)] (by decide) M20
  have T := T.step F21 sc21 m21 w21 (by decide) rfl rfl rfl rfl g21 bd21
  have T := T.step F22 sc22 m22 w22 (by decide) rfl rfl rfl rfl g22 bd22
  have T := T.step F23 sc23 m23 w23 (by decide) rfl rfl rfl rfl g23 bd23
  have T := T.step F24 sc24 m24 w24 (by decide) rfl rfl rfl rfl g24 bd24
  have T := T.step F25 sc25 m25 w25 (by decide) rfl rfl rfl rfl g25 bd25
  have T := T.step F26 sc26 m26 w26 (by decide) rfl rfl rfl rfl g26 bd26
  have T := T.step F27 sc27 m27 w27 (by decide) rfl rfl rfl rfl g27 bd27
  have T := T.step F28 sc28 m28 w28 (by decide) rfl rfl rfl rfl g28 bd28
  have T := T.step F29 sc29 m29 w29 (by decide) rfl rfl rfl rfl g29 bd29
  have T := T.step F30 sc30 m30 w30 (by decide) rfl rfl rfl rfl g30 bd30
  have T := T.step F31 sc31 m31 w31 (by decide) rfl rfl rfl rfl g31 bd31
  have T := T.step F32 sc32 m32 w32 (by decide) rfl rfl rfl rfl g32 bd32
  have T := T.step F33 sc33 m33 w33 (by decide) rfl rfl rfl rfl g33 bd33
  have T := T.step F34 sc34 m34 w34 (by decide) rfl rfl rfl rfl g34 bd34
  have T := T.step F35 sc35 m35 w35 (by decide) rfl rfl rfl rfl g35 bd35
  have T := T.step F36 sc36 m36 w36 (by decide) rfl rfl rfl rfl g36 bd36
  have T := T.step F37 sc37 m37 w37 (by decide) rfl rfl rfl rfl g37 bd37
  have T := T.step F38 sc38 m38 w38 (by decide) rfl rfl rfl rfl g38 bd38
  exact law_imp rfl rfl (T.fnok F39 sc39 m39 w39 (by decide) rfl rfl rfl) h
end
theorem all_mk {l : PySem.W.OpenLaw} {w : World} {K : PySem.W.Frag} {h : Heap} {mg : Str → Option Value} {fa : Addr} (X : K.In h) (G : h.Ns mainGlobals mg) (hfa : mg "law" = some (.ref fa))
    {C0 : Addr} (A0 : PySem.W.nsIn K mainGlobals "Kind" = some (some (.ref C0))) (B0_0 : PySem.W.plainGet K C0 Str.empty = true) (B0_1 : PySem.W.hasDictIn K C0 = true) (B0_2 : PySem.W.plainOver K C0 = true) (B0_3 : PySem.W.findIn K (.ref C0) "__setattr__" = some (some (.builtin "object.__setattr__"))) (B0_4 : PySem.W.makesIn K C0 = true) (B0_5 : PySem.W.findIn K (.ref C0) "__init__" = some (some (.builtin "object.__init__"))) (B0_6 : PySem.W.keepIn K (.ref C0) = true)
    {C1 : Addr} (A1 : PySem.W.nsIn K mainGlobals "Up" = some (some (.ref C1))) (B1_0 : PySem.W.plainGet K C1 Str.empty = true) (B1_1 : PySem.W.hasDictIn K C1 = true) (B1_2 : PySem.W.plainOver K C1 = true) (B1_3 : PySem.W.findIn K (.ref C1) "__setattr__" = some (some (.builtin "object.__setattr__"))) (B1_4 : PySem.W.makesIn K C1 = true) (B1_5 : PySem.W.findIn K (.ref C1) "__init__" = some (some (.builtin "object.__init__"))) (B1_6 : PySem.W.keepIn K (.ref C1) = true)
    {C2 : Addr} (A2 : PySem.W.nsIn K mainGlobals "Down" = some (some (.ref C2))) (B2_0 : PySem.W.plainGet K C2 Str.empty = true) (B2_1 : PySem.W.hasDictIn K C2 = true) (B2_2 : PySem.W.plainOver K C2 = true) (B2_3 : PySem.W.findIn K (.ref C2) "__setattr__" = some (some (.builtin "object.__setattr__"))) (B2_4 : PySem.W.makesIn K C2 = true) (B2_5 : PySem.W.findIn K (.ref C2) "__init__" = some (some (.builtin "object.__init__"))) (B2_6 : PySem.W.keepIn K (.ref C2) = true)
    {C3 : Addr} (A3 : PySem.W.nsIn K mainGlobals "And" = some (some (.ref C3))) (B3_0 : PySem.W.plainGet K C3 Str.empty = true) (B3_1 : PySem.W.hasDictIn K C3 = true) (B3_2 : PySem.W.plainOver K C3 = true) (B3_3 : PySem.W.findIn K (.ref C3) "__setattr__" = some (some (.builtin "object.__setattr__"))) (B3_4 : PySem.W.makesIn K C3 = true) (B3_5 : PySem.W.findIn K (.ref C3) "__init__" = some (some (.builtin "object.__init__"))) (B3_6 : PySem.W.keepIn K (.ref C3) = true)
    {C4 : Addr} (A4 : PySem.W.nsIn K mainGlobals "Or" = some (some (.ref C4))) (B4_0 : PySem.W.plainGet K C4 Str.empty = true) (B4_1 : PySem.W.hasDictIn K C4 = true) (B4_2 : PySem.W.plainOver K C4 = true) (B4_3 : PySem.W.findIn K (.ref C4) "__setattr__" = some (some (.builtin "object.__setattr__"))) (B4_4 : PySem.W.makesIn K C4 = true) (B4_5 : PySem.W.findIn K (.ref C4) "__init__" = some (some (.builtin "object.__init__"))) (B4_6 : PySem.W.keepIn K (.ref C4) = true)
    {C5 : Addr} (A5 : PySem.W.nsIn K mainGlobals "Xor" = some (some (.ref C5))) (B5_0 : PySem.W.plainGet K C5 Str.empty = true) (B5_1 : PySem.W.hasDictIn K C5 = true) (B5_2 : PySem.W.plainOver K C5 = true) (B5_3 : PySem.W.findIn K (.ref C5) "__setattr__" = some (some (.builtin "object.__setattr__"))) (B5_4 : PySem.W.makesIn K C5 = true) (B5_5 : PySem.W.findIn K (.ref C5) "__init__" = some (some (.builtin "object.__init__"))) (B5_6 : PySem.W.keepIn K (.ref C5) = true)
    {C6 : Addr} (A6 : PySem.W.nsIn K mainGlobals "Add" = some (some (.ref C6))) (B6_0 : PySem.W.plainGet K C6 Str.empty = true) (B6_1 : PySem.W.hasDictIn K C6 = true) (B6_2 : PySem.W.plainOver K C6 = true) (B6_3 : PySem.W.findIn K (.ref C6) "__setattr__" = some (some (.builtin "object.__setattr__"))) (B6_4 : PySem.W.makesIn K C6 = true) (B6_5 : PySem.W.findIn K (.ref C6) "__init__" = some (some (.builtin "object.__init__"))) (B6_6 : PySem.W.keepIn K (.ref C6) = true)
    {C7 : Addr} (A7 : PySem.W.nsIn K mainGlobals "Take" = some (some (.ref C7))) (B7_0 : PySem.W.plainGet K C7 Str.empty = true) (B7_1 : PySem.W.hasDictIn K C7 = true) (B7_2 : PySem.W.plainOver K C7 = true) (B7_3 : PySem.W.findIn K (.ref C7) "__setattr__" = some (some (.builtin "object.__setattr__"))) (B7_4 : PySem.W.makesIn K C7 = true) (B7_5 : PySem.W.findIn K (.ref C7) "__init__" = some (some (.builtin "object.__init__"))) (B7_6 : PySem.W.keepIn K (.ref C7) = true)
    {C8 : Addr} (A8 : PySem.W.nsIn K mainGlobals "Copy" = some (some (.ref C8))) (B8_0 : PySem.W.plainGet K C8 Str.empty = true) (B8_1 : PySem.W.hasDictIn K C8 = true) (B8_2 : PySem.W.plainOver K C8 = true) (B8_3 : PySem.W.findIn K (.ref C8) "__setattr__" = some (some (.builtin "object.__setattr__"))) (B8_4 : PySem.W.makesIn K C8 = true) (B8_5 : PySem.W.findIn K (.ref C8) "__init__" = some (some (.builtin "object.__init__"))) (B8_6 : PySem.W.keepIn K (.ref C8) = true)
    {C9 : Addr} (A9 : PySem.W.nsIn K mainGlobals "Put" = some (some (.ref C9))) (B9_0 : PySem.W.plainGet K C9 Str.empty = true) (B9_1 : PySem.W.hasDictIn K C9 = true) (B9_2 : PySem.W.plainOver K C9 = true) (B9_3 : PySem.W.findIn K (.ref C9) "__setattr__" = some (some (.builtin "object.__setattr__"))) (B9_4 : PySem.W.makesIn K C9 = true) (B9_5 : PySem.W.findIn K (.ref C9) "__init__" = some (some (.builtin "object.__init__"))) (B9_6 : PySem.W.keepIn K (.ref C9) = true)
    {f0 : Addr} {od0 an0 : Option Addr} {sl0 : Array (Option Value)} {oc0 kV0 dc0 pm0 cd0 ct0 : Value} (a0 : PySem.W.nsIn K mainGlobals "_law_size" = some (some (.ref f0)))
    (l0 : K.lookup f0 = some ⟨oc0, od0, .func (PySem.W.fnOf "_law_size" "_law_size" (defArgs s0) (defBody s0) (defScope s0) .none kV0 dc0 pm0 an0 cd0 ct0), sl0⟩) (c0 : PySem.W.codeIn K cd0 "_law_size" = true) (k0 : PySem.W.keepIn K (.ref f0) = true)
    {f1 : Addr} {od1 an1 : Option Addr} {sl1 : Array (Option Value)} {oc1 kV1 dc1 pm1 cd1 ct1 : Value} (a1 : PySem.W.nsIn K mainGlobals "_law_mixed" = some (some (.ref f1)))
    (l1 : K.lookup f1 = some ⟨oc1, od1, .func (PySem.W.fnOf "_law_mixed" "_law_mixed" (defArgs s1) (defBody s1) (defScope s1) .none kV1 dc1 pm1 an1 cd1 ct1), sl1⟩) (c1 : PySem.W.codeIn K cd1 "_law_mixed" = true) (k1 : PySem.W.keepIn K (.ref f1) = true)
    {f2 : Addr} {od2 an2 : Option Addr} {sl2 : Array (Option Value)} {oc2 kV2 dc2 pm2 cd2 ct2 : Value} (a2 : PySem.W.nsIn K mainGlobals "_law_step" = some (some (.ref f2)))
    (l2 : K.lookup f2 = some ⟨oc2, od2, .func (PySem.W.fnOf "_law_step" "_law_step" (defArgs s2) (defBody s2) (defScope s2) .none kV2 dc2 pm2 an2 cd2 ct2), sl2⟩) (c2 : PySem.W.codeIn K cd2 "_law_step" = true) (k2 : PySem.W.keepIn K (.ref f2) = true)
    {f3 : Addr} {od3 an3 : Option Addr} {sl3 : Array (Option Value)} {oc3 kV3 dc3 pm3 cd3 ct3 : Value} (a3 : PySem.W.nsIn K mainGlobals "_law_cell_at" = some (some (.ref f3)))
    (l3 : K.lookup f3 = some ⟨oc3, od3, .func (PySem.W.fnOf "_law_cell_at" "_law_cell_at" (defArgs s3) (defBody s3) (defScope s3) .none kV3 dc3 pm3 an3 cd3 ct3), sl3⟩) (c3 : PySem.W.codeIn K cd3 "_law_cell_at" = true) (k3 : PySem.W.keepIn K (.ref f3) = true)
    {f4 : Addr} {od4 an4 : Option Addr} {sl4 : Array (Option Value)} {oc4 kV4 dc4 pm4 cd4 ct4 : Value} (a4 : PySem.W.nsIn K mainGlobals "_law_kit" = some (some (.ref f4)))
    (l4 : K.lookup f4 = some ⟨oc4, od4, .func (PySem.W.fnOf "_law_kit" "_law_kit" (defArgs s4) (defBody s4) (defScope s4) .none kV4 dc4 pm4 an4 cd4 ct4), sl4⟩) (c4 : PySem.W.codeIn K cd4 "_law_kit" = true) (k4 : PySem.W.keepIn K (.ref f4) = true)
    {f5 : Addr} {od5 an5 : Option Addr} {sl5 : Array (Option Value)} {oc5 kV5 dc5 pm5 cd5 ct5 : Value} (a5 : PySem.W.nsIn K mainGlobals "_law_row" = some (some (.ref f5)))
    (l5 : K.lookup f5 = some ⟨oc5, od5, .func (PySem.W.fnOf "_law_row" "_law_row" (defArgs s5) (defBody s5) (defScope s5) .none kV5 dc5 pm5 an5 cd5 ct5), sl5⟩) (c5 : PySem.W.codeIn K cd5 "_law_row" = true) (k5 : PySem.W.keepIn K (.ref f5) = true)
    {f6 : Addr} {od6 an6 : Option Addr} {sl6 : Array (Option Value)} {oc6 kV6 dc6 pm6 cd6 ct6 : Value} (a6 : PySem.W.nsIn K mainGlobals "_law_looked" = some (some (.ref f6)))
    (l6 : K.lookup f6 = some ⟨oc6, od6, .func (PySem.W.fnOf "_law_looked" "_law_looked" (defArgs s6) (defBody s6) (defScope s6) .none kV6 dc6 pm6 an6 cd6 ct6), sl6⟩) (c6 : PySem.W.codeIn K cd6 "_law_looked" = true) (k6 : PySem.W.keepIn K (.ref f6) = true)
    {f7 : Addr} {od7 an7 : Option Addr} {sl7 : Array (Option Value)} {oc7 kV7 dc7 pm7 cd7 ct7 : Value} (a7 : PySem.W.nsIn K mainGlobals "look_at_window" = some (some (.ref f7)))
    (l7 : K.lookup f7 = some ⟨oc7, od7, .func (PySem.W.fnOf "look_at_window" "look_at_window" (defArgs s7) (defBody s7) (defScope s7) .none kV7 dc7 pm7 an7 cd7 ct7), sl7⟩) (c7 : PySem.W.codeIn K cd7 "look_at_window" = true) (k7 : PySem.W.keepIn K (.ref f7) = true)
    {f8 : Addr} {od8 an8 : Option Addr} {sl8 : Array (Option Value)} {oc8 kV8 dc8 pm8 cd8 ct8 : Value} (a8 : PySem.W.nsIn K mainGlobals "boxes_looked" = some (some (.ref f8)))
    (l8 : K.lookup f8 = some ⟨oc8, od8, .func (PySem.W.fnOf "boxes_looked" "boxes_looked" (defArgs s8) (defBody s8) (defScope s8) .none kV8 dc8 pm8 an8 cd8 ct8), sl8⟩) (c8 : PySem.W.codeIn K cd8 "boxes_looked" = true) (k8 : PySem.W.keepIn K (.ref f8) = true)
    {f9 : Addr} {od9 an9 : Option Addr} {sl9 : Array (Option Value)} {oc9 kV9 dc9 pm9 cd9 ct9 : Value} (a9 : PySem.W.nsIn K mainGlobals "words_of" = some (some (.ref f9)))
    (l9 : K.lookup f9 = some ⟨oc9, od9, .func (PySem.W.fnOf "words_of" "words_of" (defArgs s9) (defBody s9) (defScope s9) .none kV9 dc9 pm9 an9 cd9 ct9), sl9⟩) (c9 : PySem.W.codeIn K cd9 "words_of" = true) (k9 : PySem.W.keepIn K (.ref f9) = true)
    {f10 : Addr} {od10 an10 : Option Addr} {sl10 : Array (Option Value)} {oc10 kV10 dc10 pm10 cd10 ct10 : Value} (a10 : PySem.W.nsIn K mainGlobals "kind_of" = some (some (.ref f10)))
    (l10 : K.lookup f10 = some ⟨oc10, od10, .func (PySem.W.fnOf "kind_of" "kind_of" (defArgs s10) (defBody s10) (defScope s10) .none kV10 dc10 pm10 an10 cd10 ct10), sl10⟩) (c10 : PySem.W.codeIn K cd10 "kind_of" = true) (k10 : PySem.W.keepIn K (.ref f10) = true)
    {f11 : Addr} {od11 an11 : Option Addr} {sl11 : Array (Option Value)} {oc11 kV11 dc11 pm11 cd11 ct11 : Value} (a11_0 : PySem.W.findIn K (.ref C0) "made" = some (some (.ref f11))) (n11 : PySem.W.isFn K (.ref f11) = true)
    (l11 : K.lookup f11 = some ⟨oc11, od11, .func (PySem.W.fnOf "made" "Kind.made" (defArgs s11) (defBody s11) (defScope s11) .none kV11 dc11 pm11 an11 cd11 ct11), sl11⟩) (c11 : PySem.W.codeIn K cd11 "Kind.made" = true) (k11 : PySem.W.keepIn K (.ref f11) = true)
    {f12 : Addr} {od12 an12 : Option Addr} {sl12 : Array (Option Value)} {oc12 kV12 dc12 pm12 cd12 ct12 : Value} (a12_1 : PySem.W.findIn K (.ref C1) "made" = some (some (.ref f12))) (n12 : PySem.W.isFn K (.ref f12) = true)
    (l12 : K.lookup f12 = some ⟨oc12, od12, .func (PySem.W.fnOf "made" "Up.made" (defArgs s12) (defBody s12) (defScope s12) .none kV12 dc12 pm12 an12 cd12 ct12), sl12⟩) (c12 : PySem.W.codeIn K cd12 "Up.made" = true) (k12 : PySem.W.keepIn K (.ref f12) = true)
    {f13 : Addr} {od13 an13 : Option Addr} {sl13 : Array (Option Value)} {oc13 kV13 dc13 pm13 cd13 ct13 : Value} (a13_2 : PySem.W.findIn K (.ref C2) "made" = some (some (.ref f13))) (n13 : PySem.W.isFn K (.ref f13) = true)
    (l13 : K.lookup f13 = some ⟨oc13, od13, .func (PySem.W.fnOf "made" "Down.made" (defArgs s13) (defBody s13) (defScope s13) .none kV13 dc13 pm13 an13 cd13 ct13), sl13⟩) (c13 : PySem.W.codeIn K cd13 "Down.made" = true) (k13 : PySem.W.keepIn K (.ref f13) = true)
    {f14 : Addr} {od14 an14 : Option Addr} {sl14 : Array (Option Value)} {oc14 kV14 dc14 pm14 cd14 ct14 : Value} (a14_3 : PySem.W.findIn K (.ref C3) "made" = some (some (.ref f14))) (n14 : PySem.W.isFn K (.ref f14) = true)
    (l14 : K.lookup f14 = some ⟨oc14, od14, .func (PySem.W.fnOf "made" "And.made" (defArgs s14) (defBody s14) (defScope s14) .none kV14 dc14 pm14 an14 cd14 ct14), sl14⟩) (c14 : PySem.W.codeIn K cd14 "And.made" = true) (k14 : PySem.W.keepIn K (.ref f14) = true)
    {f15 : Addr} {od15 an15 : Option Addr} {sl15 : Array (Option Value)} {oc15 kV15 dc15 pm15 cd15 ct15 : Value} (a15_4 : PySem.W.findIn K (.ref C4) "made" = some (some (.ref f15))) (n15 : PySem.W.isFn K (.ref f15) = true)
    (l15 : K.lookup f15 = some ⟨oc15, od15, .func (PySem.W.fnOf "made" "Or.made" (defArgs s15) (defBody s15) (defScope s15) .none kV15 dc15 pm15 an15 cd15 ct15), sl15⟩) (c15 : PySem.W.codeIn K cd15 "Or.made" = true) (k15 : PySem.W.keepIn K (.ref f15) = true)
    {f16 : Addr} {od16 an16 : Option Addr} {sl16 : Array (Option Value)} {oc16 kV16 dc16 pm16 cd16 ct16 : Value} (a16_5 : PySem.W.findIn K (.ref C5) "made" = some (some (.ref f16))) (n16 : PySem.W.isFn K (.ref f16) = true)
    (l16 : K.lookup f16 = some ⟨oc16, od16, .func (PySem.W.fnOf "made" "Xor.made" (defArgs s16) (defBody s16) (defScope s16) .none kV16 dc16 pm16 an16 cd16 ct16), sl16⟩) (c16 : PySem.W.codeIn K cd16 "Xor.made" = true) (k16 : PySem.W.keepIn K (.ref f16) = true)
    {f17 : Addr} {od17 an17 : Option Addr} {sl17 : Array (Option Value)} {oc17 kV17 dc17 pm17 cd17 ct17 : Value} (a17_6 : PySem.W.findIn K (.ref C6) "made" = some (some (.ref f17))) (n17 : PySem.W.isFn K (.ref f17) = true)
    (l17 : K.lookup f17 = some ⟨oc17, od17, .func (PySem.W.fnOf "made" "Add.made" (defArgs s17) (defBody s17) (defScope s17) .none kV17 dc17 pm17 an17 cd17 ct17), sl17⟩) (c17 : PySem.W.codeIn K cd17 "Add.made" = true) (k17 : PySem.W.keepIn K (.ref f17) = true)
    {f18 : Addr} {od18 an18 : Option Addr} {sl18 : Array (Option Value)} {oc18 kV18 dc18 pm18 cd18 ct18 : Value} (a18_7 : PySem.W.findIn K (.ref C7) "made" = some (some (.ref f18))) (n18 : PySem.W.isFn K (.ref f18) = true)
    (l18 : K.lookup f18 = some ⟨oc18, od18, .func (PySem.W.fnOf "made" "Take.made" (defArgs s18) (defBody s18) (defScope s18) .none kV18 dc18 pm18 an18 cd18 ct18), sl18⟩) (c18 : PySem.W.codeIn K cd18 "Take.made" = true) (k18 : PySem.W.keepIn K (.ref f18) = true)
    {f19 : Addr} {od19 an19 : Option Addr} {sl19 : Array (Option Value)} {oc19 kV19 dc19 pm19 cd19 ct19 : Value} (a19_8 : PySem.W.findIn K (.ref C8) "made" = some (some (.ref f19))) (n19 : PySem.W.isFn K (.ref f19) = true)
    (l19 : K.lookup f19 = some ⟨oc19, od19, .func (PySem.W.fnOf "made" "Copy.made" (defArgs s19) (defBody s19) (defScope s19) .none kV19 dc19 pm19 an19 cd19 ct19), sl19⟩) (c19 : PySem.W.codeIn K cd19 "Copy.made" = true) (k19 : PySem.W.keepIn K (.ref f19) = true)
    {f20 : Addr} {od20 an20 : Option Addr} {sl20 : Array (Option Value)} {oc20 kV20 dc20 pm20 cd20 ct20 : Value} (a20_9 : PySem.W.findIn K (.ref C9) "made" = some (some (.ref f20))) (n20 : PySem.W.isFn K (.ref f20) = true)
    (l20 : K.lookup f20 = some ⟨oc20, od20, .func (PySem.W.fnOf "made" "Put.made" (defArgs s20) (defBody s20) (defScope s20) .none kV20 dc20 pm20 an20 cd20 ct20), sl20⟩) (c20 : PySem.W.codeIn K cd20 "Put.made" = true) (k20 : PySem.W.keepIn K (.ref f20) = true)
    {f21 : Addr} {od21 an21 : Option Addr} {sl21 : Array (Option Value)} {oc21 kV21 dc21 pm21 cd21 ct21 : Value} (a21 : PySem.W.nsIn K mainGlobals "step_on" = some (some (.ref f21)))
    (l21 : K.lookup f21 = some ⟨oc21, od21, .func (PySem.W.fnOf "step_on" "step_on" (defArgs s21) (defBody s21) (defScope s21) .none kV21 dc21 pm21 an21 cd21 ct21), sl21⟩) (c21 : PySem.W.codeIn K cd21 "step_on" = true) (k21 : PySem.W.keepIn K (.ref f21) = true)
    {f22 : Addr} {od22 an22 : Option Addr} {sl22 : Array (Option Value)} {oc22 kV22 dc22 pm22 cd22 ct22 : Value} (a22 : PySem.W.nsIn K mainGlobals "row_on" = some (some (.ref f22)))
    (l22 : K.lookup f22 = some ⟨oc22, od22, .func (PySem.W.fnOf "row_on" "row_on" (defArgs s22) (defBody s22) (defScope s22) .none kV22 dc22 pm22 an22 cd22 ct22), sl22⟩) (c22 : PySem.W.codeIn K cd22 "row_on" = true) (k22 : PySem.W.keepIn K (.ref f22) = true)
    {f23 : Addr} {od23 an23 : Option Addr} {sl23 : Array (Option Value)} {oc23 kV23 dc23 pm23 cd23 ct23 : Value} (a23 : PySem.W.nsIn K mainGlobals "fillings" = some (some (.ref f23)))
    (l23 : K.lookup f23 = some ⟨oc23, od23, .func (PySem.W.fnOf "fillings" "fillings" (defArgs s23) (defBody s23) (defScope s23) .none kV23 dc23 pm23 an23 cd23 ct23), sl23⟩) (c23 : PySem.W.codeIn K cd23 "fillings" = true) (k23 : PySem.W.keepIn K (.ref f23) = true)
    {f24 : Addr} {od24 an24 : Option Addr} {sl24 : Array (Option Value)} {oc24 kV24 dc24 pm24 cd24 ct24 : Value} (a24 : PySem.W.nsIn K mainGlobals "table_of" = some (some (.ref f24)))
    (l24 : K.lookup f24 = some ⟨oc24, od24, .func (PySem.W.fnOf "table_of" "table_of" (defArgs s24) (defBody s24) (defScope s24) .none kV24 dc24 pm24 an24 cd24 ct24), sl24⟩) (c24 : PySem.W.codeIn K cd24 "table_of" = true) (k24 : PySem.W.keepIn K (.ref f24) = true)
    {f25 : Addr} {od25 an25 : Option Addr} {sl25 : Array (Option Value)} {oc25 kV25 dc25 pm25 cd25 ct25 : Value} (a25 : PySem.W.nsIn K mainGlobals "seen_in" = some (some (.ref f25)))
    (l25 : K.lookup f25 = some ⟨oc25, od25, .func (PySem.W.fnOf "seen_in" "seen_in" (defArgs s25) (defBody s25) (defScope s25) .none kV25 dc25 pm25 an25 cd25 ct25), sl25⟩) (c25 : PySem.W.codeIn K cd25 "seen_in" = true) (k25 : PySem.W.keepIn K (.ref f25) = true)
    {f26 : Addr} {od26 an26 : Option Addr} {sl26 : Array (Option Value)} {oc26 kV26 dc26 pm26 cd26 ct26 : Value} (a26 : PySem.W.nsIn K mainGlobals "fillings_by_sight" = some (some (.ref f26)))
    (l26 : K.lookup f26 = some ⟨oc26, od26, .func (PySem.W.fnOf "fillings_by_sight" "fillings_by_sight" (defArgs s26) (defBody s26) (defScope s26) .none kV26 dc26 pm26 an26 cd26 ct26), sl26⟩) (c26 : PySem.W.codeIn K cd26 "fillings_by_sight" = true) (k26 : PySem.W.keepIn K (.ref f26) = true)
    {f27 : Addr} {od27 an27 : Option Addr} {sl27 : Array (Option Value)} {oc27 kV27 dc27 pm27 cd27 ct27 : Value} (a27 : PySem.W.nsIn K mainGlobals "number_of" = some (some (.ref f27)))
    (l27 : K.lookup f27 = some ⟨oc27, od27, .func (PySem.W.fnOf "number_of" "number_of" (defArgs s27) (defBody s27) (defScope s27) .none kV27 dc27 pm27 an27 cd27 ct27), sl27⟩) (c27 : PySem.W.codeIn K cd27 "number_of" = true) (k27 : PySem.W.keepIn K (.ref f27) = true)
    {T28 : Addr} {oT28 : Value} {dT28 : Option Addr} {nT28 : Nat} {sT28 : Array (Option Value)}
    {f28 : Addr} {od28 an28 : Option Addr} {sl28 : Array (Option Value)} {oc28 kV28 dc28 pm28 cd28 ct28 : Value} (a28 : PySem.W.nsIn K mainGlobals "wish_at" = some (some (.ref f28)))
    (l28 : K.lookup f28 = some ⟨oc28, od28, .func (PySem.W.fnOf "wish_at" "wish_at" (defArgs s28) (defBody s28) (defScope s28) (.ref T28) kV28 dc28 pm28 an28 cd28 ct28), sl28⟩) (c28 : PySem.W.codeIn K cd28 "wish_at" = true) (k28 : PySem.W.keepIn K (.ref f28) = true)
    (y28 : K.lookup T28 = some ⟨oT28, dT28, .seq #[Value.none] nT28, sT28⟩)
    {f29 : Addr} {od29 an29 : Option Addr} {sl29 : Array (Option Value)} {oc29 kV29 dc29 pm29 cd29 ct29 : Value} (a29 : PySem.W.nsIn K mainGlobals "_law_cells" = some (some (.ref f29)))
    (l29 : K.lookup f29 = some ⟨oc29, od29, .func (PySem.W.fnOf "_law_cells" "_law_cells" (defArgs s29) (defBody s29) (defScope s29) .none kV29 dc29 pm29 an29 cd29 ct29), sl29⟩) (c29 : PySem.W.codeIn K cd29 "_law_cells" = true) (k29 : PySem.W.keepIn K (.ref f29) = true)
    {f30 : Addr} {od30 an30 : Option Addr} {sl30 : Array (Option Value)} {oc30 kV30 dc30 pm30 cd30 ct30 : Value} (a30 : PySem.W.nsIn K mainGlobals "misses_at" = some (some (.ref f30)))
    (l30 : K.lookup f30 = some ⟨oc30, od30, .func (PySem.W.fnOf "misses_at" "misses_at" (defArgs s30) (defBody s30) (defScope s30) .none kV30 dc30 pm30 an30 cd30 ct30), sl30⟩) (c30 : PySem.W.codeIn K cd30 "misses_at" = true) (k30 : PySem.W.keepIn K (.ref f30) = true)
    {f31 : Addr} {od31 an31 : Option Addr} {sl31 : Array (Option Value)} {oc31 kV31 dc31 pm31 cd31 ct31 : Value} (a31 : PySem.W.nsIn K mainGlobals "does_wish" = some (some (.ref f31)))
    (l31 : K.lookup f31 = some ⟨oc31, od31, .func (PySem.W.fnOf "does_wish" "does_wish" (defArgs s31) (defBody s31) (defScope s31) .none kV31 dc31 pm31 an31 cd31 ct31), sl31⟩) (c31 : PySem.W.codeIn K cd31 "does_wish" = true) (k31 : PySem.W.keepIn K (.ref f31) = true)
    {f32 : Addr} {od32 an32 : Option Addr} {sl32 : Array (Option Value)} {oc32 kV32 dc32 pm32 cd32 ct32 : Value} (a32 : PySem.W.nsIn K mainGlobals "_law_other" = some (some (.ref f32)))
    (l32 : K.lookup f32 = some ⟨oc32, od32, .func (PySem.W.fnOf "_law_other" "_law_other" (defArgs s32) (defBody s32) (defScope s32) .none kV32 dc32 pm32 an32 cd32 ct32), sl32⟩) (c32 : PySem.W.codeIn K cd32 "_law_other" = true) (k32 : PySem.W.keepIn K (.ref f32) = true)
    {f33 : Addr} {od33 an33 : Option Addr} {sl33 : Array (Option Value)} {oc33 kV33 dc33 pm33 cd33 ct33 : Value} (a33 : PySem.W.nsIn K mainGlobals "_law_all" = some (some (.ref f33)))
    (l33 : K.lookup f33 = some ⟨oc33, od33, .func (PySem.W.fnOf "_law_all" "_law_all" (defArgs s33) (defBody s33) (defScope s33) .none kV33 dc33 pm33 an33 cd33 ct33), sl33⟩) (c33 : PySem.W.codeIn K cd33 "_law_all" = true) (k33 : PySem.W.keepIn K (.ref f33) = true)
    {f34 : Addr} {od34 an34 : Option Addr} {sl34 : Array (Option Value)} {oc34 kV34 dc34 pm34 cd34 ct34 : Value} (a34 : PySem.W.nsIn K mainGlobals "_law_seen" = some (some (.ref f34)))
    (l34 : K.lookup f34 = some ⟨oc34, od34, .func (PySem.W.fnOf "_law_seen" "_law_seen" (defArgs s34) (defBody s34) (defScope s34) .none kV34 dc34 pm34 an34 cd34 ct34), sl34⟩) (c34 : PySem.W.codeIn K cd34 "_law_seen" = true) (k34 : PySem.W.keepIn K (.ref f34) = true)
    {f35 : Addr} {od35 an35 : Option Addr} {sl35 : Array (Option Value)} {oc35 kV35 dc35 pm35 cd35 ct35 : Value} (a35 : PySem.W.nsIn K mainGlobals "_law_word" = some (some (.ref f35)))
    (l35 : K.lookup f35 = some ⟨oc35, od35, .func (PySem.W.fnOf "_law_word" "_law_word" (defArgs s35) (defBody s35) (defScope s35) .none kV35 dc35 pm35 an35 cd35 ct35), sl35⟩) (c35 : PySem.W.codeIn K cd35 "_law_word" = true) (k35 : PySem.W.keepIn K (.ref f35) = true)
    {f36 : Addr} {od36 an36 : Option Addr} {sl36 : Array (Option Value)} {oc36 kV36 dc36 pm36 cd36 ct36 : Value} (a36 : PySem.W.nsIn K mainGlobals "_law_made" = some (some (.ref f36)))
    (l36 : K.lookup f36 = some ⟨oc36, od36, .func (PySem.W.fnOf "_law_made" "_law_made" (defArgs s36) (defBody s36) (defScope s36) .none kV36 dc36 pm36 an36 cd36 ct36), sl36⟩) (c36 : PySem.W.codeIn K cd36 "_law_made" = true) (k36 : PySem.W.keepIn K (.ref f36) = true)
    {f37 : Addr} {od37 an37 : Option Addr} {sl37 : Array (Option Value)} {oc37 kV37 dc37 pm37 cd37 ct37 : Value} (a37 : PySem.W.nsIn K mainGlobals "_law_done" = some (some (.ref f37)))
    (l37 : K.lookup f37 = some ⟨oc37, od37, .func (PySem.W.fnOf "_law_done" "_law_done" (defArgs s37) (defBody s37) (defScope s37) .none kV37 dc37 pm37 an37 cd37 ct37), sl37⟩) (c37 : PySem.W.codeIn K cd37 "_law_done" = true) (k37 : PySem.W.keepIn K (.ref f37) = true)
    {f38 : Addr} {od38 an38 : Option Addr} {sl38 : Array (Option Value)} {oc38 kV38 dc38 pm38 cd38 ct38 : Value} (a38 : PySem.W.nsIn K mainGlobals "_law_same" = some (some (.ref f38)))
    (l38 : K.lookup f38 = some ⟨oc38, od38, .func (PySem.W.fnOf "_law_same" "_law_same" (defArgs s38) (defBody s38) (defScope s38) .none kV38 dc38 pm38 an38 cd38 ct38), sl38⟩) (c38 : PySem.W.codeIn K cd38 "_law_same" = true) (k38 : PySem.W.keepIn K (.ref f38) = true)
    {f39 : Addr} {od39 an39 : Option Addr} {sl39 : Array (Option Value)} {oc39 kV39 dc39 pm39 cd39 ct39 : Value} (a39 : PySem.W.nsIn K mainGlobals "law" = some (some (.ref f39)))
    (l39 : K.lookup f39 = some ⟨oc39, od39, .func (PySem.W.fnOf "law" "law" (defArgs s39) (defBody s39) (defScope s39) .none kV39 dc39 pm39 an39 cd39 ct39), sl39⟩) (c39 : PySem.W.codeIn K cd39 "law" = true) (k39 : PySem.W.keepIn K (.ref f39) = true)
    (z0 : PySem.W.nsIn K mainGlobals "len" = some none)
    (z1 : PySem.W.nsIn K mainGlobals "list" = some none)
    (z2 : PySem.W.nsIn K mainGlobals "tuple" = some none)
    (z3 : PySem.W.nsIn K mainGlobals "sorted" = some none)
    (z4 : PySem.W.nsIn K mainGlobals "sum" = some none)
    (z5 : PySem.W.nsIn K mainGlobals "min" = some none)
    (z6 : PySem.W.nsIn K mainGlobals "max" = some none)
    (z7 : PySem.W.nsIn K mainGlobals "int" = some none)
    (z8 : PySem.W.nsIn K mainGlobals "str" = some none)
    (z9 : PySem.W.nsIn K mainGlobals "all" = some none)
    (z10 : PySem.W.nsIn K mainGlobals "range" = some none)
    (z11 : PySem.W.nsIn K mainGlobals "enumerate" = some none)
    (z12 : PySem.W.nsIn K mainGlobals "zip" = some none)
    (z13 : PySem.W.nsIn K mainGlobals "reversed" = some none)
    (z14 : PySem.W.nsIn K mainGlobals "isinstance" = some none)
    (z15 : PySem.W.nsIn K mainGlobals "bool" = some none)
    (z16 : PySem.W.nsIn K mainGlobals "dict" = some none)
    (z17 : PySem.W.nsIn K mainGlobals "set" = some none) (mh : ∀ ns : List Int, ns.length ≤ 63 → (∀ z ∈ ns, Builtin.Int.intBits z ≤ 1048576) → ph 39 [.scr ns] = .ok (.bl true)) :
    ∃ fd : FuncData, (∀ (s : Shared) (v : Value), BindsTo s fd ⟨[v], []⟩ [("_law_script", v)]) ∧ ∀ base : Heap, K.In base → base.Ns mainGlobals mg → FnOk l.prog w K mg base CX0 40 fa fd ["_law_script"] (spL K) := by
  have e := hfa.symm.trans (PySem.W.mg_of X G a39)
  cases e
  have T : ∀ base, Tab TT l.prog w K mg base [] 0 := fun base => Tab.zero (fun x hx => by
      simp only [bnames, List.mem_cons, List.mem_nil_iff, or_false] at hx
      rcases hx with rfl | rfl | rfl | rfl | rfl | rfl | rfl | rfl | rfl | rfl | rfl | rfl | rfl | rfl | rfl | rfl | rfl | rfl
      · exact PySem.W.mg_none_of X G z0
      · exact PySem.W.mg_none_of X G z1
      · exact PySem.W.mg_none_of X G z2
      · exact PySem.W.mg_none_of X G z3
      · exact PySem.W.mg_none_of X G z4
      · exact PySem.W.mg_none_of X G z5
      · exact PySem.W.mg_none_of X G z6
      · exact PySem.W.mg_none_of X G z7
      · exact PySem.W.mg_none_of X G z8
      · exact PySem.W.mg_none_of X G z9
      · exact PySem.W.mg_none_of X G z10
      · exact PySem.W.mg_none_of X G z11
      · exact PySem.W.mg_none_of X G z12
      · exact PySem.W.mg_none_of X G z13
      · exact PySem.W.mg_none_of X G z14
      · exact PySem.W.mg_none_of X G z15
      · exact PySem.W.mg_none_of X G z16
      · exact PySem.W.mg_none_of X G z17
    ) (fun x n h => by cases h) (fun x n h => by cases h) (fun c x h => ClsL.at_ (l := ["Kind", "Up", "Down", "And", "Or", "Xor", "Add", "Take", "Copy", "Put"]) (K := K) (mg := mg) ⟨⟨_, PySem.W.mg_of X G A0, ⟨B0_4, B0_5, B0_6⟩⟩, ⟨_, PySem.W.mg_of X G A1, ⟨B1_4, B1_5, B1_6⟩⟩, ⟨_, PySem.W.mg_of X G A2, ⟨B2_4, B2_5, B2_6⟩⟩, ⟨_, PySem.W.mg_of X G A3, ⟨B3_4, B3_5, B3_6⟩⟩, ⟨_, PySem.W.mg_of X G A4, ⟨B4_4, B4_5, B4_6⟩⟩, ⟨_, PySem.W.mg_of X G A5, ⟨B5_4, B5_5, B5_6⟩⟩, ⟨_, PySem.W.mg_of X G A6, ⟨B6_4, B6_5, B6_6⟩⟩, ⟨_, PySem.W.mg_of X G A7, ⟨B7_4, B7_5, B7_6⟩⟩, ⟨_, PySem.W.mg_of X G A8, ⟨B8_4, B8_5, B8_6⟩⟩, ⟨_, PySem.W.mg_of X G A9, ⟨B9_4, B9_5, B9_6⟩⟩, trivial⟩ h)
  have F0 := fun_mk (st := s0) l0 c0 k0
  have B0 := bd0 (n := TT.df 0) (F0.binds (ps := ["_law_cell"]) fun _ _ _ _ _ _ us hl => match us, hl with | [_], _ => rfl) rfl
  have F1 := fun_mk (st := s1) l1 c1 k1
  have B1 := bd0 (n := TT.df 1) (F1.binds (ps := ["_law_cell", "_law_k"]) fun _ _ _ _ _ _ us hl => match us, hl with | [_, _], _ => rfl) rfl
  have F2 := fun_mk (st := s2) l2 c2 k2
  have B2 := bd0 (n := TT.df 2) (F2.binds (ps := ["_law_m", "_law_size_here"]) fun _ _ _ _ _ _ us hl => match us, hl with | [_, _], _ => rfl) rfl
  have F3 := fun_mk (st := s3) l3 c3 k3
  have B3 := bd0 (n := TT.df 3) (F3.binds (ps := ["_law_script", "_law_k"]) fun _ _ _ _ _ _ us hl => match us, hl with | [_, _], _ => rfl) rfl
  have F4 := fun_mk (st := s4) l4 c4 k4
  have B4 := bd0 (n := TT.df 4) (F4.binds (ps := ["_law_script", "_law_start", "_law_size_here", "_law_most", "_law_dear"]) fun _ _ _ _ _ _ us hl => match us, hl with | [_, _, _, _, _], _ => rfl) rfl
  have F5 := fun_mk (st := s5) l5 c5 k5
  have B5 := bd0 (n := TT.df 5) (F5.binds (ps := ["_law_cells_here", "_law_kit_here"]) fun _ _ _ _ _ _ us hl => match us, hl with | [_, _], _ => rfl) rfl
  have F6 := fun_mk (st := s6) l6 c6 k6
  have B6 := bd0 (n := TT.df 6) (F6.binds (ps := ["_law_cell", "_law_size_here"]) fun _ _ _ _ _ _ us hl => match us, hl with | [_, _], _ => rfl) rfl
  have F7 := fun_mk (st := s7) l7 c7 k7
  have B7 := bd0 (n := TT.df 7) (F7.binds (ps := ["row", "place", "many"]) fun _ _ _ _ _ _ us hl => match us, hl with | [_, _, _], _ => rfl) rfl
  have F8 := fun_mk (st := s8) l8 c8 k8
  have B8 := bd0 (n := TT.df 8) (F8.binds (ps := ["size", "looked"]) fun _ _ _ _ _ _ us hl => match us, hl with | [_, _], _ => rfl) rfl
  have F9 := fun_mk (st := s9) l9 c9 k9
  have B9 := bd0 (n := TT.df 9) (F9.binds (ps := ["size"]) fun _ _ _ _ _ _ us hl => match us, hl with | [_], _ => rfl) rfl
  have F10 := fun_mk (st := s10) l10 c10 k10
  have B10 := bd0 (n := TT.df 10) (F10.binds (ps := ["word"]) fun _ _ _ _ _ _ us hl => match us, hl with | [_], _ => rfl) rfl
  have F11 := fun_mk (st := s11) l11 c11 k11
  have B11 := (F11.binds (ps := ["self", "step", "filling"]) fun _ _ _ _ _ _ us hl => match us, hl with | [_, _, _], _ => rfl)
  have M11 : MthL TT K mg f11 11 [(0, 0)] := ⟨⟨"made", rfl, by rw [clsOf_of (n := "Kind") (show TT.cls[0]? = _ from rfl) (PySem.W.mg_of X G A0)]; exact ⟨B0_0, B0_1, B0_2, B0_3⟩, by rw [clsOf_of (n := "Kind") (show TT.cls[0]? = _ from rfl) (PySem.W.mg_of X G A0)]; exact ⟨a11_0, n11, k11⟩, rfl, rfl, rfl⟩, trivial⟩
  have F12 := fun_mk (st := s12) l12 c12 k12
  have B12 := (F12.binds (ps := ["self", "step", "filling"]) fun _ _ _ _ _ _ us hl => match us, hl with | [_, _, _], _ => rfl)
  have M12 : MthL TT K mg f12 12 [(1, 0)] := ⟨⟨"made", rfl, by rw [clsOf_of (n := "Up") (show TT.cls[1]? = _ from rfl) (PySem.W.mg_of X G A1)]; exact ⟨B1_0, B1_1, B1_2, B1_3⟩, by rw [clsOf_of (n := "Up") (show TT.cls[1]? = _ from rfl) (PySem.W.mg_of X G A1)]; exact ⟨a12_1, n12, k12⟩, rfl, rfl, rfl⟩, trivial⟩
  have F13 := fun_mk (st := s13) l13 c13 k13
  have B13 := (F13.binds (ps := ["self", "step", "filling"]) fun _ _ _ _ _ _ us hl => match us, hl with | [_, _, _], _ => rfl)
  have M13 : MthL TT K mg f13 13 [(2, 0)] := ⟨⟨"made", rfl, by rw [clsOf_of (n := "Down") (show TT.cls[2]? = _ from rfl) (PySem.W.mg_of X G A2)]; exact ⟨B2_0, B2_1, B2_2, B2_3⟩, by rw [clsOf_of (n := "Down") (show TT.cls[2]? = _ from rfl) (PySem.W.mg_of X G A2)]; exact ⟨a13_2, n13, k13⟩, rfl, rfl, rfl⟩, trivial⟩
  have F14 := fun_mk (st := s14) l14 c14 k14
  have B14 := (F14.binds (ps := ["self", "step", "filling"]) fun _ _ _ _ _ _ us hl => match us, hl with | [_, _, _], _ => rfl)
  have M14 : MthL TT K mg f14 14 [(3, 0)] := ⟨⟨"made", rfl, by rw [clsOf_of (n := "And") (show TT.cls[3]? = _ from rfl) (PySem.W.mg_of X G A3)]; exact ⟨B3_0, B3_1, B3_2, B3_3⟩, by rw [clsOf_of (n := "And") (show TT.cls[3]? = _ from rfl) (PySem.W.mg_of X G A3)]; exact ⟨a14_3, n14, k14⟩, rfl, rfl, rfl⟩, trivial⟩
  have F15 := fun_mk (st := s15) l15 c15 k15
  have B15 := (F15.binds (ps := ["self", "step", "filling"]) fun _ _ _ _ _ _ us hl => match us, hl with | [_, _, _], _ => rfl)
  have M15 : MthL TT K mg f15 15 [(4, 0)] := ⟨⟨"made", rfl, by rw [clsOf_of (n := "Or") (show TT.cls[4]? = _ from rfl) (PySem.W.mg_of X G A4)]; exact ⟨B4_0, B4_1, B4_2, B4_3⟩, by rw [clsOf_of (n := "Or") (show TT.cls[4]? = _ from rfl) (PySem.W.mg_of X G A4)]; exact ⟨a15_4, n15, k15⟩, rfl, rfl, rfl⟩, trivial⟩
  have F16 := fun_mk (st := s16) l16 c16 k16
  have B16 := (F16.binds (ps := ["self", "step", "filling"]) fun _ _ _ _ _ _ us hl => match us, hl with | [_, _, _], _ => rfl)
  have M16 : MthL TT K mg f16 16 [(5, 0)] := ⟨⟨"made", rfl, by rw [clsOf_of (n := "Xor") (show TT.cls[5]? = _ from rfl) (PySem.W.mg_of X G A5)]; exact ⟨B5_0, B5_1, B5_2, B5_3⟩, by rw [clsOf_of (n := "Xor") (show TT.cls[5]? = _ from rfl) (PySem.W.mg_of X G A5)]; exact ⟨a16_5, n16, k16⟩, rfl, rfl, rfl⟩, trivial⟩
  have F17 := fun_mk (st := s17) l17 c17 k17
  have B17 := (F17.binds (ps := ["self", "step", "filling"]) fun _ _ _ _ _ _ us hl => match us, hl with | [_, _, _], _ => rfl)
  have M17 : MthL TT K mg f17 17 [(6, 0)] := ⟨⟨"made", rfl, by rw [clsOf_of (n := "Add") (show TT.cls[6]? = _ from rfl) (PySem.W.mg_of X G A6)]; exact ⟨B6_0, B6_1, B6_2, B6_3⟩, by rw [clsOf_of (n := "Add") (show TT.cls[6]? = _ from rfl) (PySem.W.mg_of X G A6)]; exact ⟨a17_6, n17, k17⟩, rfl, rfl, rfl⟩, trivial⟩
  have F18 := fun_mk (st := s18) l18 c18 k18
  have B18 := (F18.binds (ps := ["self", "step", "filling"]) fun _ _ _ _ _ _ us hl => match us, hl with | [_, _, _], _ => rfl)
  have M18 : MthL TT K mg f18 18 [(7, 0)] := ⟨⟨"made", rfl, by rw [clsOf_of (n := "Take") (show TT.cls[7]? = _ from rfl) (PySem.W.mg_of X G A7)]; exact ⟨B7_0, B7_1, B7_2, B7_3⟩, by rw [clsOf_of (n := "Take") (show TT.cls[7]? = _ from rfl) (PySem.W.mg_of X G A7)]; exact ⟨a18_7, n18, k18⟩, rfl, rfl, rfl⟩, trivial⟩
  have F19 := fun_mk (st := s19) l19 c19 k19
  have B19 := (F19.binds (ps := ["self", "step", "filling"]) fun _ _ _ _ _ _ us hl => match us, hl with | [_, _, _], _ => rfl)
  have M19 : MthL TT K mg f19 19 [(8, 0)] := ⟨⟨"made", rfl, by rw [clsOf_of (n := "Copy") (show TT.cls[8]? = _ from rfl) (PySem.W.mg_of X G A8)]; exact ⟨B8_0, B8_1, B8_2, B8_3⟩, by rw [clsOf_of (n := "Copy") (show TT.cls[8]? = _ from rfl) (PySem.W.mg_of X G A8)]; exact ⟨a19_8, n19, k19⟩, rfl, rfl, rfl⟩, trivial⟩
  have F20 := fun_mk (st := s20) l20 c20 k20
  have B20 := (F20.binds (ps := ["self", "step", "filling"]) fun _ _ _ _ _ _ us hl => match us, hl with | [_, _, _], _ => rfl)
  have M20 : MthL TT K mg f20 20 [(9, 0)] := ⟨⟨"made", rfl, by rw [clsOf_of (n := "Put") (show TT.cls[9]? = _ from rfl) (PySem.W.mg_of X G A9)]; exact ⟨B9_0, B9_1, B9_2, B9_3⟩, by rw [clsOf_of (n := "Put") (show TT.cls[9]? = _ from rfl) (PySem.W.mg_of X G A9)]; exact ⟨a20_9, n20, k20⟩, rfl, rfl, rfl⟩, trivial⟩
  have F21 := fun_mk (st := s21) l21 c21 k21
  have B21 := bd0 (n := TT.df 21) (F21.binds (ps := ["size", "step", "filling"]) fun _ _ _ _ _ _ us hl => match us, hl with | [_, _, _], _ => rfl) rfl
  have F22 := fun_mk (st := s22) l22 c22 k22
  have B22 := bd0 (n := TT.df 22) (F22.binds (ps := ["size", "stock", "row", "filling"]) fun _ _ _ _ _ _ us hl => match us, hl with | [_, _, _, _], _ => rfl) rfl
  have F23 := fun_mk (st := s23) l23 c23 k23
  have B23 := bd0 (n := TT.df 23) (F23.binds (ps := ["size"]) fun _ _ _ _ _ _ us hl => match us, hl with | [_], _ => rfl) rfl
  have F24 := fun_mk (st := s24) l24 c24 k24
  have B24 := bd0 (n := TT.df 24) (F24.binds (ps := ["size", "stock", "row"]) fun _ _ _ _ _ _ us hl => match us, hl with | [_, _, _], _ => rfl) rfl
  have F25 := fun_mk (st := s25) l25 c25 k25
  have B25 := bd0 (n := TT.df 25) (F25.binds (ps := ["filling", "boxes"]) fun _ _ _ _ _ _ us hl => match us, hl with | [_, _], _ => rfl) rfl
  have F26 := fun_mk (st := s26) l26 c26 k26
  have B26 := bd0 (n := TT.df 26) (F26.binds (ps := ["size", "table", "boxes"]) fun _ _ _ _ _ _ us hl => match us, hl with | [_, _, _], _ => rfl) rfl
  have F27 := fun_mk (st := s27) l27 c27 k27
  have B27 := bd0 (n := TT.df 27) (F27.binds (ps := ["size", "filling"]) fun _ _ _ _ _ _ us hl => match us, hl with | [_, _], _ => rfl) rfl
  have F28 := fund_mk (st := s28) l28 y28 c28 k28
  have B28 := bd1 (n := TT.df 28) (F28.binds1 (ps := ["size", "kit", "row", "place", "many", "looked"]) 6 1 (by simp) rfl fun _ _ _ _ _ _ _ us its hu hi => match us, hu, its, hi with | [_, _, _, _, _, _], _, [_], _ => ⟨_, rfl, rfl⟩) (F28.binds1 (ps := ["size", "kit", "row", "place", "many", "looked"]) 5 0 (by simp) rfl fun _ _ _ _ _ _ _ us its hu hi => match us, hu, its, hi with | [_, _, _, _, _], _, [_], _ => ⟨_, rfl, rfl⟩) rfl
  have F29 := fun_mk (st := s29) l29 c29 k29
  have B29 := bd0 (n := TT.df 29) (F29.binds (ps := ["_law_script", "_law_start", "_law_many"]) fun _ _ _ _ _ _ us hl => match us, hl with | [_, _, _], _ => rfl) rfl
  have F30 := fun_mk (st := s30) l30 c30 k30
  have B30 := bd0 (n := TT.df 30) (F30.binds (ps := ["size", "wish", "table"]) fun _ _ _ _ _ _ us hl => match us, hl with | [_, _, _], _ => rfl) rfl
  have F31 := fun_mk (st := s31) l31 c31 k31
  have B31 := bd0 (n := TT.df 31) (F31.binds (ps := ["size", "wish", "table"]) fun _ _ _ _ _ _ us hl => match us, hl with | [_, _, _], _ => rfl) rfl
  have F32 := fun_mk (st := s32) l32 c32 k32
  have B32 := bd0 (n := TT.df 32) (F32.binds (ps := ["_law_cell", "_law_k", "_law_kit_here"]) fun _ _ _ _ _ _ us hl => match us, hl with | [_, _, _], _ => rfl) rfl
  have F33 := fun_mk (st := s33) l33 c33 k33
  have B33 := bd0 (n := TT.df 33) (F33.binds (ps := ["_law_size_here"]) fun _ _ _ _ _ _ us hl => match us, hl with | [_], _ => rfl) rfl
  have F34 := fun_mk (st := s34) l34 c34 k34
  have B34 := bd0 (n := TT.df 34) (F34.binds (ps := ["_law_filling", "_law_looked_here"]) fun _ _ _ _ _ _ us hl => match us, hl with | [_, _], _ => rfl) rfl
  have F35 := fun_mk (st := s35) l35 c35 k35
  have B35 := bd0 (n := TT.df 35) (F35.binds (ps := ["_law_size_here", "_law_step_here", "_law_filling"]) fun _ _ _ _ _ _ us hl => match us, hl with | [_, _, _], _ => rfl) rfl
  have F36 := fun_mk (st := s36) l36 c36 k36
  have B36 := bd0 (n := TT.df 36) (F36.binds (ps := ["_law_size_here", "_law_step_here", "_law_filling"]) fun _ _ _ _ _ _ us hl => match us, hl with | [_, _, _], _ => rfl) rfl
  have F37 := fun_mk (st := s37) l37 c37 k37
  have B37 := bd0 (n := TT.df 37) (F37.binds (ps := ["_law_size_here", "_law_kit_here", "_law_row_here", "_law_filling"]) fun _ _ _ _ _ _ us hl => match us, hl with | [_, _, _, _], _ => rfl) rfl
  have F38 := fun_mk (st := s38) l38 c38 k38
  have B38 := bd0 (n := TT.df 38) (F38.binds (ps := ["_law_size_here", "_law_kit_here", "_law_one", "_law_other_here", "_law_looked_here"]) fun _ _ _ _ _ _ us hl => match us, hl with | [_, _, _, _, _], _ => rfl) rfl
  have F39 := fun_mk (st := s39) l39 c39 k39
  have B39 := bd0 (n := TT.df 39) (F39.binds (ps := ["_law_script"]) fun _ _ _ _ _ _ us hl => match us, hl with | [_], _ => rfl) rfl
  exact ⟨_, fun s v => .of_eq rfl, fun base _ _ => run (T base) (funD F0) (PySem.W.mg_of X G a0) B0 (funD F1) (PySem.W.mg_of X G a1) B1 (funD F2) (PySem.W.mg_of X G a2) B2 (funD F3) (PySem.W.mg_of X G a3) B3 (funD F4) (PySem.W.mg_of X G a4) B4 (funD F5) (PySem.W.mg_of X G a5) B5 (funD F6) (PySem.W.mg_of X G a6) B6 (funD F7) (PySem.W.mg_of X G a7) B7 (funD F8) (PySem.W.mg_of X G a8) B8 (funD F9) (PySem.W.mg_of X G a9) B9 (funD F10) (PySem.W.mg_of X G a10) B10 (funD F11) B11 M11 (funD F12) B12 M12 (funD F13) B13 M13 (funD F14) B14 M14 (funD F15) B15 M15 (funD F16) B16 M16 (funD F17) B17 M17 (funD F18) B18 M18 (funD F19) B19 M19 (funD F20) B20 M20 (funD F21) (PySem.W.mg_of X G a21) B21 (funD F22) (PySem.W.mg_of X G a22) B22 (funD F23) (PySem.W.mg_of X G a23) B23 (funD F24) (PySem.W.mg_of X G a24) B24 (funD F25) (PySem.W.mg_of X G a25) B25 (funD F26) (PySem.W.mg_of X G a26) B26 (funD F27) (PySem.W.mg_of X G a27) B27 F28 (PySem.W.mg_of X G a28) B28 (funD F29) (PySem.W.mg_of X G a29) B29 (funD F30) (PySem.W.mg_of X G a30) B30 (funD F31) (PySem.W.mg_of X G a31) B31 (funD F32) (PySem.W.mg_of X G a32) B32 (funD F33) (PySem.W.mg_of X G a33) B33 (funD F34) (PySem.W.mg_of X G a34) B34 (funD F35) (PySem.W.mg_of X G a35) B35 (funD F36) (PySem.W.mg_of X G a36) B36 (funD F37) (PySem.W.mg_of X G a37) B37 (funD F38) (PySem.W.mg_of X G a38) B38 (funD F39) (PySem.W.mg_of X G a39) B39 mh⟩
end Lw

namespace Lw
open Ev PySem L2
local macro_rules | `(tactic| trivial) => `(tactic| first | simp only [evE, evEs, evI, evO, evC, st_nil, st_retn, st_brk, st_cnt, st_pas, cnd_t, cnd_f, th_nx, th_rt, th_bk, th_ct, lo_nx, lo_rt, lo_bk, lo_ct, re_rt, re_nx, okb, badb, chkt, getV0, getVs, set0, sets, tr_non, tr_bl, tr_int, tr_lst, tr_tup, bn_add, bn_sub, bn_mul, bn_div', bn_mod', bn_pow, bn_shl, bn_shr, bn_tup, bn_lst, pr_n, pr_s, nud0, nud1, nud2, cat0, cat1, cat2, aox0, aox1, aox2, inc0, inc1, inc2, inc3, inc4, inc5, eqp0, eqp1, eqp2, eqp3, eqp4, eqp5, eqp6, eqp7, eqp8, eqp9, inn0, inn1, inn2, inn3, inn4, inn5, inn6, inn7, inn8, inn9, eqc0, eqc1, eqc2, eqc3, eqc4, eqc5, eqa0, eqa1, eqa2, eqa3, eqa4, eqt0, eqt1, eqt2, eqt3, eqt4, ixa0, ixa1, ixa2, stk_len, rw_len, bi_sum, slc_tp, bn_and, bn_or, bn_xor, cm_eq, cm_ne, cm_lt, cm_le, cm_gt, cm_ge, cm_eqb, cm_neb, cm_is, cm_isn, is_bl, is_nn, is_tn, is_ln, is_in, is_bn, bi_lenL, bi_lenT, bi_lenS, bi_ll, bi_lt, bi_tl, bi_tt, bi_min, bi_max, ix_l, ix_t, ix_s, at_0, at_s, wi_one, wi_m, wi_mn, bd_one, bd_tup, bd_lst, sa_c, sa_n, mu_app, mu_ext, mu_clr, mu_rev, pw1, pw2, pw3, ml1, ml2, ml3, pz1, pz2, List.map_cons, List.map_nil, List.length_cons, List.length_nil, List.replicate, List.cons_append, List.nil_append, anyTy, ty_non_int, ty_non_bool, ty_non_str, ty_non_tuple, ty_non_list, ty_non_dict, ty_bl_int, ty_bl_bool, ty_bl_str, ty_bl_tuple, ty_bl_list, ty_bl_dict, ty_int_int, ty_int_bool, ty_int_str, ty_int_tuple, ty_int_list, ty_int_dict, ty_str_int, ty_str_bool, ty_str_str, ty_str_tuple, ty_str_list, ty_str_dict, ty_tup_int, ty_tup_bool, ty_tup_str, ty_tup_tuple, ty_tup_list, ty_tup_dict, ty_lst_int, ty_lst_bool, ty_lst_str, ty_lst_tuple, ty_lst_list, ty_lst_dict, ty_dct_int, ty_dct_bool, ty_dct_str, ty_dct_tuple, ty_dct_list, ty_dct_dict, reduceIte, Bool.false_eq_true, decide_true, decide_false, List.append_nil, line_val, sizeLine_eq, Nat.zero_le, Bool.not_true, Bool.not_false, Bool.true_eq_false, Nat.reduceAdd, Nat.reduceSub, Nat.reduceMul, Nat.reduceLT, Nat.reduceLeDiff, Nat.reduceEqDiff, Int.reduceLT, Int.reduceLE, Int.reduceEq, Int.reduceAdd, Int.reduceSub, Int.reduceMul, Int.reduceNeg, Int.reduceToNat, Int.cast_ofNat_Int, Int.natCast_zero, Int.natCast_one, cm_in, cm_nin, bi_list_tp, bi_tup_in, ix_tp, cm_nei, sl_scr, rngOk_2, rngD_2, is_tp, ty_tp, cm_eqt, cm_net, cm_eqf, cm_nef, cm_eqf0, cm_eqw, in_fs, bi_intb, ints_len, fs_len, ws_len, eq_self, szD_0, szD_1, cut_one, cm_eqft, cm_neft, rngOk_3, rngD_3, cl_n, cl_c, cm_nescr, is_is, min2, max2, eqcc6, eqcc7, eqcc8, eqcc9, up0, up1, up2, up3, up4, up5, up6, up7, up8, up9, ct31, ct32, cu32, cu33, ct3m, ct21, cu22, ct2m, Int.reduceMod, cut3, cut2, srs2, in_li, Int.toNat_natCast, cm_ll, cm_nll, pure_ints, pure_rw, pure_trw, mu_ins, mu_at1, in_rw, lis_len, c4_1, c4_2, c4_3, c5_1, c21_9, c21_10, c21_11, c21_12, c21_13, c21_14, c21_15, c21_16, c21_17, c21_18, c21_19, c21_20, c22_21, c23_9, c24_22, c24_23, c26_23, c26_25, c27_9, c28_7, c28_8, c28_23, c28_24, c28_25, c28_26, c28_27, c29_3, c30_23, c31_30, c32_1, c36_35, c37_36, c38_33, c38_34, c38_37, c39_0, c39_3, c39_4, c39_5, c39_6, c39_24, c39_28, c39_29, c39_31, c39_32, c39_38, cM0_0, cM1_0, cM2_0, cM3_0, cM4_0, cM5_0, cM6_0, cM7_0, cM8_0, cM9_0] | skip)
local macro_rules | `(tactic| assumption) => `(tactic| (trivial; repeat (first | rw [st_asg] | rw [st_ret] | rw [st_ife] | rw [st_mut] | rw [st_tasg] | rw [st_for] | rw [st_mov] | rw [st_apop] | rw [st_mutp] | rw [st_probe] | rw [fo_c] | rw [fo_n]) <;> trivial))
theorem mixed1 (c : Int) (k : Nat) (hk : k ≤ 1000) : ∃ r : Int, g1 [.int c, .int k] = .ok (.int r) := by
  have k2 : k * k ≤ 1000000 := Nat.mul_le_mul hk hk
  have e2 : ((k * k : Nat) : Int) = (k : Int) * k := by simp
  have m1 : mulOk (c % 2147483647) 48271 = true := mul_ok (k := 31) (m := 31) (by omega) (by omega) (by omega) (by omega) (by decide)
  have m2 : mulOk k k = true := mul_ok (k := 31) (m := 31) (by omega) (by omega) (by omega) (by omega) (by decide)
  have m3 : mulOk ((k : Int) * k) 69621 = true := mul_ok (k := 31) (m := 31) (by omega) (by omega) (by omega) (by omega) (by decide)
  have tail : ∀ n : Int, 0 ≤ n → n < 2 ^ 31 → ∃ r : Int, retF (evSs (phiR TT.M R0) TT.M t1_2 [some (.int c), some (.int k), some (.int n)]) = .ok (.int r) := fun n n0 n1 => by
    have a1 : mulOk n n = true := mul_ok (k := 31) (m := 31) (by omega) (by omega) (by omega) (by omega) (by decide)
    have a2 : mulOk 16807 n = true := mul_ok (k := 31) (m := 31) (by omega) (by omega) (by omega) (by omega) (by decide)
    refine ⟨(n * n + 16807 * n + (k : Int)) % 2147483629, ?_⟩
    unfold t1_2
    assumption
    rw [a1]
    assumption
    rw [a2]
    assumption
  unfold g1 b1
  rw [evB_eq]
  assumption
  by_cases h : c % 2 = 1
  · rw [decide_eq_true h]
    assumption
    exact ⟨_, rfl⟩
  · rw [decide_eq_false h]
    assumption
    unfold t1_1
    assumption
    rw [m1]
    assumption
    rw [m2]
    assumption
    rw [m3]
    assumption
    exact tail _ (by omega) (by omega)

theorem step2 (x : Int) (p : Int × Int) (hp : isSz p) : ∃ k i j, StOk p k i j ∧ g2 [.int x, szD p] = .ok (stD k i j) := by
  obtain ⟨z1, z2, z3, z4⟩ := sz_rng hp
  have hb : 0 < p.2 := by omega
  unfold g2 b2
  rw [evB_eq]
  assumption
  rw [bn_mod' hb]
  assumption
  unfold t2_1
  assumption
  rw [bn_mod' hb]
  assumption
  unfold t2_2 t2_3 t2_4 t2_5
  assumption
  have k1 := Int.emod_nonneg x (show (10 : Int) ≠ 0 by decide)
  have k2 := Int.emod_lt_of_pos x (show (0 : Int) < 10 by decide)
  generalize x % 10 = r at *
  obtain ⟨i, i1, i2⟩ := bxs_mod (a := x / 10) hb
  obtain ⟨j, j1, j2⟩ := bxs_mod (a := x / 60) hb
  obtain ⟨n, n1, n2⟩ := bxs_mod (a := x / 360) (two_pos p)
  by_cases h1 : r < 6
  · refine ⟨r.toNat, i, j, ⟨by omega, i1, fun _ => j1, fun e => by omega⟩, ?_⟩
    rw [decide_eq_true h1]
    assumption
    rw [wd_at6 k1 h1]
    assumption
    rw [i2, j2]
    unfold stD
    rw [if_pos (by omega)]
  · rw [decide_eq_false h1]
    assumption
    by_cases h2 : r = 6
    · refine ⟨6, i, n, ⟨by omega, i1, fun e => by omega, fun e => by omega⟩, ?_⟩
      rw [decide_eq_true h2]
      assumption
      rw [pow_ok1 (show 0 ≤ p.1 by omega) (by omega)]
      assumption
      rw [one_shl]
      rw [bn_mod' (two_pos p)]
      assumption
      rw [i2, n2]
      rfl
    · refine ⟨r.toNat, i, 0, ⟨by omega, i1, fun e => by omega, fun e => by omega⟩, ?_⟩
      rw [decide_eq_false h2]
      assumption
      rw [wd_at7 (show 7 ≤ r by omega) k2]
      assumption
      rw [i2]
      unfold stD
      rw [if_neg (by omega)]

theorem cellat3 (ns : List Int) (k : Nat) : g3 [.scr ns, .int (k : Int)] = .ok (.int (cell ns k)) := by
  unfold g3 b3 t3_1
  rw [evB_eq]
  assumption
  by_cases h : (k : Int) < ns.length
  · rw [decide_eq_true h]
    assumption
    have hk : k < ns.length := by omega
    rw [at_nat (List.getElem?_eq_getElem hk)]
    assumption
    unfold cell
    rw [List.getD_eq_getElem?_getD, List.getElem?_eq_getElem hk]
    rfl
  · rw [decide_eq_false h]
    assumption
    unfold cell
    rw [List.getD_eq_getElem?_getD, List.getElem?_eq_none (by omega)]
    rfl

theorem kit4 (ns : List Int) (s m : Nat) (hs : s ≤ 100) (hm : m ≤ 100) (h0 : 0 < m) (p : Int × Int) (hp : isSz p) : ∃ l : List (Stp × Int), stkOk p l ∧ 0 < l.length ∧ l.length ≤ m ∧ g4 [.scr ns, .int (s : Int), szD p, .int (m : Int), .int 9] = .ok (.lst (stkD l)) := by
  unfold g4 b4 t4_1
  rw [evB_eq]
  assumption
  rw [rngOk_le (by decide) (by decide) (by omega) (by omega)]
  assumption
  obtain ⟨σ', ⟨l, o6, o7, o8, rfl, h1, h2, h3⟩, e⟩ := forL_P (body := fun x σ => evSs (phiR TT.M R3) TT.M L4_0 (List.set σ 6 (some x))) (σ := [some (.scr ns), some (.int (s : Int)), some (szD p), some (.int (m : Int)), some (.int 9), some (.lst []), none, none, none, none, none])
    (fun n σ => ∃ (l : List (Stp × Int)) (o6 o7 o8 : Option D), σ = [some (.scr ns), some (.int (s : Int)), some (szD p), some (.int (m : Int)), some (.int 9), some (.lst (stkD l)), o6, o7, o8, none, none] ∧ stkOk p l ∧ (0 < n → 0 < l.length) ∧ l.length ≤ n) (rngD 0 m) ⟨[], none, none, none, rfl, (fun e h => nomatch h), (fun h => absurd h (Nat.lt_irrefl _)), Nat.le_refl _⟩ (fun n x σ hx hP => by
      obtain ⟨hn, rfl⟩ := rngD_get' hx
      obtain ⟨l, o6, o7, o8, rfl, h1, h2, h3⟩ := hP
      have c := cellat3 ns (s + n)
      rw [Int.natCast_add] at c
      obtain ⟨m1, em⟩ := mixed1 (cell ns (s + n)) (n + 1) (by omega)
      obtain ⟨k, i, j, hst, es⟩ := step2 m1 p hp
      obtain ⟨b, eb⟩ := in_steps (k, i, j) l
      have eb : inD (stD k i j) (.lst (l.map fun x => sD x.1)) = .ok b := eb
      have start : evSs (phiR TT.M R3) TT.M L4_0 [some (.scr ns), some (.int (s : Int)), some (szD p), some (.int (m : Int)), some (.int 9), some (.lst (stkD l)), some (.int (n : Int)), o7, o8, none, none] = evSs (phiR TT.M R3) TT.M L4_0_2 [some (.scr ns), some (.int (s : Int)), some (szD p), some (.int (m : Int)), some (.int 9), some (.lst (stkD l)), some (.int (n : Int)), some (.int m1), some (stD k i j), none, none] := by
        unfold L4_0
        assumption
        rw [c]
        assumption
        rw [show g1 [.int (cell ns (s + n)), .int ((n : Int) + 1)] = _ from em]
        assumption
        unfold L4_0_1
        assumption
        rw [es]
        assumption
      have two : evSs (phiR TT.M R3) TT.M L4_0_2 [some (.scr ns), some (.int (s : Int)), some (szD p), some (.int (m : Int)), some (.int 9), some (.lst (stkD l)), some (.int (n : Int)), some (.int m1), some (stD k i j), none, none] = if b = true then .ok (.nx [some (.scr ns), some (.int (s : Int)), some (szD p), some (.int (m : Int)), some (.int 9), some (.lst (stkD l)), some (.int (n : Int)), some (.int m1), some (stD k i j), none, none]) else .ok (.nx [some (.scr ns), some (.int (s : Int)), some (szD p), some (.int (m : Int)), some (.int 9), some (.lst (stkD (l ++ [((k, i, j), 1 + m1 / 1000000 % 9)]))), some (.int (n : Int)), some (.int m1), some (stD k i j), none, none]) := by
        unfold L4_0_2
        assumption
        rw [decide_eq_true (show l.length ≤ 16777216 by omega)]
        assumption
        rw [comp_stk1 l fun x _ => by assumption]
        assumption
        rw [eb]
        cases b with
        | true => assumption
        | false =>
          assumption
          rw [pw106]
          assumption
          rw [show (10 : Int) ^ 6 = 1000000 from by decide]
          assumption
          rw [decide_eq_true (show l.length < 16777216 by omega)]
          assumption
          rw [stk_snoc]
      cases b with
      | true =>
        refine ⟨_, ⟨l, _, _, _, rfl, h1, fun _ => ?_, by omega⟩, .inl (start.trans (two.trans (if_pos rfl)))⟩
        refine List.length_pos_iff.mpr fun e => ?_
        subst e
        have : inD (stD k i j) (.lst []) = .ok false := by
          show (chk ((stD k i j).shaped && (D.lst []).shaped)).bind (fun _ => R.ok (anyEqv (stD k i j) [])) = _
          rw [show (stD k i j).shaped = true from sh_of (can_st (k, i, j)) (dep_st (k, i, j))]
          rfl
        rw [show (List.map (fun x : Stp × Int => sD x.1) []) = [] from rfl] at eb
        rw [this] at eb
        cases eb
      | false =>
        refine ⟨_, ⟨l ++ [((k, i, j), 1 + m1 / 1000000 % 9)], _, _, _, rfl, fun e he => ?_, fun _ => by rw [List.length_append, List.length_singleton]; omega, by rw [List.length_append, List.length_singleton]; omega⟩, .inl (start.trans (two.trans (if_neg (by decide))))⟩
        rcases List.mem_append.mp he with h | h
        · exact h1 e h
        · rw [List.mem_singleton.mp h]
          exact ⟨hst, by show 1 ≤ 1 + m1 / 1000000 % 9 ∧ 1 + m1 / 1000000 % 9 ≤ 9; omega⟩)
  rw [e]
  rw [rngD_len] at h2 h3
  unfold t4_2
  assumption
  exact ⟨l, h1, h2 h0, h3, rfl⟩

theorem row5 (xs : List Int) (hx : xs.length ≤ 1000) (l : List (Stp × Int)) (h0 : 0 < l.length) : ∃ r : List Nat, r.length = xs.length ∧ (∀ n ∈ r, n < l.length) ∧ g5 [.lst (xs.map D.int), .lst (stkD l)] = .ok (.tup (rwD r)) := by
  have hz : (0 : Int) < l.length := by omega
  unfold g5 b5
  rw [evB_eq]
  assumption
  rw [rngOk_le (by decide) (by decide) (by omega) (by omega)]
  assumption
  rw [rngD_len, decide_eq_true (show xs.length ≤ 16777216 by omega)]
  assumption
  obtain ⟨L, f1, f2, ef⟩ := compL_rng (f := fun x => ((((idxD (D.lst (List.map D.int xs)) x).bind fun x_1 => R.ok [x_1, x]).bind fun xs => g1 xs).bind fun x => binD Operator.Mod x (D.int ↑l.length)).bind fun y => R.ok (some y)) (fun x => 0 ≤ x ∧ x < (l.length : Int)) xs.length 0 (fun i h1 h2 => by
    obtain ⟨c, ec⟩ := mixed1 (xs.getD i.toNat 0) i.toNat (by omega)
    have a := in_at (l := xs) (j := i.toNat) (by omega)
    rw [show ((i.toNat : Nat) : Int) = i by omega] at ec a
    refine ⟨c % l.length, ⟨Int.emod_nonneg _ (by omega), Int.emod_lt_of_pos _ hz⟩, ?_⟩
    assumption
    rw [a]
    assumption
    rw [ec]
    assumption
    rw [bn_mod' hz]
    assumption)
  rw [ef]
  assumption
  obtain ⟨r, e1, e2, e3⟩ := ints_rw f2
  rw [e1]
  exact ⟨r, by omega, e3, rfl⟩

theorem looked6 (c : Int) (p : Int × Int) (hp : isSz p) : ∃ m, IsBx p m ∧ g6 [.int c, szD p] = .ok (.lst (m.map D.int)) := by
  obtain ⟨z1, z2, z3, z4⟩ := sz_rng hp
  unfold g6 b6 t6_1
  rw [evB_eq]
  assumption
  by_cases h : c % 5 = 0
  · rw [decide_eq_true h]
    assumption
    rw [rngOk_le (by decide) (by decide) (by omega) (by omega), decide_eq_true (show p.2.toNat ≤ 16777216 by omega)]
    assumption
    rw [rng_bx]
    exact ⟨_, all_bx p, rfl⟩
  · rw [decide_eq_false h]
    assumption
    rw [rngOk_le (by decide) (by decide) (by omega) (by omega)]
    assumption
    rw [rngD_len, decide_eq_true (show p.2.toNat ≤ 16777216 by omega)]
    assumption
    rw [rng_bx, compL_filt (fun b => decide (c / 5 / ((2 ^ b.toNat : Nat) : Int) % 2 = 1)) _ fun b hb => by
      have hb := (all_bx p).2 b hb
      have e3 : 2 ^ b.toNat ≤ 2 ^ 6 := Nat.pow_le_pow_right (by decide) (by omega)
      have e4 : 0 < 2 ^ b.toNat := Nat.two_pow_pos _
      assumption
      rw [pow_ok1 (by omega) (by omega)]
      assumption
      rw [one_shl, bn_div' (show (0 : Int) < ((2 ^ b.toNat : Nat) : Int) by omega) (by omega)]
      assumption
      cases decide (c / 5 / ((2 ^ b.toNat : Nat) : Int) % 2 = 1) <;> rfl]
    assumption
    exact ⟨_, filt_bx (all_bx p) _, rfl⟩

theorem blk8_n (p : Int × Int) (hp : isSz p) : g8 [szD p, .non] = .ok (.lst (((List.range p.2.toNat).map fun (i : Nat) => (i : Int)).map D.int)) := by
  obtain ⟨z1, z2, z3, z4⟩ := sz_rng hp
  unfold g8 b8 t8_1
  rw [evB_eq]
  assumption
  rw [rngOk_le (by decide) (by decide) (by omega) (by omega), decide_eq_true (show p.2.toNat ≤ 16777216 by omega)]
  rw [rng_bx]
  rfl
theorem blk8 (p : Int × Int) (m : List Int) : g8 [szD p, .lst (m.map D.int)] = .ok (.lst (m.map D.int)) := by
  unfold g8 b8 t8_1
  rw [evB_eq]
  assumption

theorem words9 (p : Int × Int) (h : isSz p) : g9 [szD p] = .ok (.int ((2 ^ p.1.toNat : Nat) : Int)) := by
  unfold isSz at h
  simp only [List.mem_cons, List.mem_nil_iff, or_false] at h
  rcases h with rfl | rfl | rfl | rfl | rfl | rfl | rfl | rfl | rfl | rfl | rfl | rfl | rfl | rfl
  all_goals kernel_rfl

theorem kind10_0 : g10 [.str (Str.ofString "and")] = .ok (.ins 3) := by kernel_rfl
theorem kind10_1 : g10 [.str (Str.ofString "or")] = .ok (.ins 4) := by kernel_rfl
theorem kind10_2 : g10 [.str (Str.ofString "xor")] = .ok (.ins 5) := by kernel_rfl
theorem kind10_3 : g10 [.str (Str.ofString "add")] = .ok (.ins 6) := by kernel_rfl
theorem kind10_4 : g10 [.str (Str.ofString "take")] = .ok (.ins 7) := by kernel_rfl
theorem kind10_5 : g10 [.str (Str.ofString "copy")] = .ok (.ins 8) := by kernel_rfl
theorem kind10_6 : g10 [.str (Str.ofString "put")] = .ok (.ins 9) := by kernel_rfl
theorem kind10_7 : g10 [.str (Str.ofString "not")] = .ok (.ins 0) := by kernel_rfl
theorem kind10_8 : g10 [.str (Str.ofString "up")] = .ok (.ins 1) := by kernel_rfl
theorem kind10_9 : g10 [.str (Str.ofString "down")] = .ok (.ins 2) := by kernel_rfl
theorem kind10_u0 : g10 [.str (Str.ofString "AND")] = .ok .non := by kernel_rfl
theorem kind10_u1 : g10 [.str (Str.ofString "OR")] = .ok .non := by kernel_rfl
theorem kind10_u2 : g10 [.str (Str.ofString "XOR")] = .ok .non := by kernel_rfl
theorem kind10_u3 : g10 [.str (Str.ofString "ADD")] = .ok .non := by kernel_rfl
theorem kind10_u4 : g10 [.str (Str.ofString "TAKE")] = .ok .non := by kernel_rfl
theorem kind10_u5 : g10 [.str (Str.ofString "COPY")] = .ok .non := by kernel_rfl
theorem kind10_u6 : g10 [.str (Str.ofString "PUT")] = .ok .non := by kernel_rfl
theorem kind10_u7 : g10 [.str (Str.ofString "NOT")] = .ok .non := by kernel_rfl
theorem kind10_u8 : g10 [.str (Str.ofString "UP")] = .ok .non := by kernel_rfl
theorem kind10_u9 : g10 [.str (Str.ofString "DOWN")] = .ok .non := by kernel_rfl
theorem kind10_u10 : g10 [.str (Str.ofString "nand")] = .ok .non := by kernel_rfl
theorem kind10_u11 : g10 [.str (Str.ofString "")] = .ok .non := by kernel_rfl

theorem made11 (c : Nat) (w : Str) (i : Nat) (f : List Int) (hi : i < f.length) : g11 [.ins c, .tup [.str w, .int i], tp f] = .ok (.int (-1 - f.getD i 0)) := by
  unfold g11 b11
  rw [evB_eq]
  assumption
  rw [in_at hi]
  assumption

theorem made12 (c : Nat) (w : Str) (i : Nat) (f : List Int) (hi : i < f.length) (hm : mulOk 2 (f.getD i 0) = true) : g12 [.ins c, .tup [.str w, .int i], tp f] = .ok (.int (2 * f.getD i 0)) := by
  unfold g12 b12
  rw [evB_eq]
  assumption
  rw [in_at hi]
  assumption
  rw [hm]
  assumption

theorem made13 (c : Nat) (w : Str) (i : Nat) (f : List Int) (hi : i < f.length) : g13 [.ins c, .tup [.str w, .int i], tp f] = .ok (.int (f.getD i 0 / 2)) := by
  unfold g13 b13
  rw [evB_eq]
  assumption
  rw [in_at hi]
  assumption
  rfl

theorem made14 (c : Nat) (w : Str) (i j : Nat) (f : List Int) (hi : i < f.length) (hj : j < f.length) : g14 [.ins c, .tup [.str w, .int i, .int j], tp f] = .ok (.int (Builtin.bitAnd (f.getD i 0) (f.getD j 0))) := by
  unfold g14 b14
  rw [evB_eq]
  assumption
  rw [in_at hi]
  assumption
  rw [in_at hj]
  assumption

theorem made15 (c : Nat) (w : Str) (i j : Nat) (f : List Int) (hi : i < f.length) (hj : j < f.length) : g15 [.ins c, .tup [.str w, .int i, .int j], tp f] = .ok (.int (Builtin.bitOr (f.getD i 0) (f.getD j 0))) := by
  unfold g15 b15
  rw [evB_eq]
  assumption
  rw [in_at hi]
  assumption
  rw [in_at hj]
  assumption

theorem made16 (c : Nat) (w : Str) (i j : Nat) (f : List Int) (hi : i < f.length) (hj : j < f.length) : g16 [.ins c, .tup [.str w, .int i, .int j], tp f] = .ok (.int (Builtin.bitXor (f.getD i 0) (f.getD j 0))) := by
  unfold g16 b16
  rw [evB_eq]
  assumption
  rw [in_at hi]
  assumption
  rw [in_at hj]
  assumption

theorem made17 (c : Nat) (w : Str) (i j : Nat) (f : List Int) (hi : i < f.length) (hj : j < f.length) : g17 [.ins c, .tup [.str w, .int i, .int j], tp f] = .ok (.int (f.getD i 0 + f.getD j 0)) := by
  unfold g17 b17
  rw [evB_eq]
  assumption
  rw [in_at hi]
  assumption
  rw [in_at hj]
  assumption

theorem made18 (c : Nat) (w : Str) (i j : Nat) (f : List Int) (hi : i < f.length) (hj : j < f.length) : g18 [.ins c, .tup [.str w, .int i, .int j], tp f] = .ok (.int (f.getD i 0 - f.getD j 0)) := by
  unfold g18 b18
  rw [evB_eq]
  assumption
  rw [in_at hi]
  assumption
  rw [in_at hj]
  assumption

theorem made19 (c : Nat) (w : Str) (i j : Nat) (f : List Int) (hj : j < f.length) : g19 [.ins c, .tup [.str w, .int i, .int j], tp f] = .ok (.int (f.getD j 0)) := by
  unfold g19 b19
  rw [evB_eq]
  assumption
  rw [in_at hj]
  assumption

theorem made20 (c : Nat) (w : Str) (i j : Nat) (f : List Int) : g20 [.ins c, .tup [.str w, .int i, .int j], tp f] = .ok (.int j) := by
  unfold g20 b20
  rw [evB_eq]
  assumption

theorem stepon21 (p : Int × Int) (hp : isSz p) (k i j : Nat) (h : StOk p k i j) (f : List Int) (hF : f ∈ FS p) : g21 [szD p, stD k i j, tp f] = .ok (tp (dn p k i j f)) := by
  obtain ⟨h1, h2, h3, h4⟩ := h
  obtain ⟨hf, hw⟩ := mem_FS.mp hF
  obtain ⟨z1, z2, z3, z4⟩ := sz_rng hp
  have hi : i < f.length := by omega
  have hm : (0 : Int) < ((2 ^ p.1.toNat : Nat) : Int) := by
    have := Nat.two_pow_pos p.1.toNat
    omega
  have hm2 : 2 ^ p.1.toNat ≤ 64 := Nat.pow_le_pow_right (n := 2) (by decide) (show p.1.toNat ≤ 6 by omega)
  have ha := hw (f.getD i 0) (by rw [List.getD_eq_getElem?_getD, List.getElem?_eq_getElem hi]; exact List.getElem_mem hi)
  have m2 : mulOk 2 (f.getD i 0) = true := mul_ok (k := 2) (m := 7) (by omega) (by omega) (by omega) (by omega) (by decide)
  have tail : ∀ (st : D) (x : Int), idxD st (.int 1) = .ok (.int i) → retF (evSs (phiR TT.M R20) TT.M t21_1 [some (szD p), some st, some (tp f), some (.int x), none]) = .ok (tp (f.set i x)) := fun st x e => by
    unfold t21_1
    assumption
    rw [e]
    assumption
    unfold t21_2 tp
    assumption
    have l1 := cut_len (f.map D.int) none (some (i : Int))
    have l2 := cut_len (f.map D.int) (some ((i : Int) + 1)) none
    rw [List.length_map] at l1 l2
    rw [decide_eq_true (show (cutD (f.map D.int) none (some (i : Int))).length ≤ 16777215 by omega)]
    assumption
    rw [decide_eq_true (show (cutD (f.map D.int) none (some (i : Int)) ++ [D.int x]).length + (cutD (f.map D.int) (some ((i : Int) + 1)) none).length ≤ 16777216 by rw [List.length_append]; simp only [List.length_cons, List.length_nil]; omega)]
    assumption
    rw [set_cut hi]
  unfold g21 b21
  rw [evB_eq]
  unfold dn newW
  rcases (show k = 0 ∨ k = 1 ∨ k = 2 ∨ k = 3 ∨ k = 4 ∨ k = 5 ∨ k = 6 ∨ k = 7 ∨ k = 8 ∨ k = 9 by omega) with rfl | rfl | rfl | rfl | rfl | rfl | rfl | rfl | rfl | rfl
  · rw [show stD 0 i j = .tup [.str (Str.ofString "and"), .int i, .int j] from rfl]
    assumption
    rw [kind10_0]
    assumption
    rw [made14 _ _ i j f hi (by omega)]
    assumption
    rw [words9 p hp]
    assumption
    rw [bn_mod' hm]
    assumption
    exact tail _ _ rfl
  · rw [show stD 1 i j = .tup [.str (Str.ofString "or"), .int i, .int j] from rfl]
    assumption
    rw [kind10_1]
    assumption
    rw [made15 _ _ i j f hi (by omega)]
    assumption
    rw [words9 p hp]
    assumption
    rw [bn_mod' hm]
    assumption
    exact tail _ _ rfl
  · rw [show stD 2 i j = .tup [.str (Str.ofString "xor"), .int i, .int j] from rfl]
    assumption
    rw [kind10_2]
    assumption
    rw [made16 _ _ i j f hi (by omega)]
    assumption
    rw [words9 p hp]
    assumption
    rw [bn_mod' hm]
    assumption
    exact tail _ _ rfl
  · rw [show stD 3 i j = .tup [.str (Str.ofString "add"), .int i, .int j] from rfl]
    assumption
    rw [kind10_3]
    assumption
    rw [made17 _ _ i j f hi (by omega)]
    assumption
    rw [words9 p hp]
    assumption
    rw [bn_mod' hm]
    assumption
    exact tail _ _ rfl
  · rw [show stD 4 i j = .tup [.str (Str.ofString "take"), .int i, .int j] from rfl]
    assumption
    rw [kind10_4]
    assumption
    rw [made18 _ _ i j f hi (by omega)]
    assumption
    rw [words9 p hp]
    assumption
    rw [bn_mod' hm]
    assumption
    exact tail _ _ rfl
  · rw [show stD 5 i j = .tup [.str (Str.ofString "copy"), .int i, .int j] from rfl]
    assumption
    rw [kind10_5]
    assumption
    rw [made19 _ _ i j f (by omega)]
    assumption
    rw [words9 p hp]
    assumption
    rw [bn_mod' hm]
    assumption
    exact tail _ _ rfl
  · rw [show stD 6 i j = .tup [.str (Str.ofString "put"), .int i, .int j] from rfl]
    assumption
    rw [kind10_6]
    assumption
    rw [made20 _ _ i j f]
    assumption
    rw [words9 p hp]
    assumption
    rw [bn_mod' hm]
    assumption
    exact tail _ _ rfl
  · rw [show stD 7 i j = .tup [.str (Str.ofString "not"), .int i] from rfl]
    assumption
    rw [kind10_7]
    assumption
    rw [made11 _ _ i f hi]
    assumption
    rw [words9 p hp]
    assumption
    rw [bn_mod' hm]
    assumption
    exact tail _ _ rfl
  · rw [show stD 8 i j = .tup [.str (Str.ofString "up"), .int i] from rfl]
    assumption
    rw [kind10_8]
    assumption
    rw [made12 _ _ i f hi m2]
    assumption
    rw [words9 p hp]
    assumption
    rw [bn_mod' hm]
    assumption
    exact tail _ _ rfl
  · rw [show stD 9 i j = .tup [.str (Str.ofString "down"), .int i] from rfl]
    assumption
    rw [kind10_9]
    assumption
    rw [made13 _ _ i f hi]
    assumption
    rw [words9 p hp]
    assumption
    rw [bn_mod' hm]
    assumption
    exact tail _ _ rfl

theorem rowon22 (p : Int × Int) (hp : isSz p) (l : List (Stp × Int)) (hl : stkOk p l) (r : List Nat) (hr : ∀ n ∈ r, n < l.length) (f : List Int) (hF : f ∈ FS p) : g22 [szD p, .lst (stkD l), .tup (rwD r), tp f] = .ok (tp (rowF p l r f)) := by
  unfold g22 b22
  rw [evB_eq]
  assumption
  have loop : ∀ (r : List Nat), (∀ n ∈ r, n < l.length) → ∀ (x2 : Option D) (f : List Int), f ∈ FS p → ∀ o4 : Option D, ∃ p4, forL (fun x σ => evSs (phiR TT.M R21) TT.M L22_0 (List.set σ 4 (some x))) (rwD r) [some (szD p), some (.lst (stkD l)), x2, some (tp f), o4] = .ok (.nx [some (szD p), some (.lst (stkD l)), x2, some (tp (rowF p l r f)), p4]) := fun r => by
    induction r with
    | nil => exact fun _ x2 f _ o4 => ⟨o4, by show forL _ [] _ = _; rw [fo_n]; rfl⟩
    | cons n r ih =>
      intro hr x2 f hf o4
      have hn := hr n (List.mem_cons_self ..)
      obtain ⟨p4, e⟩ := ih (fun m hm => hr m (List.mem_cons_of_mem _ hm)) x2 (dnS p (stf l n) f) (dn_mem hf) (some (.int (n : Int)))
      refine ⟨p4, ?_⟩
      show forL _ (D.int (n : Int) :: rwD r) _ = _
      rw [fo_c]
      unfold L22_0
      assumption
      rw [stk_get hn]
      assumption
      rw [stepon21 p hp _ _ _ (stk_ok hl hn).1 f hf]
      assumption
      exact e
  obtain ⟨p4, e⟩ := loop r hr (some (.tup (rwD r))) f hF none
  rw [e]
  unfold t22_1
  assumption

theorem fill23 (p : Int × Int) (h : isSz p) : g23 [szD p] = .ok (.lst (fs (FS p))) := by
  unfold isSz at h
  simp only [List.mem_cons, List.mem_nil_iff, or_false] at h
  rcases h with rfl | rfl | rfl | rfl | rfl | rfl | rfl | rfl | rfl | rfl | rfl | rfl | rfl | rfl
  all_goals kernel_rfl

theorem table24 (p : Int × Int) (hp : isSz p) (l : List (Stp × Int)) (hl : stkOk p l) (r : List Nat) (hr : ∀ n ∈ r, n < l.length) : g24 [szD p, .lst (stkD l), .tup (rwD r)] = .ok (.tup (fs (tabF p l r))) := by
  obtain ⟨F0, F1⟩ := FS_len hp
  unfold tabF g24 b24
  rw [evB_eq]
  assumption
  rw [fill23 p hp]
  assumption
  rw [compL_fs (rowF p l r) (FS p) fun f hf => by
    assumption
    rw [rowon22 p hp l hl r hr f hf]
    assumption]
  assumption
  rw [decide_eq_true (show (FS p).length ≤ 16777216 by omega)]
  assumption

theorem num27 (p : Int × Int) (h : isSz p) : ∀ f ∈ FS p, g27 [szD p, tp f] = .ok (.int (numF p f : Nat)) := by
  have e : (FS p).map (fun f => g27 [szD p, tp f]) = (FS p).map fun f => R.ok (D.int (numF p f : Nat)) := by
    unfold isSz at h
    simp only [List.mem_cons, List.mem_nil_iff, or_false] at h
    rcases h with rfl | rfl | rfl | rfl | rfl | rfl | rfl | rfl | rfl | rfl | rfl | rfl | rfl | rfl
    all_goals kernel_rfl
  exact List.map_inj_left.mp e

theorem cells29 (ns : List Int) (s : Nat) (c : Int) (h0 : 0 ≤ c) (h1 : c ≤ 1000) : ∃ xs : List Int, xs.length = c.toNat ∧ g29 [.scr ns, .int (s : Int), .int c] = .ok (.lst (xs.map D.int)) := by
  unfold g29 b29
  rw [evB_eq]
  assumption
  rw [rngOk_le (by decide) (by decide) h0 (by omega)]
  assumption
  rw [rngD_len, decide_eq_true (show c.toNat ≤ 16777216 by omega)]
  assumption
  obtain ⟨L, f1, _, ef⟩ := compL_rng (f := fun x => ((((binD Operator.Add (D.int ↑s) x).bind fun x => R.ok [x]).bind fun xs => R.ok (D.scr ns :: xs)).bind fun xs => g3 xs).bind fun y => R.ok (some y)) (fun _ => True) c.toNat 0 (fun i h1 h2 => by
    have e := cellat3 ns (s + i.toNat)
    rw [Int.natCast_add, show ((i.toNat : Nat) : Int) = i by omega] at e
    refine ⟨cell ns (s + i.toNat), True.intro, ?_⟩
    assumption
    rw [e]
    assumption)
  rw [ef]
  assumption
  exact ⟨L, f1, rfl⟩

theorem misses30 (p : Int × Int) (hp : isSz p) (w : List (Option (List (List Int)))) (t : List (List Int)) (hw : w.length = (FS p).length) (ht : t.length = (FS p).length) : g30 [szD p, .lst (ws w), .tup (fs t)] = .ok (mD (FS p) w t) := by
  unfold g30 b30
  rw [evB_eq]
  assumption
  rw [fill23 p hp]
  assumption
  generalize FS p = F at *
  rcases forL_S (body := fun x σ => (bindT (.many [3, 4]) x σ).bind (evSs (phiR TT.M R29) TT.M L30_0)) (σ := [some (szD p), some (.lst (ws w)), some (.tup (fs t)), none, none])
    (fun _ σ => ∃ o3 o4 : Option D, σ = [some (szD p), some (.lst (ws w)), some (.tup (fs t)), o3, o4]) (enumD 0 (fs F)) (missR F w t) ⟨_, _, rfl⟩ (fun i x σ hx hP => by
      obtain ⟨f, hf, rfl⟩ := enum_inv hx
      have hi := (List.getElem?_eq_some_iff.mp hf).1
      obtain ⟨o3, o4, rfl⟩ := hP
      obtain ⟨y, _, hy⟩ := get_lt (xs := w) (i := i) (by omega)
      obtain ⟨x, _, hx⟩ := get_lt (xs := t) (i := i) (by omega)
      have ey := ws_at hy
      have ex := fs_at hx
      unfold missR
      rw [hy, hx, hf]
      cases y with
      | none =>
        refine .inl ⟨rfl, _, ⟨some (.int i), some (tp f), rfl⟩, ?_⟩
        unfold wo at ey
        unfold L30_0
        assumption
        rw [ey]
        assumption
      | some ls =>
        unfold wo at ey
        by_cases hm : x ∈ ls
        · refine .inl ⟨if_pos hm, _, ⟨some (.int i), some (tp f), rfl⟩, ?_⟩
          unfold L30_0
          assumption
          rw [ey]
          assumption
          rw [ex]
          assumption
          rw [decide_eq_true hm]
          assumption
        · refine .inr ⟨_, if_neg hm, ?_⟩
          unfold L30_0
          assumption
          rw [ey]
          assumption
          rw [ex]
          assumption
          rw [decide_eq_false hm]
          assumption) with ⟨i, d, h1, h2, h3, e⟩ | ⟨h1, σ', ⟨o3, o4, rfl⟩, e⟩
  · rw [e]
    assumption
    unfold mD
    rw [enumD_len, fs_len] at h1
    rw [firstR_some h1 h2 h3]
    rfl
  · rw [e]
    unfold t30_1
    assumption
    unfold mD
    rw [enumD_len, fs_len] at h1
    rw [firstR_none h1]
    rfl

theorem does31 (p : Int × Int) (hp : isSz p) (w : List (Option (List (List Int)))) (t : List (List Int)) (hw : w.length = (FS p).length) (ht : t.length = (FS p).length) : (mD (FS p) w t = .non ∧ g31 [szD p, .lst (ws w), .tup (fs t)] = .ok (.bl true)) ∨ ((∃ f, mD (FS p) w t = tp f) ∧ g31 [szD p, .lst (ws w), .tup (fs t)] = .ok (.bl false)) := by
  unfold g31 b31
  rw [evB_eq]
  assumption
  rw [misses30 p hp w t hw ht]
  rcases mD_cases (FS p) w t with e | ⟨f, e⟩
  · left
    refine ⟨e, ?_⟩
    rw [e]
    assumption
  · right
    refine ⟨⟨f, e⟩, ?_⟩
    rw [e]
    assumption

theorem lall33 (p : Int × Int) (h : isSz p) : g33 [szD p] = .ok (.lst (fs (FS p))) := by
  unfold isSz at h
  simp only [List.mem_cons, List.mem_nil_iff, or_false] at h
  rcases h with rfl | rfl | rfl | rfl | rfl | rfl | rfl | rfl | rfl | rfl | rfl | rfl | rfl | rfl
  all_goals kernel_rfl

theorem sn34 (p : Int × Int) (hp : isSz p) (f : List Int) (hf : f ∈ FS p) (m : List Int) (hm : IsBx p m) : g34 [tp f, .lst (m.map D.int)] = .ok (.lst ((snB m f).map D.int)) := by
  obtain ⟨z1, z2, z3, z4⟩ := sz_rng hp
  have lm := pw_len hm
  have lf := (mem_FS.mp hf).1
  unfold g34 b34
  rw [evB_eq]
  assumption
  rw [decide_eq_true (show m.length ≤ 16777216 by omega)]
  assumption
  rw [compL_ii (fun b => f.getD b.toNat 0) m fun b hb => by
    have := hm.2 b hb
    have a := in_at (l := f) (j := b.toNat) (by omega)
    rw [show ((b.toNat : Nat) : Int) = b by omega] at a
    unfold tp
    assumption
    rw [a]
    assumption]
  assumption
  rfl

theorem lword35 (p : Int × Int) (hp : isSz p) (k i j : Nat) (h : StOk p k i j) (f : List Int) (hF : f ∈ FS p) : ∃ w : Int, g35 [szD p, stD k i j, tp f] = .ok (.int w) ∧ w % ((2 ^ p.1.toNat : Nat) : Int) = newW p k i j f := by
  obtain ⟨h1, h2, h3, h4⟩ := h
  obtain ⟨hf, hw⟩ := mem_FS.mp hF
  obtain ⟨z1, z2, z3, z4⟩ := sz_rng hp
  have hi : i < f.length := by omega
  have hm := two_pos p
  have hm2 := two_le hp
  have ha := FS_at hF h2
  have m2 : mulOk 2 (f.getD i 0) = true := mul_ok (k := 2) (m := 7) (by omega) (by omega) (by omega) (by omega) (by decide)
  have ai : getAt (f.map D.int) (i : Int) = .ok (.int (f.getD i 0)) := in_at hi
  unfold g35 b35 t35_1
  rw [evB_eq]
  unfold newW tp
  rcases (show k = 0 ∨ k = 1 ∨ k = 2 ∨ k = 3 ∨ k = 4 ∨ k = 5 ∨ k = 6 ∨ k = 7 ∨ k = 8 ∨ k = 9 by omega) with rfl | rfl | rfl | rfl | rfl | rfl | rfl | rfl | rfl | rfl
  · rw [show stD 0 i j = .tup [.str (Str.ofString "and"), .int i, .int j] from rfl]
    assumption
    rw [ai]
    assumption
    rw [wq0_not]
    assumption
    unfold t35_2
    assumption
    rw [wq0_up]
    assumption
    unfold t35_3
    assumption
    rw [wq0_down]
    assumption
    unfold t35_4
    assumption
    unfold t35_5
    assumption
    rw [show getAt (f.map D.int) (j : Int) = _ from in_at (show j < f.length by have := h3 (by decide); omega)]
    assumption
    unfold t35_6
    assumption
    rw [wq0_and]
    assumption
    exact ⟨_, rfl, rfl⟩
  · rw [show stD 1 i j = .tup [.str (Str.ofString "or"), .int i, .int j] from rfl]
    assumption
    rw [ai]
    assumption
    rw [wq1_not]
    assumption
    unfold t35_2
    assumption
    rw [wq1_up]
    assumption
    unfold t35_3
    assumption
    rw [wq1_down]
    assumption
    unfold t35_4
    assumption
    unfold t35_5
    assumption
    rw [show getAt (f.map D.int) (j : Int) = _ from in_at (show j < f.length by have := h3 (by decide); omega)]
    assumption
    unfold t35_6
    assumption
    rw [wq1_and]
    assumption
    unfold t35_7
    assumption
    rw [wq1_or]
    assumption
    exact ⟨_, rfl, rfl⟩
  · rw [show stD 2 i j = .tup [.str (Str.ofString "xor"), .int i, .int j] from rfl]
    assumption
    rw [ai]
    assumption
    rw [wq2_not]
    assumption
    unfold t35_2
    assumption
    rw [wq2_up]
    assumption
    unfold t35_3
    assumption
    rw [wq2_down]
    assumption
    unfold t35_4
    assumption
    unfold t35_5
    assumption
    rw [show getAt (f.map D.int) (j : Int) = _ from in_at (show j < f.length by have := h3 (by decide); omega)]
    assumption
    unfold t35_6
    assumption
    rw [wq2_and]
    assumption
    unfold t35_7
    assumption
    rw [wq2_or]
    assumption
    unfold t35_8
    assumption
    rw [wq2_xor]
    assumption
    exact ⟨_, rfl, rfl⟩
  · rw [show stD 3 i j = .tup [.str (Str.ofString "add"), .int i, .int j] from rfl]
    assumption
    rw [ai]
    assumption
    rw [wq3_not]
    assumption
    unfold t35_2
    assumption
    rw [wq3_up]
    assumption
    unfold t35_3
    assumption
    rw [wq3_down]
    assumption
    unfold t35_4
    assumption
    unfold t35_5
    assumption
    rw [show getAt (f.map D.int) (j : Int) = _ from in_at (show j < f.length by have := h3 (by decide); omega)]
    assumption
    unfold t35_6
    assumption
    rw [wq3_and]
    assumption
    unfold t35_7
    assumption
    rw [wq3_or]
    assumption
    unfold t35_8
    assumption
    rw [wq3_xor]
    assumption
    unfold t35_9
    assumption
    (try rw [wq3_add])
    assumption
    exact ⟨_, rfl, rfl⟩
  · rw [show stD 4 i j = .tup [.str (Str.ofString "take"), .int i, .int j] from rfl]
    assumption
    rw [ai]
    assumption
    rw [wq4_not]
    assumption
    unfold t35_2
    assumption
    rw [wq4_up]
    assumption
    unfold t35_3
    assumption
    rw [wq4_down]
    assumption
    unfold t35_4
    assumption
    unfold t35_5
    assumption
    rw [show getAt (f.map D.int) (j : Int) = _ from in_at (show j < f.length by have := h3 (by decide); omega)]
    assumption
    unfold t35_6
    assumption
    rw [wq4_and]
    assumption
    unfold t35_7
    assumption
    rw [wq4_or]
    assumption
    unfold t35_8
    assumption
    rw [wq4_xor]
    assumption
    unfold t35_9
    assumption
    (try rw [wq4_add])
    assumption
    unfold t35_10
    assumption
    (try rw [wq4_take])
    assumption
    exact ⟨_, rfl, rfl⟩
  · rw [show stD 5 i j = .tup [.str (Str.ofString "copy"), .int i, .int j] from rfl]
    assumption
    rw [ai]
    assumption
    rw [wq5_not]
    assumption
    unfold t35_2
    assumption
    rw [wq5_up]
    assumption
    unfold t35_3
    assumption
    rw [wq5_down]
    assumption
    unfold t35_4
    assumption
    unfold t35_5
    assumption
    rw [show getAt (f.map D.int) (j : Int) = _ from in_at (show j < f.length by have := h3 (by decide); omega)]
    assumption
    unfold t35_6
    assumption
    rw [wq5_and]
    assumption
    unfold t35_7
    assumption
    rw [wq5_or]
    assumption
    unfold t35_8
    assumption
    rw [wq5_xor]
    assumption
    unfold t35_9
    assumption
    (try rw [wq5_add])
    assumption
    unfold t35_10
    assumption
    (try rw [wq5_take])
    assumption
    unfold t35_11
    assumption
    exact ⟨_, rfl, rfl⟩
  · rw [show stD 6 i j = .tup [.str (Str.ofString "put"), .int i, .int j] from rfl]
    assumption
    rw [ai]
    assumption
    rw [wq6_not]
    assumption
    unfold t35_2
    assumption
    rw [wq6_up]
    assumption
    unfold t35_3
    assumption
    rw [wq6_down]
    assumption
    unfold t35_4
    assumption
    exact ⟨_, rfl, rfl⟩
  · rw [show stD 7 i j = .tup [.str (Str.ofString "not"), .int i] from rfl]
    assumption
    rw [ai]
    assumption
    rw [wq7_not]
    assumption
    rw [pow_ok1 (show 0 ≤ p.1 by omega) (by omega)]
    assumption
    rw [one_shl]
    exact ⟨_, rfl, by rw [show ((2 ^ p.1.toNat : Nat) : Int) - 1 - f.getD i 0 = (-1 - f.getD i 0) + ((2 ^ p.1.toNat : Nat) : Int) by omega, Int.add_emod_right]; rfl⟩
  · rw [show stD 8 i j = .tup [.str (Str.ofString "up"), .int i] from rfl]
    assumption
    rw [ai]
    assumption
    rw [wq8_not]
    assumption
    unfold t35_2
    assumption
    rw [wq8_up]
    assumption
    rw [m2]
    assumption
    exact ⟨_, rfl, rfl⟩
  · rw [show stD 9 i j = .tup [.str (Str.ofString "down"), .int i] from rfl]
    assumption
    rw [ai]
    assumption
    rw [wq9_not]
    assumption
    unfold t35_2
    assumption
    rw [wq9_up]
    assumption
    unfold t35_3
    assumption
    rw [wq9_down]
    assumption
    exact ⟨_, rfl, rfl⟩

theorem lmade36 (p : Int × Int) (hp : isSz p) (k i j : Nat) (h : StOk p k i j) (f : List Int) (hF : f ∈ FS p) : g36 [szD p, stD k i j, tp f] = .ok (tp (dn p k i j f)) := by
  obtain ⟨z1, z2, z3, z4⟩ := sz_rng hp
  have lf := (mem_FS.mp hF).1
  have hi : i < f.length := by have := h.h2; omega
  have hm := two_pos p
  obtain ⟨w, ew, e2⟩ := lword35 p hp k i j h f hF
  unfold g36 b36 t36_1
  rw [evB_eq]
  assumption
  rw [ew]
  assumption
  rw [pow_ok1 (show 0 ≤ p.1 by omega) (by omega)]
  assumption
  rw [one_shl, bn_mod' hm]
  assumption
  rw [st1]
  unfold tp
  assumption
  have l1 := cut_len (f.map D.int) none (some (i : Int))
  have l2 := cut_len (f.map D.int) (some ((i : Int) + 1)) none
  rw [List.length_map] at l1 l2
  rw [decide_eq_true (show (cutD (f.map D.int) none (some (i : Int))).length ≤ 16777215 by omega)]
  assumption
  rw [e2]
  rw [decide_eq_true (show (cutD (f.map D.int) none (some (i : Int)) ++ [D.int (newW p k i j f)]).length + (cutD (f.map D.int) (some ((i : Int) + 1)) none).length ≤ 16777216 by rw [List.length_append]; simp only [List.length_cons, List.length_nil]; omega)]
  assumption
  rw [set_cut hi]
  rfl

theorem ldone37 (p : Int × Int) (hp : isSz p) (l : List (Stp × Int)) (hl : stkOk p l) (r : List Nat) (hr : ∀ n ∈ r, n < l.length) (f : List Int) (hF : f ∈ FS p) : g37 [szD p, .lst (stkD l), .tup (rwD r), tp f] = .ok (tp (rowF p l r f)) := by
  unfold g37 b37
  rw [evB_eq]
  assumption
  have loop : ∀ (r : List Nat), (∀ n ∈ r, n < l.length) → ∀ (x2 : Option D) (f : List Int), f ∈ FS p → ∀ o4 : Option D, ∃ p4, forL (fun x σ => evSs (phiR TT.M R36) TT.M L37_0 (List.set σ 4 (some x))) (rwD r) [some (szD p), some (.lst (stkD l)), x2, some (tp f), o4] = .ok (.nx [some (szD p), some (.lst (stkD l)), x2, some (tp (rowF p l r f)), p4]) := fun r => by
    induction r with
    | nil => exact fun _ x2 f _ o4 => ⟨o4, by show forL _ [] _ = _; rw [fo_n]; rfl⟩
    | cons n r ih =>
      intro hr x2 f hf o4
      have hn := hr n (List.mem_cons_self ..)
      obtain ⟨p4, e⟩ := ih (fun m hm => hr m (List.mem_cons_of_mem _ hm)) x2 (dnS p (stf l n) f) (dn_mem hf) (some (.int (n : Int)))
      refine ⟨p4, ?_⟩
      show forL _ (D.int (n : Int) :: rwD r) _ = _
      rw [fo_c]
      unfold L37_0
      assumption
      rw [stk_get hn]
      assumption
      rw [lmade36 p hp _ _ _ (stk_ok hl hn).1 f hf]
      assumption
      exact e
  obtain ⟨p4, e⟩ := loop r hr (some (.tup (rwD r))) f hF none
  rw [e]
  unfold t37_1
  assumption

theorem size0 (c : Int) : ∃ p, isSz p ∧ g0 [.int c] = .ok (szD p) := by
  unfold g0 b0 t0_1
  rw [evB_eq]
  assumption
  have h0 : 0 ≤ c % 8 ∧ c % 8 < 8 := by omega
  generalize c % 8 = r at *
  have : r = 0 ∨ r = 1 ∨ r = 2 ∨ r = 3 ∨ r = 4 ∨ r = 5 ∨ r = 6 ∨ r = 7 := by omega
  rcases this with rfl | rfl | rfl | rfl | rfl | rfl | rfl | rfl
  all_goals exact ⟨(_, _), (by unfold isSz; decide), rfl⟩
theorem look7 (r : List Nat) (a b : Nat) (h1 : 1 ≤ b) (h2 : a + b ≤ r.length) : g7 [.tup (rwD r), .int (a : Int), .int (b : Int)] = .ok .non := by
  unfold g7 b7
  rw [evB_eq]
  assumption
  rw [decide_eq_false (show ¬ (a : Int) < 0 by omega)]
  assumption
  rw [decide_eq_false (show ¬ (b : Int) < 1 by omega)]
  assumption
  rw [decide_eq_false (show ¬ (r.length : Int) < (a : Int) + b by omega)]
  assumption
theorem sn25 (p : Int × Int) (hp : isSz p) (f : List Int) (hf : f ∈ FS p) (m : List Int) (hm : IsBx p m) : g25 [tp f, .lst (m.map D.int)] = .ok (tp (snB m f)) := by
  obtain ⟨z1, z2, z3, z4⟩ := sz_rng hp
  have lm := pw_len hm
  have lf := (mem_FS.mp hf).1
  unfold g25 b25
  rw [evB_eq]
  assumption
  rw [decide_eq_true (show m.length ≤ 16777216 by omega)]
  assumption
  rw [compL_ii (fun b => f.getD b.toNat 0) m fun b hb => by
    have := hm.2 b hb
    have a := in_at (l := f) (j := b.toNat) (by omega)
    rw [show ((b.toNat : Nat) : Int) = b by omega] at a
    unfold tp
    assumption
    rw [a]
    assumption]
  assumption
  rfl
theorem bysight26 (p : Int × Int) (hp : isSz p) (l : List (Stp × Int)) (c : List Nat) (m : List Int) (hm : IsBx p m) : ∃ L, GOk (fun f => snB m (rowF p l c f)) (FS p) L ∧ g26 [szD p, .tup (fs (tabF p l c)), .lst (m.map D.int)] = .ok (fdD L) := by
  obtain ⟨F0, F1⟩ := FS_len hp
  unfold g26 b26
  rw [evB_eq]
  assumption
  unfold t26_1
  assumption
  rw [fill23 p hp]
  assumption
  have zz : ∀ B : List (List Int), zipD (fs B) (fs (B.map (rowF p l c))) = B.map fun f => .tup [tp f, tp (rowF p l c f)] := fun B => by
    induction B with
    | nil => rfl
    | cons f B ih => exact congrArg (_ :: ·) ih
  have loop : ∀ (C B : List (List Int)) (L : FL2) (o4 o5 : Option D), (∀ f ∈ C, f ∈ FS p) → B.length + C.length ≤ 64 → GOk (fun f => snB m (rowF p l c f)) B L → ∃ L' p4 p5, GOk (fun f => snB m (rowF p l c f)) (B ++ C) L' ∧ forL (fun x σ => (bindT (.many [4, 5]) x σ).bind (evSs (phiR TT.M R25) TT.M L26_0)) (C.map fun f => .tup [tp f, tp (rowF p l c f)]) [some (szD p), some (.tup (fs (tabF p l c))), some (.lst (m.map D.int)), some (fdD L), o4, o5] = .ok (.nx [some (szD p), some (.tup (fs (tabF p l c))), some (.lst (m.map D.int)), some (fdD L'), p4, p5]) := fun C => by
    induction C with
    | nil =>
      intro B L o4 o5 _ _ g
      exact ⟨L, o4, o5, by rw [List.append_nil]; exact g, rfl⟩
    | cons f C ih =>
      intro B L o4 o5 hC hz g
      rw [List.length_cons] at hz
      have hf := hC f (List.mem_cons_self ..)
      obtain ⟨d1, L1, e1, e2, g1⟩ := g.next f (by omega)
      obtain ⟨L', p4, p5, g', e⟩ := ih (B ++ [f]) L1 (some (tp f)) (some (tp (rowF p l c f))) (fun x hx => hC x (List.mem_cons_of_mem _ hx)) (by rw [List.length_append, List.length_singleton]; omega) g1
      refine ⟨L', p4, p5, by rw [List.append_assoc] at g'; exact g', ?_⟩
      rw [List.map_cons, fo_c]
      unfold L26_0
      assumption
      rw [st_sdp]
      assumption
      rw [sn25 p hp _ (rowF_mem hf) m hm]
      assumption
      rw [e1]
      assumption
      rw [e2]
      assumption
      exact e
  obtain ⟨L, p4, p5, g, e⟩ := loop (FS p) [] [] none none (fun f hf => hf) (by rw [List.length_nil]; omega) ⟨List.nodup_nil, (fun s d h => nomatch h), (fun f h => nomatch h), Nat.le_refl _⟩
  refine ⟨L, g, ?_⟩
  rw [← zz] at e
  rw [show forL (fun x σ => (bindT (.many [4, 5]) x σ).bind (evSs (phiR TT.M R25) TT.M L26_0)) (zipD (fs (FS p)) (fs (tabF p l c))) [some (szD p), some (.tup (fs (tabF p l c))), some (.lst (m.map D.int)), some (.dct []), none, none] = _ from e]
  assumption
  unfold t26_2
  assumption
theorem win28 (p : Int × Int) (hp : isSz p) (l : List (Stp × Int)) (hl : stkOk p l) (r : List Nat) (hr : ∀ n ∈ r, n < l.length) (i k : Nat) (h1 : 1 ≤ k) (h2 : i + k ≤ r.length) (m : List Int) (hm : IsBx p m) (lk : D) (hlk : g8 [szD p, lk] = .ok (.lst (m.map D.int))) : g28 [szD p, .lst (stkD l), .tup (rwD r), .int (i : Int), .int (k : Int), lk] = .ok (.lst (ws (winW p l (r.take i) ((r.drop i).take k) (r.drop (i + k)) m))) := by
  obtain ⟨F0, F1⟩ := FS_len hp
  have ra : ∀ n ∈ r.take i, n < l.length := fun n hn => hr n (List.mem_of_mem_take hn)
  have rb : ∀ n ∈ (r.drop i).take k, n < l.length := fun n hn => hr n (List.mem_of_mem_drop (List.mem_of_mem_take hn))
  have rc : ∀ n ∈ r.drop (i + k), n < l.length := fun n hn => hr n (List.mem_of_mem_drop hn)
  have ca : cutD (rwD r) none (some (i : Int)) = rwD (r.take i) := row_cut (by omega)
  have cb : cutD (rwD r) (some (i : Int)) (some ((i : Int) + k)) = rwD ((r.drop i).take k) := by
    rw [show (i : Int) + k = ((i + k : Nat) : Int) by omega, cut_nat (by omega) (by rw [rw_len]; exact h2), show i + k - i = k by omega]
    unfold rwD
    rw [List.map_take, List.map_drop]
  have cc : cutD (rwD r) (some ((i : Int) + k)) none = rwD (r.drop (i + k)) := by
    rw [show (i : Int) + k = ((i + k : Nat) : Int) by omega, cut_drop (by rw [rw_len]; exact h2)]
    unfold rwD
    rw [List.map_drop]
  generalize r.take i = a at *
  generalize (r.drop i).take k = b at *
  generalize r.drop (i + k) = c at *
  unfold g28 b28
  rw [evB_eq]
  assumption
  rw [st_exp]
  assumption
  rw [look7 r i k h1 h2]
  assumption
  unfold t28_1
  assumption
  rw [hlk]
  assumption
  unfold t28_2
  assumption
  unfold t28_3
  assumption
  rw [ca, table24 p hp l hl a ra]
  assumption
  have loop : ∀ (C K : List (List Int)) (o8 : Option D), K.length + C.length ≤ 64 → ∃ K' p8, (∀ f, f ∈ K' ↔ f ∈ K ∨ f ∈ C) ∧ forL (fun x σ => evSs (phiR TT.M R27) TT.M L28_0 (List.set σ 8 (some x))) (fs C) [some (szD p), some (.lst (stkD l)), some (.tup (rwD r)), some (.int (i : Int)), some (.int (k : Int)), some lk, some (.lst (m.map D.int)), some (fdD (truF K)), o8, none, none, none, none, none] = .ok (.nx [some (szD p), some (.lst (stkD l)), some (.tup (rwD r)), some (.int (i : Int)), some (.int (k : Int)), some lk, some (.lst (m.map D.int)), some (fdD (truF K')), p8, none, none, none, none, none]) := fun C => by
    induction C with
    | nil =>
      intro K o8 _
      exact ⟨K, o8, fun f => ⟨.inl, fun z => z.elim id fun q => nomatch q⟩, rfl⟩
    | cons f C ih =>
      intro K o8 hz
      rw [List.length_cons] at hz
      have il := ins_len (K := K) (f := f)
      obtain ⟨K', p8, k1, e⟩ := ih (insF K f) (some (tp f)) (by omega)
      refine ⟨K', p8, fun g => ?_, ?_⟩
      · rw [k1, in_ins, List.mem_cons]
        exact ⟨fun z => z.elim (fun z => z.elim .inl fun z => .inr (.inl z)) fun z => .inr (.inr z), fun z => z.elim (fun z => .inl (.inl z)) fun z => z.elim (fun z => .inl (.inr z)) .inr⟩
      · show forL _ (tp f :: fs C) _ = _
        rw [fo_c]
        unfold L28_0
        assumption
        rw [mu_tru K f (by omega)]
        assumption
        exact e
  obtain ⟨K, p8, k1, e⟩ := loop (tabF p l a) [] none (by rw [tabF_len, List.length_nil]; omega)
  rw [show forL (fun x σ => evSs (phiR TT.M R27) TT.M L28_0 (List.set σ 8 (some x))) (fs (tabF p l a)) [some (szD p), some (.lst (stkD l)), some (.tup (rwD r)), some (.int (i : Int)), some (.int (k : Int)), some lk, some (.lst (m.map D.int)), some (.dct []), none, none, none, none, none, none] = _ from e]
  assumption
  unfold t28_4
  assumption
  rw [cb, table24 p hp l hl b rb]
  assumption
  unfold t28_5
  assumption
  rw [cc, table24 p hp l hl c rc]
  assumption
  unfold t28_6
  assumption
  obtain ⟨L, gL, eL⟩ := bysight26 p hp l c m hm
  rw [eL]
  assumption
  unfold t28_7
  assumption
  unfold t28_8
  assumption
  rw [fill23 p hp]
  assumption
  have zz : ∀ B : List (List Int), zipD (fs B) (fs (B.map (rowF p l b))) = B.map fun f => .tup [tp f, tp (rowF p l b f)] := fun B => by
    induction B with
    | nil => rfl
    | cons f B ih => exact congrArg (_ :: ·) ih
  have in_K : ∀ f, inD (tp f) (fdD (truF K)) = .ok (decide (f ∈ tabF p l a)) := fun f => by
    rw [in_fdD, keys_tru]
    refine congrArg R.ok (decide_eq_decide.mpr ((k1 f).trans ⟨fun z => z.elim (fun q => nomatch q) id, .inr⟩))
  generalize fdD (truF K) = KD at *
  have loop2 : ∀ (C : List (List Int)) (U : Wsh) (o8 o13 : Option D), (∀ f ∈ C, f ∈ FS p) → U.length + C.length ≤ 64 → ∃ p8 p13, forL (fun x σ => (bindT (.many [8, 13]) x σ).bind (evSs (phiR TT.M R27) TT.M L28_1)) (C.map fun f => .tup [tp f, tp (rowF p l b f)]) [some (szD p), some (.lst (stkD l)), some (.tup (rwD r)), some (.int (i : Int)), some (.int (k : Int)), some lk, some (.lst (m.map D.int)), some KD, o8, some (.tup (fs (tabF p l b))), some (.tup (fs (tabF p l c))), some (fdD L), some (.lst (ws U)), o13] = .ok (.nx [some (szD p), some (.lst (stkD l)), some (.tup (rwD r)), some (.int (i : Int)), some (.int (k : Int)), some lk, some (.lst (m.map D.int)), some KD, p8, some (.tup (fs (tabF p l b))), some (.tup (fs (tabF p l c))), some (fdD L), some (.lst (ws (U ++ C.map fun f => if f ∈ tabF p l a then some ((FS p).filter fun g => decide (snB m (rowF p l c g) = snB m (rowF p l c (rowF p l b f)))) else none))), p13]) := fun C => by
    induction C with
    | nil =>
      intro U o8 o13 _ _
      refine ⟨o8, o13, ?_⟩
      rw [List.map_nil, List.map_nil, List.append_nil]
      rfl
    | cons f C ih =>
      intro U o8 o13 hC hz
      rw [List.length_cons] at hz
      have hf := hC f (List.mem_cons_self ..)
      have hg : rowF p l b f ∈ FS p := rowF_mem hf
      obtain ⟨p8, p13, e⟩ := ih (U ++ [if f ∈ tabF p l a then some ((FS p).filter fun g => decide (snB m (rowF p l c g) = snB m (rowF p l c (rowF p l b f)))) else none]) (some (tp f)) (some (tp (rowF p l b f))) (fun x hx => hC x (List.mem_cons_of_mem _ hx)) (by rw [List.length_append, List.length_singleton]; omega)
      refine ⟨p8, p13, ?_⟩
      rw [List.append_assoc] at e
      rw [List.map_cons, fo_c, List.map_cons]
      by_cases q : f ∈ tabF p l a
      · rw [if_pos q] at e ⊢
        unfold L28_1
        assumption
        rw [in_K, decide_eq_true q]
        assumption
        rw [num27 p hp _ hg]
        assumption
        rw [fs_at (getD_at (by rw [tabF_len]; exact num_lt hp hg))]
        assumption
        rw [show (tabF p l c).getD (numF p (rowF p l b f)) [] = rowF p l c (rowF p l b f) from by
          unfold tabF
          rw [map_getD (d := []) (num_lt hp hg), FS_getD hp hg]]
        rw [sn25 p hp _ (rowF_mem hg) m hm]
        assumption
        rw [gL.get hg]
        assumption
        rw [decide_eq_true (show U.length < 16777216 by omega)]
        assumption
        rw [ws_snocS]
        exact e
      · rw [if_neg q] at e ⊢
        unfold L28_1
        assumption
        rw [in_K, decide_eq_false q]
        assumption
        rw [decide_eq_true (show U.length < 16777216 by omega)]
        assumption
        rw [ws_snocN]
        exact e
  obtain ⟨p8', p13, e2⟩ := loop2 (FS p) [] p8 none (fun f hf => hf) (by rw [List.length_nil]; omega)
  rw [← zz] at e2
  rw [show forL (fun x σ => (bindT (.many [8, 13]) x σ).bind (evSs (phiR TT.M R27) TT.M L28_1)) (zipD (fs (FS p)) (fs (tabF p l b))) [some (szD p), some (.lst (stkD l)), some (.tup (rwD r)), some (.int (i : Int)), some (.int (k : Int)), some lk, some (.lst (m.map D.int)), some KD, p8, some (.tup (fs (tabF p l b))), some (.tup (fs (tabF p l c))), some (fdD L), some (.lst []), none] = _ from e2]
  assumption
  unfold t28_9
  assumption
  rfl
theorem other32 (c : Int) (k : Nat) (hk : k ≤ 900) (l : List (Stp × Int)) (l0 : 0 < l.length) : ∃ q : List Nat, q.length ≤ 4 ∧ (∀ n ∈ q, n < l.length) ∧ g32 [.int c, .int (k : Int), .lst (stkD l)] = .ok (.tup (rwD q)) := by
  obtain ⟨m, em⟩ := mixed1 c (k + 40) (by omega)
  unfold g32 b32
  rw [evB_eq]
  assumption
  rw [show ((k : Int) + 40) = ((k + 40 : Nat) : Int) by omega, em]
  assumption
  unfold t32_1
  assumption
  unfold t32_2
  assumption
  have r0 : 0 ≤ m % 5 ∧ m % 5 < 5 := by omega
  generalize hz : m % 5 = z at *
  rw [rngOk_le (by decide) (by decide) (by omega) (by omega)]
  assumption
  obtain ⟨σ', ⟨q, m', o5, rfl, h1, h2⟩, e⟩ := forL_P (body := fun x σ => evSs (phiR TT.M R31) TT.M L32_0 (List.set σ 5 (some x))) (σ := [some (.int c), some (.int (k : Int)), some (.lst (stkD l)), some (.int m), some (.lst []), none])
    (fun n σ => ∃ (q : List Nat) (m' : Int) (o5 : Option D), σ = [some (.int c), some (.int (k : Int)), some (.lst (stkD l)), some (.int m'), some (.lst (rwD q)), o5] ∧ q.length = n ∧ ∀ n ∈ q, n < l.length) (rngD 0 z.toNat) ⟨[], m, none, rfl, rfl, fun n h => nomatch h⟩ (fun n x σ hx hP => by
      obtain ⟨hn, rfl⟩ := rngD_get' hx
      obtain ⟨q, m', o5, rfl, h1, h2⟩ := hP
      obtain ⟨i, i1, i2⟩ := bxs_mod (a := m' / 5) (b := l.length) (by omega)
      rw [Int.toNat_natCast] at i1
      refine ⟨_, ⟨q ++ [i], m' / 5, some (.int n), rfl, by rw [List.length_append, h1]; rfl, fun j hj => ?_⟩, .inl ?_⟩
      · rcases List.mem_append.mp hj with w | w
        · exact h2 j w
        · rw [List.mem_singleton.mp w]
          exact i1
      · unfold L32_0
        assumption
        unfold L32_0_1
        assumption
        rw [bn_mod' (show (0 : Int) < l.length by omega)]
        assumption
        rw [i2]
        rw [decide_eq_true (show q.length < 16777216 by omega)]
        assumption
        unfold rwD
        rw [List.map_append]
        rfl)
  have e : forL (fun x σ => evSs (phiR TT.M R31) TT.M L32_0 (List.set σ 5 (some x))) (rngD 0 z.toNat) [some (.int c), some (.int (k : Int)), some (.lst (stkD l)), some (.int m), some (.lst []), none] = _ := e
  rw [rngD_len] at h1
  refine ⟨q, by omega, h2, ?_⟩
  rw [e]
  assumption
  unfold t32_3
  assumption
theorem same38 (p : Int × Int) (hp : isSz p) (l : List (Stp × Int)) (hl : stkOk p l) (r s : List Nat) (hr : ∀ n ∈ r, n < l.length) (hs : ∀ n ∈ s, n < l.length) (m : List Int) (hm : IsBx p m) : g38 [szD p, .lst (stkD l), .tup (rwD r), .tup (rwD s), .lst (m.map D.int)] = .ok (.bl ((FS p).all fun f => decide (snB m (rowF p l r f) = snB m (rowF p l s f)))) := by
  unfold g38 b38
  rw [evB_eq]
  assumption
  rw [lall33 p hp]
  assumption
  have loop : ∀ (B : List (List Int)), (∀ f ∈ B, f ∈ FS p) → ∀ (o5 o6 : Option D), ∃ p5 p6, forL (fun x σ => evSs (phiR TT.M R37) TT.M L38_0 (List.set σ 5 (some x))) (fs B) [some (szD p), some (.lst (stkD l)), some (.tup (rwD r)), some (.tup (rwD s)), some (.lst (m.map D.int)), o5, o6] = if (B.all fun f => decide (snB m (rowF p l r f) = snB m (rowF p l s f))) then .ok (.nx [some (szD p), some (.lst (stkD l)), some (.tup (rwD r)), some (.tup (rwD s)), some (.lst (m.map D.int)), p5, p6]) else .ok (.rt (.bl false)) := fun B => by
    induction B with
    | nil => exact fun _ o5 o6 => ⟨o5, o6, rfl⟩
    | cons f B ih =>
      intro hB o5 o6
      have hf := hB f (List.mem_cons_self ..)
      obtain ⟨p5, p6, e⟩ := ih (fun g hg => hB g (List.mem_cons_of_mem _ hg)) (some (tp f)) (some (.lst ((snB m (rowF p l r f)).map D.int)))
      refine ⟨p5, p6, ?_⟩
      show forL _ (tp f :: fs B) _ = _
      rw [fo_c, List.all_cons]
      have turn : evSs (phiR TT.M R37) TT.M L38_0 [some (szD p), some (.lst (stkD l)), some (.tup (rwD r)), some (.tup (rwD s)), some (.lst (m.map D.int)), some (tp f), o6] = if decide (snB m (rowF p l r f) = snB m (rowF p l s f)) then .ok (.nx [some (szD p), some (.lst (stkD l)), some (.tup (rwD r)), some (.tup (rwD s)), some (.lst (m.map D.int)), some (tp f), some (.lst ((snB m (rowF p l r f)).map D.int))]) else .ok (.rt (.bl false)) := by
        unfold L38_0
        assumption
        rw [ldone37 p hp l hl r hr f hf]
        assumption
        rw [sn34 p hp _ (rowF_mem hf) m hm]
        assumption
        unfold L38_0_1
        assumption
        rw [ldone37 p hp l hl s hs f hf]
        assumption
        rw [sn34 p hp _ (rowF_mem hf) m hm]
        assumption
        cases decide (snB m (rowF p l r f) = snB m (rowF p l s f)) <;> rfl
      show loopF (evSs (phiR TT.M R37) TT.M L38_0 [some (szD p), some (.lst (stkD l)), some (.tup (rwD r)), some (.tup (rwD s)), some (.lst (m.map D.int)), some (tp f), o6]) _ = _
      rw [turn]
      cases decide (snB m (rowF p l r f) = snB m (rowF p l s f)) with
      | true => exact e
      | false => rfl
  obtain ⟨p5, p6, e⟩ := loop (FS p) (fun f hf => hf) none none
  rw [show forL (fun x σ => evSs (phiR TT.M R37) TT.M L38_0 (List.set σ 5 (some x))) (fs (FS p)) [some (szD p), some (.lst (stkD l)), some (.tup (rwD r)), some (.tup (rwD s)), some (.lst (m.map D.int)), none, none] = _ from e]
  cases (FS p).all fun f => decide (snB m (rowF p l r f) = snB m (rowF p l s f)) with
  | true =>
    assumption
    unfold t38_1
    assumption
  | false => assumption
theorem math (ns : List Int) (hns : ns.length ≤ 63) (_ : ∀ z ∈ ns, Builtin.Int.intBits z ≤ 1048576) : ph 39 [.scr ns] = .ok (.bl true) := by
  have c0 : g3 [.scr ns, .int 0] = .ok (.int (cell ns 0)) := cellat3 ns 0
  have c1 : g3 [.scr ns, .int 1] = .ok (.int (cell ns 1)) := cellat3 ns 1
  have c2 : g3 [.scr ns, .int 2] = .ok (.int (cell ns 2)) := cellat3 ns 2
  rw [ph_law]
  unfold g39 b39
  rw [evB_eq]
  assumption
  rw [c0]
  assumption
  obtain ⟨p, hp, ep⟩ := size0 (cell ns 0)
  rw [ep]
  assumption
  unfold t39_1
  assumption
  obtain ⟨l, hl, l0, l6, el⟩ := kit4 ns 3 6 (by decide) (by decide) (by decide) p hp
  rw [show g4 [.scr ns, .int 3, szD p, .int 6, .int 9] = _ from el]
  assumption
  unfold t39_2
  assumption
  rw [c1]
  assumption
  obtain ⟨xs, x1, ex⟩ := cells29 ns 9 (1 + cell ns 1 / 320 % 12) (by omega) (by omega)
  rw [show g29 [.scr ns, .int 9, .int (1 + cell ns 1 / 320 % 12)] = _ from ex]
  assumption
  obtain ⟨r, r1, r2, er⟩ := row5 xs (by omega) l l0
  rw [er]
  assumption
  have rl : 1 ≤ r.length ∧ r.length ≤ 12 := by omega
  unfold t39_3
  assumption
  rw [c1]
  assumption
  obtain ⟨m, hm, em⟩ := looked6 (cell ns 1) p hp
  rw [em]
  assumption
  unfold t39_4
  assumption
  rw [c2]
  assumption
  rw [bn_mod' (show (0 : Int) < r.length by omega)]
  assumption
  obtain ⟨i, i1, i2⟩ := bxs_mod (a := cell ns 2) (b := r.length) (by omega)
  rw [Int.toNat_natCast] at i1
  rw [i2]
  unfold t39_5
  assumption
  rw [c2]
  assumption
  rw [bn_mod' (show (0 : Int) < (r.length : Int) - i by omega)]
  assumption
  obtain ⟨k0, k1, k2⟩ := bxs_mod (a := cell ns 2 / 40) (b := (r.length : Int) - i) (by omega)
  rw [k2]
  obtain ⟨k, ek⟩ : ∃ k : Nat, 1 + (k0 : Int) = (k : Int) := ⟨1 + k0, by omega⟩
  rw [ek]
  have h1 : 1 ≤ k := by omega
  have h2 : i + k ≤ r.length := by omega
  unfold t39_6
  assumption
  rw [win28 p hp l hl r r2 i k h1 h2 m hm _ (blk8 p m)]
  assumption
  unfold t39_7
  assumption
  have ca : cutD (rwD r) none (some (i : Int)) = rwD (r.take i) := row_cut (by omega)
  have cb : cutD (rwD r) (some (i : Int)) (some ((i : Int) + k)) = rwD ((r.drop i).take k) := by
    rw [show (i : Int) + k = ((i + k : Nat) : Int) by omega, cut_nat (by omega) (by rw [rw_len]; exact h2), show i + k - i = k by omega]
    unfold rwD
    rw [List.map_take, List.map_drop]
  have cc : cutD (rwD r) (some ((i : Int) + k)) none = rwD (r.drop (i + k)) := by
    rw [show (i : Int) + k = ((i + k : Nat) : Int) by omega, cut_drop (by rw [rw_len]; exact h2)]
    unfold rwD
    rw [List.map_drop]
  have whole : r = r.take i ++ (r.drop i).take k ++ r.drop (i + k) := by
    rw [← List.drop_drop, List.append_assoc, List.take_append_drop, List.take_append_drop]
  have ra : ∀ n ∈ r.take i, n < l.length := fun n hn => r2 n (List.mem_of_mem_take hn)
  have rb : ∀ n ∈ (r.drop i).take k, n < l.length := fun n hn => r2 n (List.mem_of_mem_drop (List.mem_of_mem_take hn))
  have rc : ∀ n ∈ r.drop (i + k), n < l.length := fun n hn => r2 n (List.mem_of_mem_drop hn)
  have la : (r.take i).length ≤ 12 := by
    rw [List.length_take]
    omega
  have lc : (r.drop (i + k)).length ≤ 12 := by
    rw [List.length_drop]
    omega
  generalize r.take i = a at *
  generalize (r.drop i).take k = b at *
  generalize r.drop (i + k) = c at *
  rw [cb, table24 p hp l hl b rb]
  assumption
  rcases does31 p hp (winW p l a b c m) (tabF p l b) winW_len tabF_len with ⟨a1, a2⟩ | ⟨⟨f, a1⟩, a2⟩
  case inr =>
    have := (win_does hp (l := l) (a := a) (b := b) (c := c) (q := b) (m := m)).mpr fun f hf => rfl
    rw [a1] at this
    cases this
  rw [a2]
  assumption
  unfold t39_8
  assumption
  have cl := cut_le ns (some 21) (some 63)
  rw [decide_eq_true (show 2 + (cutD ns (some 21) (some 63)).length ≤ 16777216 by omega)]
  assumption
  obtain ⟨ys, eys, yl⟩ : ∃ ys : List Int, D.int 0 :: D.int 1 :: (cutD ns (some 21) (some 63)).map D.int = ys.map D.int ∧ ys.length ≤ 65 := ⟨0 :: 1 :: cutD ns (some 21) (some 63), rfl, by rw [List.length_cons, List.length_cons]; omega⟩
  rw [eys]
  unfold t39_9
  assumption
  rw [rngOk_le (by decide) (by decide) (by omega) (by omega)]
  assumption
  obtain ⟨σ', ⟨o9, o10, o11, rfl⟩, e⟩ := forL_P (body := fun x σ => evSs (phiR TT.M R38) TT.M L39_0 (List.set σ 9 (some x))) (σ := [some (.scr ns), some (szD p), some (.lst (stkD l)), some (.tup (rwD r)), some (.lst (m.map D.int)), some (.int (i : Int)), some (.int (k : Int)), some (.lst (ws (winW p l a b c m))), some (.lst (ys.map D.int)), none, none, none])
    (fun _ σ => ∃ o9 o10 o11 : Option D, σ = [some (.scr ns), some (szD p), some (.lst (stkD l)), some (.tup (rwD r)), some (.lst (m.map D.int)), some (.int (i : Int)), some (.int (k : Int)), some (.lst (ws (winW p l a b c m))), some (.lst (ys.map D.int)), o9, o10, o11]) (rngD 0 ys.length) ⟨none, none, none, rfl⟩ (fun n x σ hx hP => by
      obtain ⟨hn, rfl⟩ := rngD_get' hx
      obtain ⟨o9, o10, o11, rfl⟩ := hP
      obtain ⟨q, q4, q1, eq⟩ := other32 (ys.getD n 0) n (by omega) l l0
      refine ⟨_, ⟨some (.int n), some (.tup (rwD q)), some (.tup (rwD (a ++ q ++ c))), rfl⟩, .inl ?_⟩
      unfold L39_0
      assumption
      rw [in_at hn]
      assumption
      rw [eq]
      assumption
      unfold L39_0_1
      assumption
      rw [ca]
      assumption
      rw [cc]
      assumption
      rw [decide_eq_true (show a.length + q.length ≤ 16777216 by omega)]
      assumption
      rw [List.length_append, rw_len, rw_len, decide_eq_true (show a.length + q.length + c.length ≤ 16777216 by omega)]
      assumption
      rw [show rwD a ++ rwD q ++ rwD c = rwD (a ++ q ++ c) from by unfold rwD; rw [List.map_append, List.map_append]]
      unfold L39_0_2
      assumption
      rw [table24 p hp l hl q q1]
      assumption
      have hs : ∀ n ∈ a ++ q ++ c, n < l.length := fun n hn => by
        rcases List.mem_append.mp hn with z | z
        · rcases List.mem_append.mp z with z | z
          · exact ra n z
          · exact q1 n z
        · exact rc n z
      rw [same38 p hp l hl r (a ++ q ++ c) r2 hs m hm]
      assumption
      have wd := win_does hp (l := l) (a := a) (b := b) (c := c) (q := q) (m := m)
      rw [← whole] at wd
      rcases does31 p hp (winW p l a b c m) (tabF p l q) winW_len tabF_len with ⟨a1, a2⟩ | ⟨⟨f, a1⟩, a2⟩
      · rw [a2, List.all_eq_true.mpr fun f hf => decide_eq_true (wd.mp a1 f hf)]
        assumption
      · have no : ((FS p).all fun f => decide (snB m (rowF p l r f) = snB m (rowF p l (a ++ q ++ c) f))) = false := by
          cases z : (FS p).all fun f => decide (snB m (rowF p l r f) = snB m (rowF p l (a ++ q ++ c) f)) with
          | false => rfl
          | true =>
            have := wd.mpr fun f hf => of_decide_eq_true (List.all_eq_true.mp z f hf)
            rw [a1] at this
            cases this
        rw [a2, no]
        assumption)
  have e : forL (fun x σ => evSs (phiR TT.M R38) TT.M L39_0 (List.set σ 9 (some x))) (rngD 0 ys.length) [some (.scr ns), some (szD p), some (.lst (stkD l)), some (.tup (rwD r)), some (.lst (m.map D.int)), some (.int (i : Int)), some (.int (k : Int)), some (.lst (ws (winW p l a b c m))), some (.lst (ys.map D.int)), none, none, none] = _ := e
  rw [e]
  assumption
  unfold t39_10
  assumption

end Lw
open PySem PySem.W PyProof.Rows
set_option maxHeartbeats 0 in
theorem PySem.Challenge.cw_leastrow_k74_whole_any_row_in_a_window_holds : PySem.Challenge.rw_leastrow_k74_whole_any_row_in_a_window.Holds := by
  w_on; o_law; k_head; (case hw => w_witness2)
  k_fill
  refine L2.walk_ofB (l := PySem.Challenge.rw_leastrow_k74_whole_any_row_in_a_window) (n := 63) (k := 40) (x := "_law_script") (CX := fun _ => L2.CX0) (sp := fun w => Ev.spL _) rfl (by decide) rfl ⟨rfl, by decide, by decide⟩ (fun w h Y => PySem.W.kIn_of Y) ?F (fun _ _ a ns hl hb hO hS => ⟨a, ns, rfl, Ev.sqf_of hO hS, hl, hb, fun _ => rfl⟩) (fun _ _ _ _ _ h => h)
  case F =>
    intro w mg fa h KX G hmg
    refine' Lw.all_mk KX G hmg ?A0 ?B0_0 ?B0_1 ?B0_2 ?B0_3 ?B0_4 ?B0_5 ?B0_6 ?A1 ?B1_0 ?B1_1 ?B1_2 ?B1_3 ?B1_4 ?B1_5 ?B1_6 ?A2 ?B2_0 ?B2_1 ?B2_2 ?B2_3 ?B2_4 ?B2_5 ?B2_6 ?A3 ?B3_0 ?B3_1 ?B3_2 ?B3_3 ?B3_4 ?B3_5 ?B3_6 ?A4 ?B4_0 ?B4_1 ?B4_2 ?B4_3 ?B4_4 ?B4_5 ?B4_6 ?A5 ?B5_0 ?B5_1 ?B5_2 ?B5_3 ?B5_4 ?B5_5 ?B5_6 ?A6 ?B6_0 ?B6_1 ?B6_2 ?B6_3 ?B6_4 ?B6_5 ?B6_6 ?A7 ?B7_0 ?B7_1 ?B7_2 ?B7_3 ?B7_4 ?B7_5 ?B7_6 ?A8 ?B8_0 ?B8_1 ?B8_2 ?B8_3 ?B8_4 ?B8_5 ?B8_6 ?A9 ?B9_0 ?B9_1 ?B9_2 ?B9_3 ?B9_4 ?B9_5 ?B9_6 ?a0 ?l0 ?c0 ?k0 ?a1 ?l1 ?c1 ?k1 ?a2 ?l2 ?c2 ?k2 ?a3 ?l3 ?c3 ?k3 ?a4 ?l4 ?c4 ?k4 ?a5 ?l5 ?c5 ?k5 ?a6 ?l6 ?c6 ?k6 ?a7 ?l7 ?c7 ?k7 ?a8 ?l8 ?c8 ?k8 ?a9 ?l9 ?c9 ?k9 ?a10 ?l10 ?c10 ?k10 ?a11_0 ?n11 ?l11 ?c11 ?k11 ?a12_1 ?n12 ?l12 ?c12 ?k12 ?a13_2 ?n13 ?l13 ?c13 ?k13 ?a14_3 ?n14 ?l14 ?c14 ?k14 ?a15_4 ?n15 ?l15 ?c15 ?k15 ?a16_5 ?n16 ?l16 ?c16 ?k16 ?a17_6 ?n17 ?l17 ?c17 ?k17 ?a18_7 ?n18 ?l18 ?c18 ?k18 ?a19_8 ?n19 ?l19 ?c19 ?k19 ?a20_9 ?n20 ?l20 ?c20 ?k20 ?a21 ?l21 ?c21 ?k21 ?a22 ?l22 ?c22 ?k22 ?a23 ?l23 ?c23 ?k23 ?a24 ?l24 ?c24 ?k24 ?a25 ?l25 ?c25 ?k25 ?a26 ?l26 ?c26 ?k26 ?a27 ?l27 ?c27 ?k27 ?a28 ?l28 ?c28 ?k28 ?y28 ?a29 ?l29 ?c29 ?k29 ?a30 ?l30 ?c30 ?k30 ?a31 ?l31 ?c31 ?k31 ?a32 ?l32 ?c32 ?k32 ?a33 ?l33 ?c33 ?k33 ?a34 ?l34 ?c34 ?k34 ?a35 ?l35 ?c35 ?k35 ?a36 ?l36 ?c36 ?k36 ?a37 ?l37 ?c37 ?k37 ?a38 ?l38 ?c38 ?k38 ?a39 ?l39 ?c39 ?k39 ?z0 ?z1 ?z2 ?z3 ?z4 ?z5 ?z6 ?z7 ?z8 ?z9 ?z10 ?z11 ?z12 ?z13 ?z14 ?z15 ?z16 ?z17 Lw.math
    (case A0 => k_is); (case B0_0 => k_is); (case B0_1 => k_is); (case B0_2 => k_is); (case B0_3 => k_is); (case B0_4 => k_is); (case B0_5 => k_is); (case B0_6 => k_is); (case A1 => k_is); (case B1_0 => k_is); (case B1_1 => k_is); (case B1_2 => k_is); (case B1_3 => k_is); (case B1_4 => k_is); (case B1_5 => k_is); (case B1_6 => k_is); (case A2 => k_is); (case B2_0 => k_is); (case B2_1 => k_is); (case B2_2 => k_is); (case B2_3 => k_is); (case B2_4 => k_is); (case B2_5 => k_is); (case B2_6 => k_is); (case A3 => k_is); (case B3_0 => k_is); (case B3_1 => k_is); (case B3_2 => k_is); (case B3_3 => k_is); (case B3_4 => k_is); (case B3_5 => k_is); (case B3_6 => k_is); (case A4 => k_is); (case B4_0 => k_is); (case B4_1 => k_is); (case B4_2 => k_is); (case B4_3 => k_is); (case B4_4 => k_is); (case B4_5 => k_is); (case B4_6 => k_is); (case A5 => k_is); (case B5_0 => k_is); (case B5_1 => k_is); (case B5_2 => k_is); (case B5_3 => k_is); (case B5_4 => k_is); (case B5_5 => k_is); (case B5_6 => k_is); (case A6 => k_is); (case B6_0 => k_is); (case B6_1 => k_is); (case B6_2 => k_is); (case B6_3 => k_is); (case B6_4 => k_is); (case B6_5 => k_is); (case B6_6 => k_is); (case A7 => k_is); (case B7_0 => k_is); (case B7_1 => k_is); (case B7_2 => k_is); (case B7_3 => k_is); (case B7_4 => k_is); (case B7_5 => k_is); (case B7_6 => k_is); (case A8 => k_is); (case B8_0 => k_is); (case B8_1 => k_is); (case B8_2 => k_is); (case B8_3 => k_is); (case B8_4 => k_is); (case B8_5 => k_is); (case B8_6 => k_is); (case A9 => k_is); (case B9_0 => k_is); (case B9_1 => k_is); (case B9_2 => k_is); (case B9_3 => k_is); (case B9_4 => k_is); (case B9_5 => k_is); (case B9_6 => k_is); (case a0 => k_is); (case l0 => k_is); (case c0 => k_is); (case k0 => k_is); (case a1 => k_is); (case l1 => k_is); (case c1 => k_is); (case k1 => k_is); (case a2 => k_is); (case l2 => k_is); (case c2 => k_is); (case k2 => k_is); (case a3 => k_is); (case l3 => k_is); (case c3 => k_is); (case k3 => k_is); (case a4 => k_is); (case l4 => k_is); (case c4 => k_is); (case k4 => k_is); (case a5 => k_is); (case l5 => k_is); (case c5 => k_is); (case k5 => k_is); (case a6 => k_is); (case l6 => k_is); (case c6 => k_is); (case k6 => k_is); (case a7 => k_is); (case l7 => k_is); (case c7 => k_is); (case k7 => k_is); (case a8 => k_is); (case l8 => k_is); (case c8 => k_is); (case k8 => k_is); (case a9 => k_is); (case l9 => k_is); (case c9 => k_is); (case k9 => k_is); (case a10 => k_is); (case l10 => k_is); (case c10 => k_is); (case k10 => k_is); (case a11_0 => k_is); (case n11 => k_is); (case l11 => k_is); (case c11 => k_is); (case k11 => k_is); (case a12_1 => k_is); (case n12 => k_is); (case l12 => k_is); (case c12 => k_is); (case k12 => k_is); (case a13_2 => k_is); (case n13 => k_is); (case l13 => k_is); (case c13 => k_is); (case k13 => k_is); (case a14_3 => k_is); (case n14 => k_is); (case l14 => k_is); (case c14 => k_is); (case k14 => k_is); (case a15_4 => k_is); (case n15 => k_is); (case l15 => k_is); (case c15 => k_is); (case k15 => k_is); (case a16_5 => k_is); (case n16 => k_is); (case l16 => k_is); (case c16 => k_is); (case k16 => k_is); (case a17_6 => k_is); (case n17 => k_is); (case l17 => k_is); (case c17 => k_is); (case k17 => k_is); (case a18_7 => k_is); (case n18 => k_is); (case l18 => k_is); (case c18 => k_is); (case k18 => k_is); (case a19_8 => k_is); (case n19 => k_is); (case l19 => k_is); (case c19 => k_is); (case k19 => k_is); (case a20_9 => k_is); (case n20 => k_is); (case l20 => k_is); (case c20 => k_is); (case k20 => k_is); (case a21 => k_is); (case l21 => k_is); (case c21 => k_is); (case k21 => k_is); (case a22 => k_is); (case l22 => k_is); (case c22 => k_is); (case k22 => k_is); (case a23 => k_is); (case l23 => k_is); (case c23 => k_is); (case k23 => k_is); (case a24 => k_is); (case l24 => k_is); (case c24 => k_is); (case k24 => k_is); (case a25 => k_is); (case l25 => k_is); (case c25 => k_is); (case k25 => k_is); (case a26 => k_is); (case l26 => k_is); (case c26 => k_is); (case k26 => k_is); (case a27 => k_is); (case l27 => k_is); (case c27 => k_is); (case k27 => k_is); (case a28 => k_is); (case l28 => k_is); (case c28 => k_is); (case k28 => k_is); (case y28 => k_is); (case a29 => k_is); (case l29 => k_is); (case c29 => k_is); (case k29 => k_is); (case a30 => k_is); (case l30 => k_is); (case c30 => k_is); (case k30 => k_is); (case a31 => k_is); (case l31 => k_is); (case c31 => k_is); (case k31 => k_is); (case a32 => k_is); (case l32 => k_is); (case c32 => k_is); (case k32 => k_is); (case a33 => k_is); (case l33 => k_is); (case c33 => k_is); (case k33 => k_is); (case a34 => k_is); (case l34 => k_is); (case c34 => k_is); (case k34 => k_is); (case a35 => k_is); (case l35 => k_is); (case c35 => k_is); (case k35 => k_is); (case a36 => k_is); (case l36 => k_is); (case c36 => k_is); (case k36 => k_is); (case a37 => k_is); (case l37 => k_is); (case c37 => k_is); (case k37 => k_is); (case a38 => k_is); (case l38 => k_is); (case c38 => k_is); (case k38 => k_is); (case a39 => k_is); (case l39 => k_is); (case c39 => k_is); (case k39 => k_is); (case z0 => k_is); (case z1 => k_is); (case z2 => k_is); (case z3 => k_is); (case z4 => k_is); (case z5 => k_is); (case z6 => k_is); (case z7 => k_is); (case z8 => k_is); (case z9 => k_is); (case z10 => k_is); (case z11 => k_is); (case z12 => k_is); (case z13 => k_is); (case z14 => k_is); (case z15 => k_is); (case z16 => k_is); (case z17 => k_is)
