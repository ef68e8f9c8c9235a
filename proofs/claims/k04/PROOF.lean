import PyProof.Rows.All
import Wide.All
import OpenK.AllK
import Wide.FinOn
import Wide.Once
import PyProof.TableCode
import PySem.Syntax
import PySem.Sem
import PyProof.P3Statements
import KE.SortData
import HandS.Base
import HandS.Call
import HandS.List
import HandS.Comp
import HandS.Exc
import HandS.Lambda
import KE.KDflt
import HandS.More
import HandS.Dict
import HandS.IsInst
import HandS.Strs
import HandS.Style
import HandS.TupAny
import HandS.Deep
import HandS.ClsMeth
import HandS.Defaults
import HandS.MakeKwOnly
import HandS.WordsExc
import HandS.HeadWalk
import HandS.TryOnly
import HandS.Flow
import HandS.Zip
import HandS.Property
import HandS.Star
import OpenK.KMeth
import HandS.SlotsOwn
import PyProof.CollectIter
import PyProof.WalksMore
import KE.GoesEnum
import HandS.HotCalls
import HandS.ExcField
import HandS.TryMany
import HandS.OwnEq
import HandS.Conv
import PyProof.NeKinds
import PyProof.AutoIntOps
import HandS.ExcInit
import HandS.HeadHook2
import HandS.HeadEnd
import HandS.EndTab
import HandS.Head0
import HandS.Head1
import HandS.Head2
import PySem.Challenge.RW_peelpose_k04_quarters_listed
set_option Elab.async false
set_option linter.all false
/-! V1: own data, own syntax, the interpreter. -/
namespace MV
open PySem (Str Operator)
abbrev Key := Sum Int Str

inductive D where
  | non | bl (b : Bool) | int (i : Int) | str (s : Str) | cls (c : Nat) | wd (k : Nat)
  | tup (l : List D) | wtup (l : List D) | lst (l : List D) | bor (l : List D)
  | dct (ks : List Key) (vs : List D)
  | obj (c : Nat) (ks : List Nat) (vs : List D)
  | ref (n : Nat)
  | lam (k : Nat)
  deriving Inhabited
inductive O where
  | lst (l : List D)
  | dct (ks : List Key) (vs : List D)
  | ins (c : Nat) (ks : List Nat) (vs : List D)
  deriving Inhabited
abbrev HH := List O
abbrev Env := List (Option D)

/-- the result of a run -/
inductive R (α : Type) where
  | ok (a : α) (h : HH)
  | exc (c : Nat) (ks : List Nat) (vs : List D) (h : HH)
  | no
  deriving Inhabited
def R.bind {α β : Type} (r : R α) (f : α → HH → R β) : R β := match r with
  | .ok a h => f a h
  | .exc c ks vs h => .exc c ks vs h
  | .no => .no
/-- nothing raised -/
def R.pur {α : Type} (r : R α) : R α := match r with
  | .exc _ _ _ _ => .no
  | r => r
/-- what a call hands back: a value, or a new list that nobody else knows -/
inductive Ret where
  | val (d : D)
  | newl (l : List D)
  deriving Inhabited

/-! ### data -/
mutual
/-- no references to own objects, nothing borrowed -/
def D.flat : D → Bool
  | .tup l => D.flats l
  | .wtup l => D.flats l
  | .lst l => D.flats l
  | .dct _ vs => D.flats vs
  | .obj _ _ vs => D.flats vs
  | .ref _ => false
  | .bor _ => false
  | .lam _ => false
  | _ => true
def D.flats : List D → Bool
  | [] => true
  | d :: r => D.flat d && D.flats r
end
mutual
/-- may be compared (deep data without objects) -/
def D.cmp : Nat → D → Bool
  | n, .tup l => match n with
    | 0 => false
    | m + 1 => D.cmps m l
  | n, .wtup l => match n with
    | 0 => false
    | m + 1 => D.cmps m l
  | n, .lst l => match n with
    | 0 => false
    | m + 1 => D.cmps m l
  | n, .bor l => match n with
    | 0 => false
    | m + 1 => D.cmps m l
  | _, .non => true
  | _, .bl _ => true
  | _, .int _ => true
  | _, .str s => PySem.PyData.strOk s
  | _, _ => false
def D.cmps : Nat → List D → Bool
  | _, [] => true
  | n, d :: r => D.cmp n d && D.cmps n r
end
mutual
def D.eqv : D → D → Bool
  | .non, y => match y with
    | .non => true
    | _ => false
  | .bl a, y => match y with
    | .bl b => a == b
    | .int j => (if a then 1 else 0) == j
    | _ => false
  | .int i, y => match y with
    | .bl b => i == (if b then 1 else 0)
    | .int j => i == j
    | _ => false
  | .str x, y => match y with
    | .str z => x == z
    | _ => false
  | .tup xs, y => match y with
    | .tup ys => D.eqvs xs ys
    | .wtup ys => D.eqvs xs ys
    | _ => false
  | .wtup xs, y => match y with
    | .tup ys => D.eqvs xs ys
    | .wtup ys => D.eqvs xs ys
    | _ => false
  | .lst xs, y => match y with
    | .lst ys => D.eqvs xs ys
    | .bor ys => D.eqvs xs ys
    | _ => false
  | .bor xs, y => match y with
    | .lst ys => D.eqvs xs ys
    | .bor ys => D.eqvs xs ys
    | _ => false
  | _, _ => false
def D.eqvs : List D → List D → Bool
  | [], ys => match ys with
    | [] => true
    | _ => false
  | x :: xs, ys => match ys with
    | [] => false
    | y :: ys => D.eqv x y && D.eqvs xs ys
end

/-! ### reading -/
def listOf : D → HH → Option (List D)
  | .lst l, _ => some l
  | .bor l, _ => some l
  | .ref n, h => match h[n]? with
    | some (.lst l) => some l
    | _ => none
  | _, _ => none
def seqOf : D → HH → Option (List D)
  | .tup l, _ => some l
  | .wtup l, _ => some l
  | d, h => listOf d h
/-- the instance: its class, its fields -/
def insOf : D → HH → Option (Nat × List Nat × List D)
  | .obj c ks vs, _ => some (c, ks, vs)
  | .ref n, h => match h[n]? with
    | some (.ins c ks vs) => some (c, ks, vs)
    | _ => none
  | _, _ => none
def lookF : List Nat → List D → Nat → Option D
  | k :: ks, v :: vs, i => if k == i then some v else lookF ks vs i
  | _, _, _ => none
def putF : List Nat → List D → Nat → D → List Nat × List D
  | k :: ks, v :: vs, i, d => if k == i then (k :: ks, d :: vs) else ((k :: (putF ks vs i d).1), (v :: (putF ks vs i d).2))
  | _, _, i, d => ([i], [d])
def line : Nat := 16777216
def mkL (m : Bool) (l : List D) (h : HH) : R D := match Nat.ble l.length line with
  | true => (match m with
    | true => .ok (.ref h.length) (h ++ [.lst l])
    | false => .ok (.lst l) h)
  | false => .no
def mkT (l : List D) (h : HH) : R D := match Nat.ble l.length line with
  | true => .ok (.tup l) h
  | false => .no
def truthD : D → HH → Option Bool
  | .non, _ => some false
  | .bl b, _ => some b
  | .int i, _ => some (i != 0)
  | .str s, _ => if s.length ≤ line then some (s.length != 0) else none
  | .tup l, _ => some (!l.isEmpty)
  | .wtup l, _ => some (!l.isEmpty)
  | d, h => match listOf d h with
    | some l => some (!l.isEmpty)
    | none => none
/-! ### operators -/
def mulOk (i j : Int) : Bool := Nat.blt (i.natAbs.log2 + j.natAbs.log2) 1000000
def divOk (j : Int) : Bool := (j != 0) && Nat.blt j.natAbs.log2 9000
def powOk (i j : Int) : Bool := decide (0 ≤ j) && (decide (j ≤ 1000000) && Nat.blt i.natAbs (2 ^ 64))
def addD (m : Bool) (x y : D) (h : HH) : R D := match x, y with
  | .int i, .int j => .ok (.int (i + j)) h
  | .str s, .str t => if s.length + t.length ≤ line then .ok (.str (s ++ t)) h else .no
  | .tup a, .tup b => mkT (a ++ b) h
  | .lst a, .lst b => mkL m (a ++ b) h
  | .lst a, .ref n => match h[n]? with
    | some (.lst b) => mkL m (a ++ b) h
    | _ => .no
  | .ref n, .lst b => match h[n]? with
    | some (.lst a) => mkL m (a ++ b) h
    | _ => .no
  | .ref n, .ref k => match h[n]?, h[k]? with
    | some (.lst a), some (.lst b) => mkL m (a ++ b) h
    | _, _ => .no
  | _, _ => .no
def subD (x y : D) (h : HH) : R D := match x, y with
  | .int i, .int j => .ok (.int (i - j)) h
  | _, _ => .no
def mulD (m : Bool) (x y : D) (h : HH) : R D := match x, y with
  | .int i, .int j => (match mulOk i j with
    | true => .ok (.int (i * j)) h
    | false => .no)
  | .lst a, .int k => if 0 ≤ k ∧ k < 2 ^ 20 ∧ a.length * k.toNat ≤ line then mkL m (List.replicate k.toNat a).flatten h else .no
  | _, _ => .no
def divD (x y : D) (h : HH) : R D := match x, y with
  | .int i, .int j => (match divOk j with
    | true => .ok (.int (i.fdiv j)) h
    | false => .no)
  | _, _ => .no
def modD (x y : D) (h : HH) : R D := match x, y with
  | .int i, .int j => (match j != 0 with
    | true => .ok (.int (i.fmod j)) h
    | false => .no)
  | _, _ => .no
def powD (x y : D) (h : HH) : R D := match x, y with
  | .int i, .int j => (match powOk i j with
    | true => .ok (.int (i ^ j.toNat)) h
    | false => .no)
  | _, _ => .no
def binD (op : Operator) (m : Bool) (x y : D) (h : HH) : R D := match op with
  | .Add => addD m x y h
  | .Sub => subD x y h
  | .Mult => mulD m x y h
  | .FloorDiv => divD x y h
  | .Mod => modD x y h
  | .Pow => powD x y h
  | _ => .no
def D.scal : D → Bool
  | .non => true
  | .bl _ => true
  | .int _ => true
  | .str _ => true
  | _ => false
/-- the list itself in place of a reference to it -/
def shown : D → HH → D
  | .ref n, h => match h[n]? with
    | some (.lst l) => .lst l
    | _ => .ref n
  | d, _ => d
def eqD (x y : D) (h : HH) : Option Bool := match D.cmp 60 (shown x h) && D.cmp 60 (shown y h) with
  | true => some (D.eqv (shown x h) (shown y h))
  | false => none
def keyOf : D → Option Key
  | .int i => some (.inl i)
  | .str s => some (.inr s)
  | _ => none
def findK : List Key → List D → Key → Option D
  | k :: ks, v :: vs, i => if decide (k = i) then some v else findK ks vs i
  | _, _, _ => none
def replK : List Key → List D → Key → D → List D
  | k :: ks, v :: vs, q, d => (if decide (k = q) then d else v) :: replK ks vs q d
  | _, _, _, _ => []
def putK (ks : List Key) (vs : List D) (q : Key) (d : D) : List Key × List D := match ks.any fun k => decide (k = q) with
  | true => (ks, replK ks vs q d)
  | false => (ks ++ [q], vs ++ [d])
def dctOf : D → HH → Option (List Key × List D)
  | .dct ks vs, _ => some (ks, vs)
  | .ref n, h => match h[n]? with
    | some (.dct ks vs) => some (ks, vs)
    | _ => none
  | _, _ => none
abbrev Wds := List (List Key × List D)
def inD (x y : D) (h : HH) : Option Bool := match dctOf y h with
  | some w => (match keyOf x with
    | some q => some (findK w.1 w.2 q).isSome
    | none => none)
  | none => match seqOf y h with
  | some l => (match D.scal x && l.all D.scal with
    | true => some (l.any fun z => D.eqv z x)
    | false => none)
  | none => none
def noneD : D → Bool
  | .non => true
  | _ => false
def cmpD (op : PySem.CmpOp) (x y : D) (h : HH) : Option Bool := match op with
  | .Eq => eqD x y h
  | .NotEq => (eqD x y h).map (!·)
  | .Lt => match x, y with
    | .int i, .int j => some (decide (i < j))
    | _, _ => none
  | .LtE => match x, y with
    | .int i, .int j => some (decide (i ≤ j))
    | _, _ => none
  | .Gt => match x, y with
    | .int i, .int j => some (decide (j < i))
    | _, _ => none
  | .GtE => match x, y with
    | .int i, .int j => some (decide (j ≤ i))
    | _, _ => none
  | .Is => match y with
    | .non => some (noneD x)
    | _ => none
  | .IsNot => match y with
    | .non => some (!noneD x)
    | _ => none
  | .In => inD x y h
  | .NotIn => (inD x y h).map (!·)
/-- the place of an index -/
def ixAt (n : Nat) (i : Int) : Option Nat := if 0 ≤ i then (if i < n then some i.toNat else none) else if -(n : Int) ≤ i then some (i + n).toNat else none
def itemL (x i : D) (h : HH) : Option D := match i with
  | .int i => (match x with
    | .str s => if s.length ≤ line then (ixAt s.cps.size i).bind fun j => s.cps[j]?.map fun c => .str ⟨#[c]⟩ else none
    | _ => match seqOf x h with
      | some l => (ixAt l.length i).bind fun j => l[j]?
      | none => none)
  | _ => none
def itemD (W : Wds) (x i : D) (h : HH) : Option D := match x with
  | .wd k => (match W[k]?, keyOf i with
    | some w, some q => findK w.1 w.2 q
    | _, _ => none)
  | _ => match dctOf x h with
    | some w => (match keyOf i with
      | some q => findK w.1 w.2 q
      | none => none)
    | none => itemL x i h
def setD (x i v : D) (h : HH) : Option HH := match x with
  | .ref n => (match h[n]? with
    | some (.lst l) => (match i with
      | .int j => (ixAt l.length j).map fun p => h.set n (.lst (l.set p v))
      | _ => none)
    | some (.dct ks vs) => (match keyOf i with
      | some q => (match Nat.blt ks.length line with
        | true => some (h.set n (.dct (putK ks vs q v).1 (putK ks vs q v).2))
        | false => none)
      | none => none)
    | _ => none)
  | _ => none
/-- a slice's end, clipped -/
def clip (n d : Nat) : Option Int → Nat
  | none => d
  | some v => if v < 0 then (v + (n : Int)).toNat else min v.toNat n
def cutL (l : List D) (lo hi : Option Int) : List D := (l.drop (clip l.length 0 lo)).take (clip l.length l.length hi - clip l.length 0 lo)
def partD (n : Bool) (d : D) : Option (Option Int) := match n with
  | true => some none
  | false => match d with
    | .int i => some (some i)
    | _ => none
def sliceD (m : Bool) (x : D) (lo hi : Option Int) (h : HH) : R D := match x with
  | .tup l => .ok (.tup (cutL l lo hi)) h
  | .wtup l => .ok (.tup (cutL l lo hi)) h
  | _ => match listOf x h with
    | some l => mkL m (cutL l lo hi) h
    | none => .no
def revD (m : Bool) (x : D) (h : HH) : R D := match x with
  | .tup l => .ok (.tup l.reverse) h
  | .wtup l => .ok (.tup l.reverse) h
  | _ => match listOf x h with
    | some l => mkL m l.reverse h
    | none => .no
/-! ### built-ins -/
inductive Blt where
  | len | abs | int | list | tuple | sum | any | all | min | max | sorted
def intsD : List D → Option (List Int)
  | [] => some []
  | .int i :: r => (intsD r).map (i :: ·)
  | _ => none
def bls : List D → Option (List Bool)
  | [] => some []
  | .bl b :: r => (bls r).map (b :: ·)
  | _ => none
def insI (x : Int) : List Int → List Int
  | [] => [x]
  | y :: r => if x ≤ y then x :: y :: r else y :: insI x r
def sortI : List Int → List Int
  | [] => []
  | x :: r => insI x (sortI r)
def minI : List Int → Option Int
  | [] => none
  | [x] => some x
  | x :: r => (minI r).map fun m => if x ≤ m then x else m
def maxI : List Int → Option Int
  | [] => none
  | [x] => some x
  | x :: r => (maxI r).map fun m => if m ≤ x then x else m
def lenD (ds : List D) (h : HH) : R D := match ds with
  | [x] => (match seqOf x h with
    | some l => .ok (.int l.length) h
    | none => (match x with
      | .str s => if s.length ≤ line then .ok (.int s.length) h else .no
      | _ => .no))
  | _ => .no
def absD (ds : List D) (h : HH) : R D := match ds with
  | [.int i] => .ok (.int (if i < 0 then -i else i)) h
  | _ => .no
def intD (ds : List D) (h : HH) : R D := match ds with
  | [.int i] => .ok (.int i) h
  | [.bl k] => .ok (.int (if k then 1 else 0)) h
  | _ => .no
def listD (m : Bool) (ds : List D) (h : HH) : R D := match ds with
  | [x] => (match seqOf x h with
    | some l => mkL m l h
    | none => .no)
  | _ => .no
def tupleD (ds : List D) (h : HH) : R D := match ds with
  | [x] => (match seqOf x h with
    | some l => .ok (.tup l) h
    | none => .no)
  | _ => .no
/-- the one list that a call is given -/
def oneL (ds : List D) (h : HH) : Option (List D) := match ds with
  | [x] => listOf x h
  | _ => none
def sumD (ds : List D) (h : HH) : R D := match (oneL ds h).bind intsD with
  | some ns => .ok (.int ns.sum) h
  | none => .no
def anyD (ds : List D) (h : HH) : R D := match (oneL ds h).bind bls with
  | some ns => .ok (.bl (ns.any id)) h
  | none => .no
def allD (ds : List D) (h : HH) : R D := match (oneL ds h).bind bls with
  | some ns => .ok (.bl (ns.all id)) h
  | none => .no
def minD (ds : List D) (h : HH) : R D := match ((oneL ds h).bind intsD).bind minI with
  | some n => .ok (.int n) h
  | none => .no
def maxD (ds : List D) (h : HH) : R D := match ((oneL ds h).bind intsD).bind maxI with
  | some n => .ok (.int n) h
  | none => .no
mutual
def D.pd : D → PySem.PyData
  | .bl b => .bool b
  | .int i => .int i
  | .str s => .str s
  | .tup l => .tuple (D.pds l)
  | .wtup l => .tuple (D.pds l)
  | .lst l => .list (D.pds l)
  | .bor l => .list (D.pds l)
  | _ => .none
def D.pds : List D → List PySem.PyData
  | [] => []
  | d :: r => D.pd d :: D.pds r
end
/-- every two can be compared -/
def alikeB (l : List D) : Bool := l.all fun x => l.all fun y => PySem.W.alike x.pd y.pd
def tup1B (d : D) : Bool := match d.pd with
  | .tuple (_ :: _) => true
  | _ => false
def notTB (d : D) : Bool := match d.pd with
  | .none => false
  | .tuple _ => false
  | _ => true
def sortableB (l : List D) : Bool := l.all tup1B || l.all notTB
def sortedD (m : Bool) (ds : List D) (h : HH) : R D := match (oneL ds h).bind intsD with
  | some ns => (match Nat.blt ns.length 64 with
    | true => mkL m ((sortI ns).map D.int) h
    | false => .no)
  | none => (match oneL ds h with
    | some l => (match D.cmp 52 (.lst l) && (alikeB l && sortableB l) with
      | true => mkL m (l.mergeSort (PySem.W.dataLe false D.pd)) h
      | false => .no)
    | none => .no)
def bltD (m : Bool) (b : Blt) (ds : List D) (h : HH) : R D := match b with
  | .len => lenD ds h
  | .abs => absD ds h
  | .int => intD ds h
  | .list => listD m ds h
  | .tuple => tupleD ds h
  | .sum => sumD ds h
  | .any => anyD ds h
  | .all => allD ds h
  | .min => minD ds h
  | .max => maxD ds h
  | .sorted => sortedD m ds h
inductive Ty where
  | int | bool | str | list | tuple | dict | cls (c : Nat)
  deriving DecidableEq
/-- the type of a value -/
inductive TyV where
  | non | bl | int | str | lst | tup | dct | own (c : Nat)
def ownV (nc c : Nat) : Option TyV := match Nat.blt c nc with
  | true => some (.own c)
  | false => none
def tyOfO (nc : Nat) : O → Option TyV
  | .lst _ => some .lst
  | .dct _ _ => some .dct
  | .ins c _ _ => ownV nc c
def tyOfD (nc : Nat) : D → HH → Option TyV
  | .non, _ => some .non
  | .bl _, _ => some .bl
  | .int _, _ => some .int
  | .str _, _ => some .str
  | .tup _, _ => some .tup
  | .wtup _, _ => some .tup
  | .lst _, _ => some .lst
  | .bor _, _ => some .lst
  | .dct _ _, _ => some .dct
  | .obj c _ _, _ => ownV nc c
  | .ref n, h => (match h[n]? with
    | some o => tyOfO nc o
    | none => none)
  | .cls _, _ => none
  | .wd _, _ => none
  | .lam _, _ => none
def tyIs : TyV → Ty → Bool
  | .bl, .int => true
  | .bl, .bool => true
  | .int, .int => true
  | .str, .str => true
  | .lst, .list => true
  | .tup, .tuple => true
  | .dct, .dict => true
  | .own c, .cls k => c == k
  | _, _ => false
/-- isinstance; own classes have no own bases here -/
def isiD (nc : Nat) (x : D) (h : HH) (ts : List Ty) : Option Bool := (tyOfD nc x h).map fun t => ts.any (tyIs t)
inductive BM where
  | append | pop | insert | clear | index | reverse
/-- the place of the first item that equals -/
def findD (x : D) : List D → Option Nat
  | [] => none
  | y :: r => if D.eqv y x then some 0 else (findD x r).map (· + 1)
/-- what a method is asked of -/
def isRcv (b : BM) (x : D) (h : HH) : Bool := match b with
  | .index => (match x with
    | .wtup _ => true
    | _ => (listOf x h).isSome)
  | _ => (listOf x h).isSome
def appendD (o : D) (ds : List D) (h : HH) : R D := match ds, o with
  | [x], .ref n => (match h[n]? with
    | some (.lst l) => (match Nat.blt l.length line with
      | true => .ok .non (h.set n (.lst (l ++ [x])))
      | false => .no)
    | _ => .no)
  | _, _ => .no
def popD (o : D) (ds : List D) (h : HH) : R D := match ds, o with
  | [], .ref n => (match h[n]? with
    | some (.lst l) => (match l[l.length - 1]? with
      | some x => .ok x (h.set n (.lst l.dropLast))
      | none => .no)
    | _ => .no)
  | _, _ => .no
def insertD (o : D) (ds : List D) (h : HH) : R D := match ds, o with
  | [.int i, x], .ref n => (match h[n]? with
    | some (.lst l) => (match Nat.blt l.length line && (decide (0 ≤ i) && decide (i ≤ l.length)) with
      | true => .ok .non (h.set n (.lst (l.take i.toNat ++ [x] ++ l.drop i.toNat)))
      | false => .no)
    | _ => .no)
  | _, _ => .no
def clearD (o : D) (ds : List D) (h : HH) : R D := match ds, o with
  | [], .ref n => (match h[n]? with
    | some (.lst _) => .ok .non (h.set n (.lst []))
    | _ => .no)
  | _, _ => .no
def reverseD (o : D) (ds : List D) (h : HH) : R D := match ds, o with
  | [], .ref n => (match h[n]? with
    | some (.lst l) => .ok .non (h.set n (.lst l.reverse))
    | _ => .no)
  | _, _ => .no
def idxIn (x : D) (l : List D) (h : HH) : R D := match D.cmp 50 (shown x h) && D.cmps 50 l with
  | true => (match findD (shown x h) l with
    | some j => .ok (.int j) h
    | none => .no)
  | false => .no
def lindexD (o : D) (ds : List D) (h : HH) : R D := match ds with
  | [x] => (match listOf o h with
    | some l => idxIn x l h
    | none => .no)
  | _ => .no
def tindexD (o : D) (ds : List D) (h : HH) : R D := match ds, o with
  | [x], .wtup l => idxIn x l h
  | _, _ => .no
def bmD (b : BM) (o : D) (ds : List D) (h : HH) : R D := match b with
  | .append => appendD o ds h
  | .pop => popD o ds h
  | .insert => insertD o ds h
  | .clear => clearD o ds h
  | .reverse => reverseD o ds h
  | .index => (match o with
    | .wtup _ => tindexD o ds h
    | _ => lindexD o ds h)

/-! ### syntax -/
inductive E where
  | v (i : Nat) | c (d : D) | g (k : Nat)
  | bin (op : Operator) (m : Bool) (a b : E)
  | neg (a : E)
  | cmp (op : PySem.CmpOp) (a b : E)
  | chain (o p : PySem.CmpOp) (a b d : E)
  | band (a b : E) | bor (a b : E) | b1 (a : E)
  | bnot (a : E)
  | ife (t a b : E)
  | tup (es : E) | lst (m : Bool) (es : E) | dct
  | nil | cons (e es : E) | star (e es : E)
  | ix (a i : E)
  | sl (m : Bool) (a lo hi : E)
  | rev (m : Bool) (a : E)
  | call (ad : Bool) (j : Nat) (es : E)
  | callk (ad : Bool) (j : Nat) (es ks : E)
  | meth (ad : Bool) (mi : Nat) (o : E) (alts : List (Nat × Nat)) (es : E)
  | methk (ad : Bool) (mi : Nat) (o : E) (alts : List (Nat × Nat)) (es ks : E)
  | kn (c : Nat)
  | cmeth (ad : Bool) (mi : Nat) (o : E) (alts : List (Nat × Nat)) (es ks : E)
  | ccall (ad : Bool) (o : E) (alts : List (Nat × Nat)) (es ks : E)
  | bino (op : Operator) (a b : E) (alts : List (Nat × Nat))
  | cmpo (ne : Bool) (a b : E) (alts : List (Nat × Nat))
  | cmpt (ne : Bool) (a b : E) (alts : List (Nat × Nat))
  | lrg (m : Bool) (a : E)
  | att (o : E) (k : Nat) (alts : List (Nat × Nat))
  | blt (m : Bool) (b : Blt) (es : E)
  | isi (x : E) (ts : List Ty)
  | bm (b : BM) (o es : E)
  | comp (m : Bool) (own : List Nat) (tg it ifs el : E)
  | comp2 (m : Bool) (own own2 : List Nat) (tg it tg2 it2 el : E)
  | lamb (k : Nat) | ltry (w : Bool) (a : E)
  | i_e (e : E) | i_r1 (a : E) | i_r2 (a b : E) | i_en (e : E) | i_zip (a b : E)
  | t_n (i : Nat) | t_t (ts : E) | t_x (n : Nat) (ts : E) | t_s (o i : E) | t_a (o : E) (k : Nat)
  deriving Inhabited
def E.isNil : E → Bool
  | .nil => true
  | _ => false
inductive S where
  | skip | seq (s t : S)
  | ex (e : E) | asg (t e : E) | par (ns : List Nat) (es : E)
  | aug (i : Nat) (op : Operator) (e : E)
  | ite (c : E) (s t : S)
  | loop (t it : E) (b : S)
  | whil (c : E) (b : S)
  | ret (e : E) | retN | brk | cnt
  | rais (c : Nat) (es : E)
  | pass
  deriving Inhabited

/-! ### the program -/
inductive Sel where
  | a (i : Nat) | d (x : D)
/-- how a def is called: which one, how its parameters are filled -/
structure Shape where
  fn : Nat
  n : Nat
  sel : List Sel
def selD (ds : List D) : List Sel → Option (List D)
  | [] => some []
  | .a i :: r => (match ds[i]?, selD ds r with
    | some d, some l => some (d :: l)
    | _, _ => none)
  | .d x :: r => (match selD ds r with
    | some l => some (x :: l)
    | none => none)
def Shape.fill (s : Shape) (ds : List D) : Option (List D) := match ds.length == s.n with
  | true => selD ds s.sel
  | false => none
inductive Kind where
  | fn (pure : Bool)
  | ctor (c : Nat) (frozen : Bool)
  | lam (caps : List Nat)
structure Fn where
  kind : Kind
  np : Nat
  nl : Nat
  body : S
/-- an own exception class: its fields, the last stored first -/
structure Xc where
  n : Nat
  fs : List (Nat × Sel)
structure Prog where
  fns : List Fn
  sh : List Shape
  gl : List D
  wd : Wds
  fld : List (Nat × Nat)
  nc : Nat
  xs : List Xc := []
  xt : Nat := 0
  xf : List (Str × Nat) := []

/-! ### the run -/
inductive Itr where
  | items (l : List D) | live (n : Nat)
inductive RS where
  | nx (ρ : Env) (h : HH) | rt (d : D) (h : HH) | bk (ρ : Env) (h : HH) | ct (ρ : Env) (h : HH)
  | exc (c : Nat) (ks : List Nat) (vs : List D) (ρ : Env) (h : HH)
  | no
  deriving Inhabited
def R.st {α : Type} (r : R α) (ρ : Env) (f : α → HH → RS) : RS := match r with
  | .ok a h => f a h
  | .exc c ks vs h => .exc c ks vs ρ h
  | .no => .no
def R.of {α : Type} (o : Option α) (h : HH) : R α := match o with
  | some a => .ok a h
  | none => .no
abbrev Orc := Nat → List D → HH → R Ret
def retD (ad : Bool) (r : Ret) (h : HH) : R D := match r with
  | .val d => .ok d h
  | .newl l => (match ad with
    | true => .ok (.ref h.length) (h ++ [.lst l])
    | false => .ok (.lst l) h)
def callJ (P : Prog) (orc : Orc) (ad : Bool) (j : Nat) (ds : List D) (h : HH) : R D := match P.sh[j]? with
  | some s => (match s.fill ds with
    | some ps => (orc s.fn ps h).bind fun r h1 => retD ad r h1
    | none => .no)
  | none => .no
def pairL : List D → List D → List D
  | x :: xs, y :: ys => .tup [x, y] :: pairL xs ys
  | _, _ => []
def enumL : Nat → List D → List D
  | n, x :: xs => .tup [.int n, x] :: enumL (n + 1) xs
  | _, [] => []
def rangeL (lo hi : Int) : List D := (List.range (hi - lo).toNat).map fun (k : Nat) => .int (lo + (k : Int))
def smallI (i : Int) : Bool := decide (-(2 ^ 62) ≤ i) && decide (i < 2 ^ 62)
/-- the own names of a comprehension forgotten -/
def wipeE (ρ : Env) : List Nat → Env
  | [] => ρ
  | v :: vs => (wipeE ρ vs).set v none
/-- the turns of a comprehension over written items: what each gives (none: left out) -/
def compL (f : D → HH → R (Option D)) : List D → HH → R (List D)
  | [], h => .ok [] h
  | x :: r, h => (f x h).bind fun o h1 => (compL f r h1).bind fun l h2 => .ok (match o with
    | some d => d :: l
    | none => l) h2
def compLive (f : D → HH → R (Option D)) (n : Nat) : Nat → Nat → HH → R (List D)
  | 0, _, _ => .no
  | k + 1, i, h => match h[n]? with
    | some (.lst l) => (match l[i]? with
      | some x => (f x h).bind fun o h1 => (compLive f n k (i + 1) h1).bind fun l h2 => .ok (match o with
        | some d => d :: l
        | none => l) h2
      | none => .ok [] h)
    | _ => .no
def fuel : Nat := 1000000
def compI (f : D → HH → R (Option D)) (it : Itr) (h : HH) : R (List D) := match it with
  | .items l => compL f l h
  | .live n => compLive f n fuel 0 h
/-- two clauses: what each turn of the first gives, one behind the other -/
def compJ (f : D → HH → R (List D)) : List D → HH → R (List D)
  | [], h => .ok [] h
  | x :: r, h => (f x h).bind fun k h1 => (compJ f r h1).bind fun l h2 => .ok (k ++ l) h2
def itV : D → Option (List D)
  | .tup l => some l
  | .wtup l => some l
  | .lst l => some l
  | .bor l => some l
  | _ => none
def itL (r : R D) : R (List D) := r.bind fun d h => match itV d with
  | some l => .ok l h
  | none => .no
def getT : List (Nat × Nat) → Nat → Option Nat
  | (c, j) :: r, k => if c == k then some j else getT r k
  | [], _ => none
def setF (fld : List (Nat × Nat)) (x : D) (k : Nat) (d : D) (h : HH) : Option HH := match x with
  | .ref n => (match h[n]? with
    | some (.ins c ks vs) => (match fld.contains (c, k) && Nat.blt ks.length 1000 with
      | true => some (h.set n (.ins c (putF ks vs k d).1 (putF ks vs k d).2))
      | false => none)
    | _ => none)
  | _ => none
/-- the shape of the method that an instance's class has -/
def methJ (alts : List (Nat × Nat)) (mi : Nat) (o : Option (Nat × List Nat × List D)) : Option Nat := match o with
  | some (c, ks, _) => (match ks.contains mi with
    | true => none
    | false => getT alts c)
  | none => none
/-- which one is meant, by the class at hand -/
def clsJ (alts : List (Nat × Nat)) (x : D) : Option Nat := match x with
  | .cls c => getT alts c
  | _ => none
def propJ (alts : List (Nat × Nat)) (o : Option (Nat × List Nat × List D)) : Option Nat := match o with
  | some (c, _, _) => getT alts c
  | none => none
def fieldD (fld : List (Nat × Nat)) (k : Nat) (o : Option (Nat × List Nat × List D)) : Option D := match o with
  | some (c, ks, vs) => (match fld.contains (c, k) with
    | true => lookF ks vs k
    | false => none)
  | none => none
/-- a def, not a class that is made -/
def fnJ (sh : List Shape) (fns : List Fn) (j : Nat) : Bool := match sh[j]? with
  | some s => (match fns[s.fn]? with
    | some f => (match f.kind with
      | .fn _ => true
      | _ => false)
    | none => false)
  | none => false
/-- the own operator of two instances of one class -/
def ownJ (P : Prog) (alts : List (Nat × Nat)) (x y : Option (Nat × List Nat × List D)) : Option Nat := match x, y with
  | some (c, _, _), some (e, _, _) => (match Nat.beq c e && Nat.blt c P.nc with
    | true => (match getT alts c with
      | some j => (match fnJ P.sh P.fns j with
        | true => some j
        | false => none)
      | none => none)
    | false => none)
  | _, _ => none
/-- a def that keeps to its own heap -/
def purJ (P : Prog) (j : Nat) : Bool := match P.sh[j]? with
  | some s => (match P.fns[s.fn]? with
    | some f => (match f.kind with
      | .fn b => b
      | _ => false)
    | none => false)
  | none => false
def isT : R D → Bool
  | .ok (.bl true) _ => true
  | _ => false
/-- two rows of instances, equal one by one by their own == -/
def eqsO (P : Prog) (orc : Orc) (alts : List (Nat × Nat)) : List D → List D → HH → Bool
  | [], [], _ => true
  | x :: xs, y :: ys, h => (match ownJ P alts (insOf x h) (insOf y h) with
    | some j => purJ P j && isT (callJ P orc false j [x, y] h)
    | none => false) && eqsO P orc alts xs ys h
  | _, _, _ => false
/-- .. as tuples -/
def eqsT (P : Prog) (orc : Orc) (alts : List (Nat × Nat)) (x y : D) (h : HH) : Bool := match x, y with
  | .tup l, .tup k => eqsO P orc alts l k h
  | _, _ => false
/-- what an own == hands back -/
def eqR (ne : Bool) (d : D) (h : HH) : R Bool := match d with
  | .bl k => .ok (k != ne) h
  | _ => .no
/-- a tuple's items -/
def tupOf : D → Option (List D)
  | .tup l => some l
  | .wtup l => some l
  | _ => none
/-- the first n, and a list of the others -/
def starD (n : Nat) (d : D) : Option (List D) := match tupOf d with
  | some l => (match Nat.ble n l.length with
    | true => some (l.take n ++ [.lst (l.drop n)])
    | false => none)
  | none => none
/-- the values that a lambda captures -/
def capD (ρ : Env) : List Nat → Option (List D)
  | [] => some []
  | i :: r => (match ρ[i]?, capD ρ r with
    | some (some d), some l => some (d :: l)
    | _, _ => none)
def capsJ (P : Prog) (k : Nat) : Option (List Nat) := match P.fns[k]? with
  | some f => (match f.kind with
    | .lam caps => some caps
    | _ => none)
  | none => none
/-- the field that the law's own look tells of an error, by its tag -/
inductive RE where
  | at (f : Str) | no | ite (w : Str) (a b : RE)
def RE.get (t : Str) : RE → Option Str
  | .at f => some f
  | .no => none
  | .ite w a b => (match decide (t = w) with
    | true => a.get t
    | false => b.get t)
def fldGo (t : Str) : List (List Str × RE) → RE → Option Str
  | [], l => l.get t
  | (ws, r) :: rest, l => (match ws.any fun w => decide (w = t) with
    | true => r.get t
    | false => fldGo t rest l)
def fldRows : List (List Str × RE) := [(["InvalidLetter", "InvalidQuarter"], .at "at"), (["TooLong", "CapacityExceeded"], .at "most"), (["Endless", "InvalidName", "DuplicateName", "WrongKind", "InUse", "UnknownName"], .at "name"), (["InvalidPrime", "InvalidCommand"], .ite "InvalidPrime" (.at "given") (.at "first"))]
def fldLast : RE := .ite "InvalidNumber" (.at "number") (.ite "ParseError" (.at "line") .no)
/-- what the law's own try hands back -/
def tryV (P : Prog) (r : R Ret) : R D := match r with
  | .ok r h => (match r with
    | .val d => .ok (.tup [.str "value", d]) h
    | .newl _ => .no)
  | .exc _ ks vs h => (match lookF ks vs P.xt with
    | some (.str t) => (match PySem.PyData.strOk t with
      | true => (match fldGo t fldRows fldLast with
        | some f => (match P.xf.lookup f with
          | some n => (match lookF ks vs n with
            | some d => .ok (.tup [.str t, d]) h
            | none => .no)
          | none => .no)
        | none => .ok (.tup [.str t, .non]) h)
      | false => .no)
    | _ => .no)
  | .no => .no
/-- .. the whole of it, or its first word -/
def tryW (P : Prog) (w : Bool) (r : R Ret) : R D := match w with
  | false => tryV P r
  | true => (tryV P r).bind fun d h => R.of (itemD P.wd d (.int 0) h) h
structure Sm where
  ev : Env → HH → R D
  es : Env → HH → R (List D)
  ts : Env → HH → R Bool
  tl : Env → HH → R Bool
  it : Env → HH → R Itr
  tg : D → Env → HH → R Env
  tgs : List D → Env → HH → R Env
def Sm.of (f : Env → HH → R D) : Sm := ⟨f, fun _ _ => .no, fun ρ h => (f ρ h).bind fun x h1 => R.of (truthD x h1) h1, fun _ _ => .no, fun _ _ => .no, fun _ _ _ => .no, fun _ _ _ => .no⟩
def Sm.tw (f : Env → HH → R D) (g : Env → HH → R Bool) : Sm := ⟨f, fun _ _ => .no, g, fun _ _ => .no, fun _ _ => .no, fun _ _ _ => .no, fun _ _ _ => .no⟩
def Sm.li (f : Env → HH → R (List D)) (g : Env → HH → R Bool) (t : List D → Env → HH → R Env) : Sm := ⟨fun _ h => .ok .non h, f, fun _ _ => .no, g, fun _ _ => .no, fun _ _ _ => .no, t⟩
def Sm.itr (f : Env → HH → R Itr) : Sm := ⟨fun _ _ => .no, fun _ _ => .no, fun _ _ => .no, fun _ _ => .no, f, fun _ _ _ => .no, fun _ _ _ => .no⟩
def Sm.tar (f : D → Env → HH → R Env) : Sm := ⟨fun _ _ => .no, fun _ _ => .no, fun _ _ => .no, fun _ _ => .no, fun _ _ => .no, f, fun _ _ _ => .no⟩
section
variable (P : Prog) (orc : Orc)
def sem : E → Sm
  | .v i => .of fun ρ h => (match ρ[i]? with
    | some (some d) => .ok d h
    | _ => .no)
  | .c d => .of fun _ h => .ok d h
  | .g k => .of fun _ h => R.of P.gl[k]? h
  | .bin op m a b => .of fun ρ h => ((sem a).ev ρ h).bind fun x h1 => ((sem b).ev ρ h1).bind fun y h2 => binD op m x y h2
  | .neg a => .of fun ρ h => ((sem a).ev ρ h).bind fun x h1 => match x with
    | .int i => .ok (.int (-i)) h1
    | _ => .no
  | .cmp op a b => .tw (fun ρ h => ((sem a).ev ρ h).bind fun x h1 => ((sem b).ev ρ h1).bind fun y h2 => R.of ((cmpD op x y h2).map D.bl) h2)
      fun ρ h => ((sem a).ev ρ h).bind fun x h1 => ((sem b).ev ρ h1).bind fun y h2 => R.of (cmpD op x y h2) h2
  | .chain o p a b d => .tw (fun ρ h => ((sem a).ev ρ h).bind fun x h1 => ((sem b).ev ρ h1).bind fun y h2 => match cmpD o x y h2 with
      | some true => ((sem d).ev ρ h2).bind fun z h3 => R.of ((cmpD p y z h3).map D.bl) h3
      | some false => .ok (.bl false) h2
      | none => .no)
    fun ρ h => ((sem a).ev ρ h).bind fun x h1 => ((sem b).ev ρ h1).bind fun y h2 => match cmpD o x y h2 with
      | some true => ((sem d).ev ρ h2).bind fun z h3 => R.of (cmpD p y z h3) h3
      | some false => .ok false h2
      | none => .no
  | .band a b => .tw (fun ρ h => ((sem a).ev ρ h).bind fun x h1 => match truthD x h1 with
      | some true => (sem b).ev ρ h1
      | some false => .ok x h1
      | none => .no)
    fun ρ h => ((sem a).ts ρ h).bind fun k h1 => match k with
      | true => (sem b).ts ρ h1
      | false => .ok false h1
  | .bor a b => .tw (fun ρ h => ((sem a).ev ρ h).bind fun x h1 => match truthD x h1 with
      | some true => .ok x h1
      | some false => (sem b).ev ρ h1
      | none => .no)
    fun ρ h => ((sem a).ts ρ h).bind fun k h1 => match k with
      | true => .ok true h1
      | false => (sem b).ts ρ h1
  | .b1 a => .tw (fun ρ h => (sem a).ev ρ h) fun ρ h => (sem a).ts ρ h
  | .bnot a => .tw (fun ρ h => ((sem a).ev ρ h).bind fun x h1 => match truthD x h1 with
      | some b => .ok (.bl (!b)) h1
      | none => .no)
    fun ρ h => ((sem a).ts ρ h).bind fun k h1 => .ok (!k) h1
  | .ife t a b => .tw (fun ρ h => ((sem t).ts ρ h).bind fun k h1 => match k with
      | true => (sem a).ev ρ h1
      | false => (sem b).ev ρ h1)
    fun _ _ => .no
  | .tup es => .of fun ρ h => ((sem es).es ρ h).bind fun ds h1 => mkT ds h1
  | .lst m es => .of fun ρ h => ((sem es).es ρ h).bind fun ds h1 => mkL m ds h1
  | .dct => .of fun _ h => .ok (.ref h.length) (h ++ [.dct [] []])
  | .ix a i => .of fun ρ h => ((sem a).ev ρ h).bind fun x h1 => ((sem i).ev ρ h1).bind fun y h2 => R.of (itemD P.wd x y h2) h2
  | .sl m a lo hi => .of fun ρ h => ((sem a).ev ρ h).bind fun x h1 => ((sem lo).ev ρ h1).bind fun l h2 => match partD lo.isNil l with
    | some l => ((sem hi).ev ρ h2).bind fun u h3 => (match partD hi.isNil u with
      | some u => sliceD m x l u h3
      | none => .no)
    | none => .no
  | .rev m a => .of fun ρ h => ((sem a).ev ρ h).bind fun x h1 => revD m x h1
  | .call ad j es => .of fun ρ h => ((sem es).es ρ h).bind fun ds h1 => callJ P orc ad j ds h1
  | .callk ad j es ks => .of fun ρ h => ((sem es).es ρ h).bind fun ds h1 => ((sem ks).es ρ h1).bind fun es h2 => callJ P orc ad j (ds ++ es) h2
  | .meth ad mi o alts es => .of fun ρ h => ((sem o).ev ρ h).bind fun x h1 => match methJ alts mi (insOf x h1) with
    | some j => ((sem es).es ρ h1).bind fun ds h2 => callJ P orc ad j (x :: ds) h2
    | none => .no
  | .methk ad mi o alts es ks => .of fun ρ h => ((sem o).ev ρ h).bind fun x h1 => match methJ alts mi (insOf x h1) with
    | some j => ((sem es).es ρ h1).bind fun ds h2 => ((sem ks).es ρ h2).bind fun es h3 => callJ P orc ad j ([x] ++ (ds ++ es)) h3
    | none => .no
  | .kn c => .of fun _ h => .ok (.cls c) h
  | .cmeth ad _ o alts es ks => .of fun ρ h => ((sem o).ev ρ h).bind fun x h1 => match clsJ alts x with
    | some j => ((sem es).es ρ h1).bind fun ds h2 => ((sem ks).es ρ h2).bind fun es h3 => callJ P orc ad j ([x] ++ (ds ++ es)) h3
    | none => .no
  | .ccall ad o alts es ks => .of fun ρ h => ((sem o).ev ρ h).bind fun x h1 => match clsJ alts x with
    | some j => ((sem es).es ρ h1).bind fun ds h2 => ((sem ks).es ρ h2).bind fun es h3 => callJ P orc ad j (ds ++ es) h3
    | none => .no
  | .bino _ a b alts => .of fun ρ h => ((sem a).ev ρ h).bind fun x h1 => ((sem b).ev ρ h1).bind fun y h2 => match ownJ P alts (insOf x h2) (insOf y h2) with
    | some j => callJ P orc false j [x, y] h2
    | none => .no
  | .cmpo ne a b alts => .tw (fun ρ h => ((sem a).ev ρ h).bind fun x h1 => ((sem b).ev ρ h1).bind fun y h2 => match ownJ P alts (insOf x h2) (insOf y h2) with
    | some j => (callJ P orc false j [x, y] h2).bind fun d h3 => (eqR ne d h3).bind fun k h4 => .ok (.bl k) h4
    | none => .no)
    fun ρ h => ((sem a).ev ρ h).bind fun x h1 => ((sem b).ev ρ h1).bind fun y h2 => match ownJ P alts (insOf x h2) (insOf y h2) with
    | some j => (callJ P orc false j [x, y] h2).bind fun d h3 => eqR ne d h3
    | none => .no
  | .cmpt ne a b alts => .tw (fun ρ h => ((sem a).ev ρ h).bind fun x h1 => ((sem b).ev ρ h1).bind fun y h2 => match eqsT P orc alts x y h2 with
      | true => .ok (.bl (!ne)) h2
      | false => .no)
    fun ρ h => ((sem a).ev ρ h).bind fun x h1 => ((sem b).ev ρ h1).bind fun y h2 => match eqsT P orc alts x y h2 with
      | true => .ok (!ne) h2
      | false => .no
  | .lrg m a => .of fun ρ h => ((sem a).ev ρ h).bind fun x h1 => match x with
    | .int j => (match smallI j with
      | true => mkL m (rangeL 0 j) h1
      | false => .no)
    | _ => .no
  | .att o k alts => .of fun ρ h => ((sem o).ev ρ h).bind fun x h1 => match propJ alts (insOf x h1) with
    | some j => (callJ P orc false j [x] h1).pur
    | none => R.of (fieldD P.fld k (insOf x h1)) h1
  | .blt m b es => .of fun ρ h => ((sem es).es ρ h).bind fun ds h1 => bltD m b ds h1
  | .isi x ts => .of fun ρ h => ((sem x).ev ρ h).bind fun d h1 => R.of ((isiD P.nc d h1 ts).map D.bl) h1
  | .bm b o es => .of fun ρ h => ((sem o).ev ρ h).bind fun x h1 => match isRcv b x h1 with
    | true => ((sem es).es ρ h1).bind fun ds h2 => bmD b x ds h2
    | false => .no
  | .comp m own tg it ifs el => .of fun ρ h => ((sem it).it ρ h).bind fun I h1 => (compI (fun x h2 => ((sem tg).tg x (wipeE ρ own) h2).bind fun ρ2 h3 => ((sem ifs).tl ρ2 h3).bind fun k h4 => match k with
      | true => ((sem el).ev ρ2 h4).bind fun d h5 => .ok (some d) h5
      | false => .ok none h4) I h1).pur.bind fun l h2 => mkL m l h2
  | .comp2 m own own2 tg it tg2 it2 el => .of fun ρ h => (itL ((sem it).ev ρ h)).bind fun l h1 => (compJ (fun x h2 => ((sem tg).tg x (wipeE ρ own) h2).bind fun ρ2 h3 => (itL ((sem it2).ev ρ2 h3)).bind fun l2 h4 => compL (fun y h5 => ((sem tg2).tg y (wipeE ρ2 own2) h5).bind fun ρ3 h6 => ((sem el).ev ρ3 h6).bind fun d h7 => .ok (some d) h7) l2 h4) l h1).pur.bind fun l h2 => mkL m l h2
  | .lamb k => .of fun _ h => .ok (.lam k) h
  | .ltry w a => .of fun ρ h => ((sem a).ev ρ h).bind fun x h1 => match x with
    | .lam k => (match capsJ P k with
      | some caps => (match capD ρ caps with
        | some ds => tryW P w (orc k ds h1)
        | none => .no)
      | none => .no)
    | _ => .no
  | .nil => .li (fun _ h => .ok [] h) (fun _ h => .ok true h) fun ds ρ h => match ds with
    | [] => .ok ρ h
    | _ => .no
  | .cons e es => .li (fun ρ h => ((sem e).ev ρ h).bind fun d h1 => ((sem es).es ρ h1).bind fun ds h2 => .ok (d :: ds) h2) (fun ρ h => (sem e).ts ρ h) fun ds ρ h => match ds with
    | d :: r => ((sem e).tg d ρ h).bind fun ρ1 h1 => (sem es).tgs r ρ1 h1
    | [] => .no
  | .star e es => .li (fun ρ h => ((sem e).ev ρ h).bind fun d h1 => match seqOf d h1 with
    | some l => ((sem es).es ρ h1).bind fun ds h2 => .ok (l ++ ds) h2
    | none => .no) (fun _ _ => .no) fun _ _ _ => .no
  | .i_e e => .itr fun ρ h => ((sem e).ev ρ h).bind fun x h1 => match x with
    | .tup l => .ok (.items l) h1
    | .wtup l => .ok (.items l) h1
    | .lst l => .ok (.items l) h1
    | .bor l => .ok (.items l) h1
    | .ref n => (match h1[n]? with
      | some (.lst _) => .ok (.live n) h1
      | _ => .no)
    | _ => .no
  | .i_r1 a => .itr fun ρ h => ((sem a).ev ρ h).bind fun x h1 => match x with
    | .int j => (match smallI j with
      | true => .ok (.items (rangeL 0 j)) h1
      | false => .no)
    | _ => .no
  | .i_r2 a b => .itr fun ρ h => ((sem a).ev ρ h).bind fun x h1 => ((sem b).ev ρ h1).bind fun y h2 => match x, y with
    | .int i, .int j => (match smallI i && smallI j with
      | true => .ok (.items (rangeL i j)) h2
      | false => .no)
    | _, _ => .no
  | .i_en e => .itr fun ρ h => ((sem e).ev ρ h).bind fun x h1 => match x with
    | .lst l => .ok (.items (enumL 0 l)) h1
    | .tup l => .ok (.items (enumL 0 l)) h1
    | .wtup l => .ok (.items (enumL 0 l)) h1
    | _ => .no
  | .i_zip a b => .itr fun ρ h => ((sem a).ev ρ h).bind fun x h1 => ((sem b).ev ρ h1).bind fun y h2 => match x, y with
    | .tup k, .tup l => .ok (.items (pairL k l)) h2
    | .lst k, .lst l => .ok (.items (pairL k l)) h2
    | .lst k, .tup l => .ok (.items (pairL k l)) h2
    | _, _ => .no
  | .t_n i => .tar fun d ρ h => .ok (ρ.set i (some d)) h
  | .t_t ts => .tar fun d ρ h => (match seqOf d h with
    | some l => (sem ts).tgs l ρ h
    | none => .no)
  | .t_x n ts => .tar fun d ρ h => (match starD n d with
    | some l => (sem ts).tgs l ρ h
    | none => .no)
  | .t_s o i => .tar fun d ρ h => ((sem o).ev ρ h).bind fun x h1 => ((sem i).ev ρ h1).bind fun y h2 => match setD x y d h2 with
    | some h3 => .ok ρ h3
    | none => .no
  | .t_a o k => .tar fun d ρ h => ((sem o).ev ρ h).bind fun x h1 => match setF P.fld x k d h1 with
    | some h2 => .ok ρ h2
    | none => .no
def ev (e : E) (ρ : Env) (h : HH) : R D := (sem P orc e).ev ρ h
def evs (e : E) (ρ : Env) (h : HH) : R (List D) := (sem P orc e).es ρ h
def tst (e : E) (ρ : Env) (h : HH) : R Bool := (sem P orc e).ts ρ h
def tsts (e : E) (ρ : Env) (h : HH) : R Bool := (sem P orc e).tl ρ h
def itm (e : E) (ρ : Env) (h : HH) : R Itr := (sem P orc e).it ρ h
def asg (e : E) (d : D) (ρ : Env) (h : HH) : R Env := (sem P orc e).tg d ρ h
def asgs (e : E) (ds : List D) (ρ : Env) (h : HH) : R Env := (sem P orc e).tgs ds ρ h
/-- the turns of a loop over written items -/
def loopL (f : D → Env → HH → RS) : List D → Env → HH → RS
  | [], ρ, h => .nx ρ h
  | x :: r, ρ, h => match f x ρ h with
    | .nx ρ1 h1 => loopL f r ρ1 h1
    | .ct ρ1 h1 => loopL f r ρ1 h1
    | .bk ρ1 h1 => .nx ρ1 h1
    | z => z
def loopLive (f : D → Env → HH → RS) (n : Nat) : Nat → Nat → Env → HH → RS
  | 0, _, _, _ => .no
  | k + 1, i, ρ, h => match h[n]? with
    | some (.lst l) => (match l[i]? with
      | some x => (match f x ρ h with
        | .nx ρ1 h1 => loopLive f n k (i + 1) ρ1 h1
        | .ct ρ1 h1 => loopLive f n k (i + 1) ρ1 h1
        | .bk ρ1 h1 => .nx ρ1 h1
        | z => z)
      | none => .nx ρ h)
    | _ => .no
def loopI (f : D → Env → HH → RS) (it : Itr) (ρ : Env) (h : HH) : RS := match it with
  | .items l => loopL f l ρ h
  | .live n => loopLive f n fuel 0 ρ h
def whileL (c : Env → HH → R Bool) (f : Env → HH → RS) : Nat → Env → HH → RS
  | 0, _, _ => .no
  | k + 1, ρ, h => (c ρ h).st ρ fun b h1 => match b with
    | true => (match f ρ h1 with
      | .nx ρ1 h1 => whileL c f k ρ1 h1
      | .ct ρ1 h1 => whileL c f k ρ1 h1
      | .bk ρ1 h1 => .nx ρ1 h1
      | z => z)
    | false => .nx ρ h1
def setAll : List Nat → List D → Env → Env
  | i :: is, d :: ds, ρ => setAll is ds (ρ.set i (some d))
  | _, _, ρ => ρ
def run : S → Env → HH → RS
  | .skip, ρ, h => .nx ρ h
  | .pass, ρ, h => .nx ρ h
  | .seq s t, ρ, h => (match run s ρ h with
    | .nx ρ1 h1 => run t ρ1 h1
    | z => z)
  | .ex e, ρ, h => (ev P orc e ρ h).st ρ fun _ h1 => .nx ρ h1
  | .asg t e, ρ, h => (ev P orc e ρ h).st ρ fun d h1 => (asg P orc t d ρ h1).pur.st ρ fun ρ1 h2 => .nx ρ1 h2
  | .par ns es, ρ, h => (evs P orc es ρ h).st ρ fun ds h1 => match ds.length == ns.length with
    | true => .nx (setAll ns ds ρ) h1
    | false => .no
  | .aug i op e, ρ, h => (match ρ[i]? with
    | some (some x) => (ev P orc e ρ h).st ρ fun y h1 => (match x, y with
      | .int _, .int _ => (binD op false x y h1).st ρ fun z h2 => .nx (ρ.set i (some z)) h2
      | _, _ => .no)
    | _ => .no)
  | .ite c s t, ρ, h => (tst P orc c ρ h).st ρ fun k h1 => match k with
    | true => run s ρ h1
    | false => run t ρ h1
  | .loop t it b, ρ, h => (itm P orc it ρ h).st ρ fun I h1 => loopI (fun x ρ1 h2 => (asg P orc t x ρ1 h2).pur.st ρ1 fun ρ2 h3 => run b ρ2 h3) I ρ h1
  | .whil c b, ρ, h => whileL (tst P orc c) (run b) fuel ρ h
  | .ret e, ρ, h => (ev P orc e ρ h).st ρ fun d h1 => .rt d h1
  | .retN, _, h => .rt .non h
  | .brk, ρ, h => .bk ρ h
  | .cnt, ρ, h => .ct ρ h
  | .rais c es, ρ, h => (evs P orc es ρ h).st ρ fun ds h1 => match P.xs[c]? with
    | some x => (match x.n == ds.length with
      | true => (match selD ds (x.fs.map (·.2)) with
        | some vs => .exc c (x.fs.map (·.1)) vs ρ h1
        | none => .no)
      | false => .no)
    | none => .no
end
/-! ### calls -/
def startE (nl : Nat) (ds : List D) : Env := ds.map some ++ List.replicate (nl - ds.length) none
def lend (h : HH) : D → Option D
  | .ref n => match h[n]? with
    | some (.lst l) => if D.flats l then some (.bor l) else none
    | _ => none
  | .bor l => if D.flats l then some (.bor l) else none
  | d => if D.flat d then some d else none
def lends (h : HH) : List D → Option (List D)
  | [] => some []
  | d :: r => (match lend h d, lends h r with
    | some e, some l => some (e :: l)
    | _, _ => none)
def body (P : Prog) (orc : Orc) (f : Fn) (ds : List D) (h : HH) : R D := match ds.length == f.np with
  | true => (match run P orc f.body (startE f.nl ds) h with
    | .nx _ h1 => .ok .non h1
    | .rt d h1 => .ok d h1
    | .exc c ks vs _ h1 => .exc c ks vs h1
    | _ => .no)
  | false => .no
/-- the answer of a pure def, out of its own heap -/
def takeOut (d : D) (h : HH) : Option Ret := match d with
  | .ref n => (match h[n]? with
    | some (.lst l) => if D.flats l then some (.newl l) else none
    | _ => none)
  | d => if D.flat d then some (.val d) else none
def pureRun (P : Prog) (orc : Orc) (f : Fn) (ds : List D) (h : HH) : R Ret := match lends h ds with
  | some es => (match body P orc f es [] with
    | .ok d h1 => (match takeOut d h1 with
      | some r => .ok r h
      | none => .no)
    | .exc c ks vs _ => if D.flats vs then .exc c ks vs h else .no
    | .no => .no)
  | none => .no
def made (d : D) (h1 h : HH) : R Ret := match d, h1 with
  | .non, .ins c ks vs :: _ => if D.flats vs then .ok (.val (.obj c ks vs)) h else .no
  | _, _ => .no
def makeRun (P : Prog) (orc : Orc) (c : Nat) (f : Fn) (ds : List D) (h : HH) : R Ret := match lends h ds with
  | some es => (match body P orc f (.ref 0 :: es) [.ins c [] []] with
    | .ok d h1 => made d h1 h
    | .exc x ks vs _ => if D.flats vs then .exc x ks vs h else .no
    | .no => .no)
  | none => .no
def retOf : S → E
  | .ret e => e
  | _ => .nil
/-- the frame of a lambda's body -/
def lamE (nl : Nat) (caps : List Nat) (ds : List D) : Env := setAll caps ds (List.replicate nl none)
def callN (P : Prog) : Nat → Orc
  | 0 => fun _ _ _ => .no
  | n + 1 => fun k ds h => match P.fns[k]? with
    | none => .no
    | some f => match f.kind with
      | .fn true => pureRun P (callN P n) f ds h
      | .fn false => (body P (callN P n) f ds h).bind fun d h1 => .ok (.val d) h1
      | .ctor c true => makeRun P (callN P n) c f ds h
      | .ctor c false => (body P (callN P n) f (.ref h.length :: ds) (h ++ [.ins c [] []])).bind fun d h1 => match d with
        | .non => .ok (.val (.ref h.length)) h1
        | _ => .no
      | .lam caps => (ev P (callN P n) (retOf f.body) (lamE f.nl caps ds) h).bind fun d h1 => .ok (.val d) h1
end MV

/-! V1e: the interpreter's equations. -/
namespace MV
open PySem (Str Operator)
set_option autoImplicit true
theorem q_v : ev P orc (.v i) ρ h = (match ρ[i]? with
    | some (some d) => .ok d h
    | _ => .no) := rfl
theorem q_c : ev P orc (.c d) ρ h = .ok d h := rfl
theorem q_g : ev P orc (.g k) ρ h = R.of P.gl[k]? h := rfl
theorem q_bin : ev P orc (.bin op m a b) ρ h = (ev P orc a ρ h).bind fun x h1 => (ev P orc b ρ h1).bind fun y h2 => binD op m x y h2 := rfl
theorem q_neg : ev P orc (.neg a) ρ h = (ev P orc a ρ h).bind fun x h1 => match x with
    | .int i => .ok (.int (-i)) h1
    | _ => .no := rfl
theorem q_cmp : ev P orc (.cmp op a b) ρ h = (ev P orc a ρ h).bind fun x h1 => (ev P orc b ρ h1).bind fun y h2 => R.of ((cmpD op x y h2).map D.bl) h2 := rfl
theorem tq_cmp : tst P orc (.cmp op a b) ρ h = (ev P orc a ρ h).bind fun x h1 => (ev P orc b ρ h1).bind fun y h2 => R.of (cmpD op x y h2) h2 := rfl
theorem q_chain : ev P orc (.chain o p a b d) ρ h = (ev P orc a ρ h).bind fun x h1 => (ev P orc b ρ h1).bind fun y h2 => match cmpD o x y h2 with
      | some true => (ev P orc d ρ h2).bind fun z h3 => R.of ((cmpD p y z h3).map D.bl) h3
      | some false => .ok (.bl false) h2
      | none => .no := rfl
theorem tq_chain : tst P orc (.chain o p a b d) ρ h = (ev P orc a ρ h).bind fun x h1 => (ev P orc b ρ h1).bind fun y h2 => match cmpD o x y h2 with
      | some true => (ev P orc d ρ h2).bind fun z h3 => R.of (cmpD p y z h3) h3
      | some false => .ok false h2
      | none => .no := rfl
theorem q_band : ev P orc (.band a b) ρ h = (ev P orc a ρ h).bind fun x h1 => match truthD x h1 with
      | some true => ev P orc b ρ h1
      | some false => .ok x h1
      | none => .no := rfl
theorem tq_band : tst P orc (.band a b) ρ h = (tst P orc a ρ h).bind fun k h1 => match k with
      | true => tst P orc b ρ h1
      | false => .ok false h1 := rfl
theorem q_bor : ev P orc (.bor a b) ρ h = (ev P orc a ρ h).bind fun x h1 => match truthD x h1 with
      | some true => .ok x h1
      | some false => ev P orc b ρ h1
      | none => .no := rfl
theorem tq_bor : tst P orc (.bor a b) ρ h = (tst P orc a ρ h).bind fun k h1 => match k with
      | true => .ok true h1
      | false => tst P orc b ρ h1 := rfl
theorem q_b1 : ev P orc (.b1 a) ρ h = ev P orc a ρ h := rfl
theorem tq_b1 : tst P orc (.b1 a) ρ h = tst P orc a ρ h := rfl
theorem q_bnot : ev P orc (.bnot a) ρ h = (ev P orc a ρ h).bind fun x h1 => match truthD x h1 with
      | some b => .ok (.bl (!b)) h1
      | none => .no := rfl
theorem tq_bnot : tst P orc (.bnot a) ρ h = (tst P orc a ρ h).bind fun k h1 => .ok (!k) h1 := rfl
theorem q_ife : ev P orc (.ife t a b) ρ h = (tst P orc t ρ h).bind fun k h1 => match k with
      | true => ev P orc a ρ h1
      | false => ev P orc b ρ h1 := rfl
theorem tq_ife : tst P orc (.ife t a b) ρ h = .no := rfl
theorem q_tup : ev P orc (.tup es) ρ h = (evs P orc es ρ h).bind fun ds h1 => mkT ds h1 := rfl
theorem q_lst : ev P orc (.lst m es) ρ h = (evs P orc es ρ h).bind fun ds h1 => mkL m ds h1 := rfl
theorem q_dct : ev P orc (.dct) ρ h = .ok (.ref h.length) (h ++ [.dct [] []]) := rfl
theorem q_ix : ev P orc (.ix a i) ρ h = (ev P orc a ρ h).bind fun x h1 => (ev P orc i ρ h1).bind fun y h2 => R.of (itemD P.wd x y h2) h2 := rfl
theorem q_sl : ev P orc (.sl m a lo hi) ρ h = (ev P orc a ρ h).bind fun x h1 => (ev P orc lo ρ h1).bind fun l h2 => match partD lo.isNil l with
    | some l => (ev P orc hi ρ h2).bind fun u h3 => (match partD hi.isNil u with
      | some u => sliceD m x l u h3
      | none => .no)
    | none => .no := rfl
theorem q_rev : ev P orc (.rev m a) ρ h = (ev P orc a ρ h).bind fun x h1 => revD m x h1 := rfl
theorem q_call : ev P orc (.call ad j es) ρ h = (evs P orc es ρ h).bind fun ds h1 => callJ P orc ad j ds h1 := rfl
theorem q_callk : ev P orc (.callk ad j es ks) ρ h = (evs P orc es ρ h).bind fun ds h1 => (evs P orc ks ρ h1).bind fun es h2 => callJ P orc ad j (ds ++ es) h2 := rfl
theorem q_meth : ev P orc (.meth ad mi o alts es) ρ h = (ev P orc o ρ h).bind fun x h1 => match methJ alts mi (insOf x h1) with
    | some j => (evs P orc es ρ h1).bind fun ds h2 => callJ P orc ad j (x :: ds) h2
    | none => .no := rfl
theorem q_kn {c : Nat} : ev P orc (.kn c) ρ h = .ok (.cls c) h := rfl
theorem q_cmeth {ad : Bool} {mi : Nat} {o es ks : E} {alts : List (Nat × Nat)} : ev P orc (.cmeth ad mi o alts es ks) ρ h = (ev P orc o ρ h).bind fun x h1 => match clsJ alts x with
    | some j => (evs P orc es ρ h1).bind fun ds h2 => (evs P orc ks ρ h2).bind fun es h3 => callJ P orc ad j ([x] ++ (ds ++ es)) h3
    | none => .no := rfl
theorem q_ccall {ad : Bool} {o es ks : E} {alts : List (Nat × Nat)} : ev P orc (.ccall ad o alts es ks) ρ h = (ev P orc o ρ h).bind fun x h1 => match clsJ alts x with
    | some j => (evs P orc es ρ h1).bind fun ds h2 => (evs P orc ks ρ h2).bind fun es h3 => callJ P orc ad j (ds ++ es) h3
    | none => .no := rfl
theorem q_methk {ad : Bool} {mi : Nat} {o es ks : E} {alts : List (Nat × Nat)} : ev P orc (.methk ad mi o alts es ks) ρ h = (ev P orc o ρ h).bind fun x h1 => match methJ alts mi (insOf x h1) with
    | some j => (evs P orc es ρ h1).bind fun ds h2 => (evs P orc ks ρ h2).bind fun es h3 => callJ P orc ad j ([x] ++ (ds ++ es)) h3
    | none => .no := rfl
theorem q_bino {op : Operator} {a b : E} {alts : List (Nat × Nat)} : ev P orc (.bino op a b alts) ρ h = (ev P orc a ρ h).bind fun x h1 => (ev P orc b ρ h1).bind fun y h2 => match ownJ P alts (insOf x h2) (insOf y h2) with
    | some j => callJ P orc false j [x, y] h2
    | none => .no := rfl
theorem q_cmpo {ne : Bool} {a b : E} {alts : List (Nat × Nat)} : ev P orc (.cmpo ne a b alts) ρ h = (ev P orc a ρ h).bind fun x h1 => (ev P orc b ρ h1).bind fun y h2 => match ownJ P alts (insOf x h2) (insOf y h2) with
    | some j => (callJ P orc false j [x, y] h2).bind fun d h3 => (eqR ne d h3).bind fun k h4 => .ok (.bl k) h4
    | none => .no := rfl
theorem t_cmpoQ {ne : Bool} {a b : E} {alts : List (Nat × Nat)} : tst P orc (.cmpo ne a b alts) ρ h = (ev P orc a ρ h).bind fun x h1 => (ev P orc b ρ h1).bind fun y h2 => match ownJ P alts (insOf x h2) (insOf y h2) with
    | some j => (callJ P orc false j [x, y] h2).bind fun d h3 => eqR ne d h3
    | none => .no := rfl
theorem q_cmpt {ne : Bool} {a b : E} {alts : List (Nat × Nat)} : ev P orc (.cmpt ne a b alts) ρ h = (ev P orc a ρ h).bind fun x h1 => (ev P orc b ρ h1).bind fun y h2 => match eqsT P orc alts x y h2 with
    | true => .ok (.bl (!ne)) h2
    | false => .no := rfl
theorem t_cmptQ {ne : Bool} {a b : E} {alts : List (Nat × Nat)} : tst P orc (.cmpt ne a b alts) ρ h = (ev P orc a ρ h).bind fun x h1 => (ev P orc b ρ h1).bind fun y h2 => match eqsT P orc alts x y h2 with
    | true => .ok (!ne) h2
    | false => .no := rfl
theorem q_lrg {m : Bool} {a : E} : ev P orc (.lrg m a) ρ h = (ev P orc a ρ h).bind fun x h1 => match x with
    | .int j => (match smallI j with
      | true => mkL m (rangeL 0 j) h1
      | false => .no)
    | _ => .no := rfl
theorem q_att : ev P orc (.att o k alts) ρ h = (ev P orc o ρ h).bind fun x h1 => match propJ alts (insOf x h1) with
    | some j => (callJ P orc false j [x] h1).pur
    | none => R.of (fieldD P.fld k (insOf x h1)) h1 := rfl
theorem q_blt : ev P orc (.blt m b es) ρ h = (evs P orc es ρ h).bind fun ds h1 => bltD m b ds h1 := rfl
theorem q_isi : ev P orc (.isi x ts) ρ h = (ev P orc x ρ h).bind fun d h1 => R.of ((isiD P.nc d h1 ts).map D.bl) h1 := rfl
theorem q_bm : ev P orc (.bm b o es) ρ h = (ev P orc o ρ h).bind fun x h1 => match isRcv b x h1 with
    | true => (evs P orc es ρ h1).bind fun ds h2 => bmD b x ds h2
    | false => .no := rfl
theorem q_comp : ev P orc (.comp m own tg it ifs el) ρ h = (itm P orc it ρ h).bind fun I h1 => (compI (fun x h2 => (asg P orc tg x (wipeE ρ own) h2).bind fun ρ2 h3 => (tsts P orc ifs ρ2 h3).bind fun k h4 => match k with
      | true => (ev P orc el ρ2 h4).bind fun d h5 => .ok (some d) h5
      | false => .ok none h4) I h1).pur.bind fun l h2 => mkL m l h2 := rfl
theorem q_comp2 {m : Bool} {own own2 : List Nat} {tg it tg2 it2 el : E} : ev P orc (.comp2 m own own2 tg it tg2 it2 el) ρ h = (itL (ev P orc it ρ h)).bind fun l h1 => (compJ (fun x h2 => (asg P orc tg x (wipeE ρ own) h2).bind fun ρ2 h3 => (itL (ev P orc it2 ρ2 h3)).bind fun l2 h4 => compL (fun y h5 => (asg P orc tg2 y (wipeE ρ2 own2) h5).bind fun ρ3 h6 => (ev P orc el ρ3 h6).bind fun d h7 => R.ok (some d) h7) l2 h4) l h1).pur.bind fun l h2 => mkL m l h2 := rfl
theorem q_lamb {k : Nat} : ev P orc (.lamb k) ρ h = .ok (.lam k) h := rfl
theorem q_ltry {w : Bool} {a : E} : ev P orc (.ltry w a) ρ h = (ev P orc a ρ h).bind fun x h1 => match x with
    | .lam k => (match capsJ P k with
      | some caps => (match capD ρ caps with
        | some ds => tryW P w (orc k ds h1)
        | none => .no)
      | none => .no)
    | _ => .no := rfl
theorem q_nil : evs P orc (.nil) ρ h = .ok [] h := rfl
theorem lq_nil : tsts P orc (.nil) ρ h = .ok true h := rfl
theorem gq_nil : asgs P orc (.nil) ds ρ h = match ds with
    | [] => .ok ρ h
    | _ => .no := rfl
theorem q_cons : evs P orc (.cons e es) ρ h = (ev P orc e ρ h).bind fun d h1 => (evs P orc es ρ h1).bind fun ds h2 => .ok (d :: ds) h2 := rfl
theorem lq_cons : tsts P orc (.cons e es) ρ h = tst P orc e ρ h := rfl
theorem gq_cons : asgs P orc (.cons e es) ds ρ h = match ds with
    | d :: r => (asg P orc e d ρ h).bind fun ρ1 h1 => asgs P orc es r ρ1 h1
    | [] => .no := rfl
theorem q_star : evs P orc (.star e es) ρ h = (ev P orc e ρ h).bind fun d h1 => match seqOf d h1 with
    | some l => (evs P orc es ρ h1).bind fun ds h2 => .ok (l ++ ds) h2
    | none => .no := rfl
theorem lq_star : tsts P orc (.star e es) ρ h = .no := rfl
theorem gq_star : asgs P orc (.star e es) ds ρ h = .no := rfl
theorem q_i_e : itm P orc (.i_e e) ρ h = (ev P orc e ρ h).bind fun x h1 => match x with
    | .tup l => .ok (.items l) h1
    | .wtup l => .ok (.items l) h1
    | .lst l => .ok (.items l) h1
    | .bor l => .ok (.items l) h1
    | .ref n => (match h1[n]? with
      | some (.lst _) => .ok (.live n) h1
      | _ => .no)
    | _ => .no := rfl
theorem q_i_r1 : itm P orc (.i_r1 a) ρ h = (ev P orc a ρ h).bind fun x h1 => match x with
    | .int j => (match smallI j with
      | true => .ok (.items (rangeL 0 j)) h1
      | false => .no)
    | _ => .no := rfl
theorem q_i_r2 : itm P orc (.i_r2 a b) ρ h = (ev P orc a ρ h).bind fun x h1 => (ev P orc b ρ h1).bind fun y h2 => match x, y with
    | .int i, .int j => (match smallI i && smallI j with
      | true => .ok (.items (rangeL i j)) h2
      | false => .no)
    | _, _ => .no := rfl
theorem q_i_en : itm P orc (.i_en e) ρ h = (ev P orc e ρ h).bind fun x h1 => match x with
    | .lst l => .ok (.items (enumL 0 l)) h1
    | .tup l => .ok (.items (enumL 0 l)) h1
    | .wtup l => .ok (.items (enumL 0 l)) h1
    | _ => .no := rfl
theorem q_i_zip : itm P orc (.i_zip a b) ρ h = (ev P orc a ρ h).bind fun x h1 => (ev P orc b ρ h1).bind fun y h2 => match x, y with
    | .tup k, .tup l => .ok (.items (pairL k l)) h2
    | .lst k, .lst l => .ok (.items (pairL k l)) h2
    | .lst k, .tup l => .ok (.items (pairL k l)) h2
    | _, _ => .no := rfl
theorem q_t_n : asg P orc (.t_n i) d ρ h = .ok (ρ.set i (some d)) h := rfl
theorem q_t_t : asg P orc (.t_t ts) d ρ h = (match seqOf d h with
    | some l => asgs P orc ts l ρ h
    | none => .no) := rfl
theorem q_t_x {n : Nat} {ts : E} : asg P orc (.t_x n ts) d ρ h = (match starD n d with
    | some l => asgs P orc ts l ρ h
    | none => .no) := rfl
theorem q_t_s : asg P orc (.t_s o i) d ρ h = (ev P orc o ρ h).bind fun x h1 => (ev P orc i ρ h1).bind fun y h2 => match setD x y d h2 with
    | some h3 => .ok ρ h3
    | none => .no := rfl
theorem q_t_a : asg P orc (.t_a o k) d ρ h = (ev P orc o ρ h).bind fun x h1 => match setF P.fld x k d h1 with
    | some h2 => .ok ρ h2
    | none => .no := rfl
end MV

set_option maxRecDepth 100000
/-! V2: own data over the hand layer's heap. -/
namespace MV
open PySem PySem.Spec PyProof.Rows L2

/-- where the text's things stand -/
structure Lk where
  K : PySem.W.Frag
  nm : Nat → Str
  cl : Nat → Addr
  wa : Nat → Addr
  xc : Nat → Addr
  /-- tables of code objects, and the names of the lambdas made there -/
  tabs : List (Addr × Str)
  /-- the lambdas of the law's own frame: their name, the frame's cells, their texts -/
  lq : Str
  lcl : List (Str × Addr)
  lt : Nat → Arguments → Expr → Scope → Prop

/-- what may not be told as own frozen data; what is lent to be read -/
structure Fm where
  no : Addr → Prop
  bo : Addr → Prop
/-- the object at f is the k-th lambda of the law's frame -/
def LamO (L : Lk) (k : Nat) (f c' : Addr) (dV : Value) : HO := .ext fun h => ∃ (ps : Arguments) (bd : Expr) (sc : Scope) (doc pm ctv : Value), L.lt k ps bd sc ∧ (dV = .none ↔ ps.defaults = []) ∧ h.get? f = some (PySem.W.kdv_obj "<lambda>" L.lq ps (.expr bd) sc (cloFrom L.lcl sc.names []) dV doc pm c' ctv)
/-- no default, or a zero -/
def DfV (H : Hp) (dV : Value) : Prop := dV = .none ∨ ∃ T : Addr, dV = .ref T ∧ H T = some (.tup [.int 0])
mutual
inductive Rel (L : Lk) (F : Fm) (φ : List Addr) (H : Hp) : D → V → Prop
  | non : Rel L F φ H .non .non
  | bl (b : Bool) : Rel L F φ H (.bl b) (.bl b)
  | int (i : Int) : Rel L F φ H (.int i) (.int i)
  | str (s : Str) : Rel L F φ H (.str s) (.str s)
  | cls (c : Nat) : Rel L F φ H (.cls c) (.ref (L.cl c))
  | wd (c : Nat) : Rel L F φ H (.wd c) (.ref (L.wa c))
  | tup {a : Addr} {vs : List V} {ds : List D} : SqT L.K H a vs → Rels L F φ H ds vs → Rel L F φ H (.tup ds) (.ref a)
  | wtup {a : Addr} {o : Obj} {its : Array Value} {n : Nat} {vs : List V} {ds : List D} : L.K.lookup a = some o → o.cls = .type "tuple" → o.dict = none → o.data = .seq its n → its.size ≤ sizeLine → Vals vs its.toList → Rels L F φ H ds vs → Rel L F φ H (.wtup ds) (.ref a)
  | lst {a : Addr} {vs : List V} {ds : List D} : H a = some (.lst vs) → a ∉ φ → ¬ F.no a → Rels L F φ H ds vs → Rel L F φ H (.lst ds) (.ref a)
  | bor {a : Addr} {vs : List V} {ds : List D} : Rd H a (.lst vs) → a ∉ φ → F.bo a → Rels L F φ H ds vs → Rel L F φ H (.bor ds) (.ref a)
  | borK {a : Addr} {o : Obj} {its : Array Value} {n : Nat} {vs : List V} {ds : List D} : L.K.lookup a = some o → o.cls = .type "list" → o.dict = none → o.data = .seq its n → its.size ≤ sizeLine → Vals vs its.toList → Rels L F φ H ds vs → Rel L F φ H (.bor ds) (.ref a)
  | dct {a : Addr} {kvs : List (L2.Key × V)} {ks : List Key} {ds : List D} : H a = some (.dK kvs) → a ∉ φ → ¬ F.no a → kvs.map (·.1) = ks → Rels L F φ H ds (kvs.map (·.2)) → Rel L F φ H (.dct ks ds) (.ref a)
  | obj {a dx : Addr} {fs : List (Str × V)} {c : Nat} {ks : List Nat} {ds : List D} : H a = some (.ins (L.cl c) dx fs) → a ∉ φ → ¬ F.no a → fs.map (·.1) = ks.map L.nm → Rels L F φ H ds (fs.map (·.2)) → Rel L F φ H (.obj c ks ds) (.ref a)
  | ref {n : Nat} {a : Addr} : φ[n]? = some a → Rel L F φ H (.ref n) (.ref a)
  | lam {k : Nat} {f c' : Addr} {dV : Value} : H f = some (LamO L k f c' dV) → f ∉ φ → H c' = some (LamX.CodeO c' L.lq) → c' ∉ φ → DfV H dV → Rel L F φ H (.lam k) (.ref f)
inductive Rels (L : Lk) (F : Fm) (φ : List Addr) (H : Hp) : List D → List V → Prop
  | nil : Rels L F φ H [] []
  | cons {d : D} {v : V} {ds : List D} {vs : List V} : Rel L F φ H d v → Rels L F φ H ds vs → Rels L F φ H (d :: ds) (v :: vs)
end

inductive RO (L : Lk) (F : Fm) (φ : List Addr) (H : Hp) (a : Addr) : O → Prop
  | lst {vs : List V} {l : List D} : H a = some (.lst vs) → Rels L F φ H l vs → RO L F φ H a (.lst l)
  | dct {kvs : List (L2.Key × V)} {ks : List Key} {ds : List D} : H a = some (.dK kvs) → kvs.map (·.1) = ks → Rels L F φ H ds (kvs.map (·.2)) → RO L F φ H a (.dct ks ds)
  | ins {dx : Addr} {fs : List (Str × V)} {c : Nat} {ks : List Nat} {ds : List D} : H a = some (.ins (L.cl c) dx fs) → fs.map (·.1) = ks.map L.nm → Rels L F φ H ds (fs.map (·.2)) → RO L F φ H a (.ins c ks ds)
structure HR (L : Lk) (F : Fm) (φ : List Addr) (h : HH) (H : Hp) : Prop where
  len : φ.length = h.length
  nod : φ.Nodup
  at_ : ∀ (n : Nat) (a : Addr) (o : O), φ[n]? = some a → h[n]? = some o → RO L F φ H a o
  own : ∀ a ∈ φ, ¬ F.no a
  trk : ∀ a, F.no a → ∃ o, H a = some o
  bn : ∀ a, F.bo a → F.no a
  tab : LamX.Tabs L.tabs H
/-- the heap grows, what is not ours stays -/
structure XT (φ : List Addr) (H : Hp) (φ' : List Addr) (H' : Hp) : Prop where
  pre : ∃ more, φ' = φ ++ more ∧ ∀ p ∈ more, H p = none
  keep : ∀ a o, H a = some o → (∀ ps, o ≠ .tbl ps) → a ∉ φ → H' a = some o
  tup : ∀ a xs, H a = some (.tup xs) → H' a = some (.tup xs)
  frz : ∀ a o u, H a = some (.frz o u) → H' a = some (.frz o u)
  trk : ∀ a o, H a = some o → ∃ o', H' a = some o'

section
variable {L : Lk} {F : Fm} {φ φ' φ1 φ2 : List Addr} {H H' H1 H2 : Hp} {h h' : HH} {a : Addr} {d : D} {ds : List D} {v : V} {vs : List V}
theorem XT.refl (φ : List Addr) (H : Hp) : XT φ H φ H := ⟨⟨[], by simp, by simp⟩, fun _ _ e _ _ => e, fun _ _ e => e, fun _ _ _ e => e, fun _ _ e => ⟨_, e⟩⟩
theorem XT.nin (x : XT φ H φ' H') {o : HO} (e : H a = some o) (n : a ∉ φ) : a ∉ φ' := by
  obtain ⟨more, rfl, hm⟩ := x.pre
  intro z
  rcases List.mem_append.mp z with z | z
  · exact n z
  · have := hm a z
    rw [e] at this
    cases this
theorem XT.trans (x : XT φ H φ1 H1) (y : XT φ1 H1 φ2 H2) : XT φ H φ2 H2 := by
  refine ⟨?_, fun a o e nt n => y.keep a o (x.keep a o e nt n) nt (x.nin e n), fun a xs e => y.tup a xs (x.tup a xs e), fun a o u e => y.frz a o u (x.frz a o u e), fun a o e => ?_⟩
  · obtain ⟨m1, rfl, h1⟩ := x.pre
    obtain ⟨m2, rfl, h2⟩ := y.pre
    refine ⟨m1 ++ m2, by simp, fun p hp => ?_⟩
    rcases List.mem_append.mp hp with hp | hp
    · exact h1 p hp
    · have q := h2 p hp
      cases e : H p with
      | none => rfl
      | some o =>
        obtain ⟨o', e'⟩ := x.trk p o e
        rw [q] at e'
        cases e'
  · obtain ⟨o1, e1⟩ := x.trk a o e
    exact y.trk a o1 e1
theorem XT.get (x : XT φ H φ' H') {n : Nat} (e : φ[n]? = some a) : φ'[n]? = some a := by
  obtain ⟨more, rfl, _⟩ := x.pre
  rw [List.getElem?_append_left (List.getElem?_eq_some_iff.mp e).1]
  exact e
theorem lamO_nt {k : Nat} {f c' : Addr} {dV : Value} (ps : Array Value) : LamO L k f c' dV ≠ .tbl ps := fun z => by
  unfold LamO at z
  cases z
theorem lamO_nl {k : Nat} {f c' : Addr} {dV : Value} (xs : List V) : LamO L k f c' dV ≠ .lst xs := fun z => by
  unfold LamO at z
  cases z
theorem codeO_nl {q : Str} {c' : Addr} (xs : List V) : LamX.CodeO c' q ≠ .lst xs := fun z => by
  unfold LamX.CodeO at z
  cases z
theorem XT.dfv (x : XT φ H φ' H') {dV : Value} (e : DfV H dV) : DfV H' dV := by
  rcases e with e | ⟨T, e1, e2⟩
  · exact .inl e
  · exact .inr ⟨T, e1, x.tup _ _ e2⟩
theorem XT.sqt (x : XT φ H φ' H') {K : PySem.W.Frag} (e : SqT K H a vs) : SqT K H' a vs := by
  rcases e with (e | ⟨o, e⟩) | e
  · exact .inl (.inl (x.tup _ _ e))
  · exact .inl (.inr ⟨o, x.frz _ _ _ e⟩)
  · exact .inr e
theorem XT.rd (x : XT φ H φ' H') (e : Rd H a (.lst vs)) (n : a ∉ φ) : Rd H' a (.lst vs) ∧ a ∉ φ' := by
  rcases e with e | ⟨o, e⟩
  · exact ⟨.inl (x.keep _ _ e (fun _ z => nomatch z) n), x.nin e n⟩
  · exact ⟨.inr ⟨o, x.frz _ _ _ e⟩, x.nin e n⟩
mutual
theorem Rel.mono (x : XT φ H φ' H') : ∀ {d : D} {v : V}, Rel L F φ H d v → Rel L F φ' H' d v
  | _, _, .non => .non
  | _, _, .bl b => .bl b
  | _, _, .int i => .int i
  | _, _, .str s => .str s
  | _, _, .cls c => .cls c
  | _, _, .wd c => .wd c
  | _, _, .tup e r => .tup (x.sqt e) (Rels.mono x r)
  | _, _, .borK e1 e2 e3 e4 e5 e6 r => .borK e1 e2 e3 e4 e5 e6 (Rels.mono x r)
  | _, _, .wtup e1 e2 e3 e4 e5 e6 r => .wtup e1 e2 e3 e4 e5 e6 (Rels.mono x r)
  | _, _, .lst e n f r => .lst (x.keep _ _ e (fun _ z => nomatch z) n) (x.nin e n) f (Rels.mono x r)
  | _, _, .bor e n b r => .bor (x.rd e n).1 (x.rd e n).2 b (Rels.mono x r)
  | _, _, .dct e n f k r => .dct (x.keep _ _ e (fun _ z => nomatch z) n) (x.nin e n) f k (Rels.mono x r)
  | _, _, .obj e n f k r => .obj (x.keep _ _ e (fun _ z => nomatch z) n) (x.nin e n) f k (Rels.mono x r)
  | _, _, .ref e => .ref (x.get e)
  | _, _, .lam e n e2 n2 d => .lam (x.keep _ _ e lamO_nt n) (x.nin e n) (x.keep _ _ e2 LamX.codeO_ne n2) (x.nin e2 n2) (x.dfv d)
theorem Rels.mono (x : XT φ H φ' H') : ∀ {ds : List D} {vs : List V}, Rels L F φ H ds vs → Rels L F φ' H' ds vs
  | _, _, .nil => .nil
  | _, _, .cons r t => .cons (Rel.mono x r) (Rels.mono x t)
end
theorem Rels.length : ∀ {ds : List D} {vs : List V}, Rels L F φ H ds vs → ds.length = vs.length
  | _, _, .nil => rfl
  | _, _, .cons _ t => congrArg Nat.succ (Rels.length t)
theorem Rels.get : ∀ {ds : List D} {vs : List V} {i : Nat} {d : D}, Rels L F φ H ds vs → ds[i]? = some d → ∃ v, vs[i]? = some v ∧ Rel L F φ H d v
  | _, _, _, _, .nil, e => by simp at e
  | _, _, 0, _, .cons r _, e => by
    simp at e
    subst e
    exact ⟨_, rfl, r⟩
  | _, _, i + 1, d, .cons _ t, e => by
    obtain ⟨v, h1, h2⟩ := Rels.get (i := i) (d := d) t (by simpa using e)
    exact ⟨v, by simpa using h1, h2⟩
theorem Rels.get' : ∀ {ds : List D} {vs : List V} {i : Nat} {v : V}, Rels L F φ H ds vs → vs[i]? = some v → ∃ d, ds[i]? = some d ∧ Rel L F φ H d v
  | _, _, _, _, .nil, e => by simp at e
  | _, _, 0, _, .cons r _, e => by
    simp at e
    subst e
    exact ⟨_, rfl, r⟩
  | _, _, i + 1, d, .cons _ t, e => by
    obtain ⟨v, h1, h2⟩ := Rels.get' (i := i) t (by simpa using e)
    exact ⟨v, by simpa using h1, h2⟩
theorem Rels.append : ∀ {ds es : List D} {vs ws : List V}, Rels L F φ H ds vs → Rels L F φ H es ws → Rels L F φ H (ds ++ es) (vs ++ ws)
  | _, _, _, _, .nil, s => s
  | _, _, _, _, .cons r t, s => .cons r (Rels.append t s)
theorem Rels.take : ∀ {ds : List D} {vs : List V} (n : Nat), Rels L F φ H ds vs → Rels L F φ H (ds.take n) (vs.take n)
  | _, _, 0, _ => by simpa using Rels.nil
  | _, _, _ + 1, .nil => .nil
  | _, _, n + 1, .cons r t => .cons r (Rels.take n t)
theorem Rels.drop : ∀ {ds : List D} {vs : List V} (n : Nat), Rels L F φ H ds vs → Rels L F φ H (ds.drop n) (vs.drop n)
  | _, _, 0, r => by simpa using r
  | _, _, _ + 1, .nil => .nil
  | _, _, n + 1, .cons _ t => Rels.drop n t
theorem Rels.reverse : ∀ {ds : List D} {vs : List V}, Rels L F φ H ds vs → Rels L F φ H ds.reverse vs.reverse
  | _, _, .nil => .nil
  | _, _, .cons r t => by
    rw [List.reverse_cons, List.reverse_cons]
    exact (Rels.reverse t).append (.cons r .nil)
theorem Rels.set {d : D} {v : V} (r : Rel L F φ H d v) : ∀ {ds : List D} {vs : List V} (i : Nat), Rels L F φ H ds vs → Rels L F φ H (ds.set i d) (vs.set i v)
  | _, _, _, .nil => .nil
  | _, _, 0, .cons _ t => .cons r t
  | _, _, i + 1, .cons q t => .cons q (Rels.set r i t)
theorem Rels.dropLast : ∀ {ds : List D} {vs : List V}, Rels L F φ H ds vs → Rels L F φ H ds.dropLast vs.dropLast := fun {ds vs} r => by
  rw [List.dropLast_eq_take, List.dropLast_eq_take, r.length]
  exact r.take _
theorem Rels.snoc (r : Rels L F φ H ds vs) (q : Rel L F φ H d v) : Rels L F φ H (ds ++ [d]) (vs ++ [v]) := r.append (.cons q .nil)
theorem Rels.isEmpty (r : Rels L F φ H ds vs) : vs.isEmpty = ds.isEmpty := by
  cases r <;> rfl
theorem Rels.intsD : ∀ {ds : List D} {vs : List V} {ns : List Int}, Rels L F φ H ds vs → MV.intsD ds = some ns → vs = ns.map V.int
  | _, _, ns, .nil, e => by
    cases e
    rfl
  | _, _, ns, @Rels.cons _ _ _ _ d v ds vs r t, e => by
    cases r with
    | int i =>
      have e1 : (MV.intsD ds).map (i :: ·) = some ns := e
      cases q : MV.intsD ds with
      | none =>
        rw [q] at e1
        cases e1
      | some ms =>
        rw [q] at e1
        cases e1
        rw [Rels.intsD t q]
        rfl
    | _ => cases e
theorem Rels.bls : ∀ {ds : List D} {vs : List V} {ns : List Bool}, Rels L F φ H ds vs → MV.bls ds = some ns → vs = ns.map V.bl
  | _, _, ns, .nil, e => by
    cases e
    rfl
  | _, _, ns, @Rels.cons _ _ _ _ d v ds vs r t, e => by
    cases r with
    | bl i =>
      have e1 : (MV.bls ds).map (i :: ·) = some ns := e
      cases q : MV.bls ds with
      | none =>
        rw [q] at e1
        cases e1
      | some ms =>
        rw [q] at e1
        cases e1
        rw [Rels.bls t q]
        rfl
    | _ => cases e
theorem Rels.ofInts : ∀ ns : List Int, Rels L F φ H (ns.map D.int) (ns.map V.int)
  | [] => .nil
  | n :: r => .cons (.int n) (Rels.ofInts r)

theorem RO.mono {o : O} (x : XT φ H φ' H') (e : H' a = H a) (r : RO L F φ H a o) : RO L F φ' H' a o := by
  cases r with
  | lst q r => exact .lst (e.trans q) (r.mono x)
  | dct q k r => exact .dct (e.trans q) k (r.mono x)
  | ins q k r => exact .ins (e.trans q) k (r.mono x)
theorem RO.has {o : O} (r : RO L F φ H a o) : ∃ u, H a = some u ∧ Mut (some u) ∧ (∀ xs, u ≠ .tup xs) ∧ ∀ b w, u ≠ .frz b w := by
  cases r with
  | lst q _ => exact ⟨_, q, trivial, (fun _ z => by cases z), (fun _ _ z => by cases z)⟩
  | dct q _ _ => exact ⟨_, q, trivial, (fun _ z => by cases z), (fun _ _ z => by cases z)⟩
  | ins q _ _ => exact ⟨_, q, trivial, (fun _ z => by cases z), (fun _ _ z => by cases z)⟩
theorem RO.ntb {o : O} (r : RO L F φ H a o) {u : HO} (e : H a = some u) : ∀ ps, u ≠ .tbl ps := fun ps z => by
  subst z
  cases r with
  | lst q _ =>
    rw [q] at e
    cases e
  | dct q _ _ =>
    rw [q] at e
    cases e
  | ins q _ _ =>
    rw [q] at e
    cases e
theorem HR.ro (x : HR L F φ h H) {n : Nat} (e : φ[n]? = some a) : ∃ o, h[n]? = some o ∧ RO L F φ H a o := by
  have l : n < h.length := by
    rw [← x.len]
    exact (List.getElem?_eq_some_iff.mp e).1
  exact ⟨h[n], List.getElem?_eq_getElem l, x.at_ n a _ e (List.getElem?_eq_getElem l)⟩
theorem HR.trkφ (x : HR L F φ h H) (m : a ∈ φ) : ∃ u, H a = some u ∧ Mut (some u) ∧ (∀ xs, u ≠ .tup xs) ∧ ∀ b w, u ≠ .frz b w := by
  obtain ⟨n, e⟩ := List.mem_iff_getElem?.mp m
  obtain ⟨o, _, r⟩ := x.ro e
  exact r.has
theorem HR.nin (x : HR L F φ h H) (e : H a = none) : a ∉ φ := fun m => by
  obtain ⟨u, q, _⟩ := x.trkφ m
  rw [e] at q
  cases q
theorem HR.nF (x : HR L F φ h H) (e : H a = none) : ¬ F.no a := fun m => by
  obtain ⟨u, q⟩ := x.trk a m
  rw [e] at q
  cases q
theorem HR.nB (x : HR L F φ h H) (e : H a = none) : ¬ F.bo a := fun m => by
  obtain ⟨u, q⟩ := x.trk a (x.bn a m)
  rw [e] at q
  cases q
theorem HR.ne (x : HR L F φ h H) {n m : Nat} {b : Addr} (e : φ[n]? = some a) (e' : φ[m]? = some b) (d : n ≠ m) : a ≠ b := fun z => by
  subst z
  exact d ((List.getElem?_inj (List.getElem?_eq_some_iff.mp e).1 x.nod).mp (e.trans e'.symm))

/-! ### steps of the heap -/
/-- a new thing that is not ours -/
theorem XT.fresh {p : Addr} {o : HO} (e : H p = none) : XT φ H φ (upd H p o) :=
  ⟨⟨[], by simp, by simp⟩, fun a u q _ _ => by rw [upd_ne (ne_of_none q e)]; exact q, fun a u q => by rw [upd_ne (ne_of_none q e)]; exact q, fun a u w q => by rw [upd_ne (ne_of_none q e)]; exact q,
    fun a u q => ⟨u, by rw [upd_ne (ne_of_none q e)]; exact q⟩⟩
/-- a store elsewhere leaves the tables -/
theorem tabs_upd {T : List (Addr × Str)} {p : Addr} {o : HO} (t : LamX.Tabs T H) (n : ∀ u, H p = some u → (∀ ps, u ≠ .tbl ps) ∧ ∀ f, u ≠ .ext f) : LamX.Tabs T (upd H p o) := fun w hw => by
  obtain ⟨ps, h1, h2, h3⟩ := t w hw
  refine ⟨ps, ?_, h2, fun pos cv hc => ?_⟩
  · rw [upd_ne fun z => (n _ (by rw [← z]; exact h1)).1 ps rfl]
    exact h1
  · obtain ⟨c, e1, e2⟩ := h3 pos cv hc
    refine ⟨c, e1, ?_⟩
    rw [upd_ne fun z => (n _ (by rw [← z]; exact e2)).2 _ rfl]
    exact e2
theorem tabs_new {T : List (Addr × Str)} {p : Addr} {o : HO} (t : LamX.Tabs T H) (n : H p = none) : LamX.Tabs T (upd H p o) := tabs_upd t fun u q => by
  rw [n] at q
  cases q
theorem HR.fresh {p : Addr} {o : HO} (x : HR L F φ h H) (e : H p = none) : HR L F φ h (upd H p o) := by
  refine ⟨x.len, x.nod, fun n a u q w => ?_, x.own, fun a m => ?_, x.bn, tabs_new x.tab e⟩
  · have r := x.at_ n a u q w
    obtain ⟨z, hz, _⟩ := r.has
    exact r.mono (.fresh e) (upd_ne (ne_of_none hz e))
  · obtain ⟨u, q⟩ := x.trk a m
    exact ⟨u, by rw [upd_ne (ne_of_none q e)]; exact q⟩
/-- a new thing of ours -/
theorem XT.grow {p : Addr} {o : HO} (e : H p = none) : XT φ H (φ ++ [p]) (upd H p o) := by
  have x : XT φ H φ (upd H p o) := XT.fresh e
  exact ⟨⟨[p], rfl, fun q hq => by
    rw [List.mem_singleton.mp hq]
    exact e⟩, x.keep, x.tup, x.frz, x.trk⟩
theorem HR.grow {p : Addr} {o : HO} {w : O} (x : HR L F φ h H) (e : H p = none) (r : RO L F (φ ++ [p]) (upd H p o) p w) : HR L F (φ ++ [p]) (h ++ [w]) (upd H p o) := by
  have g : XT φ H (φ ++ [p]) (upd H p o) := .grow e
  refine ⟨by simp [x.len], ?_, fun n a u q z => ?_, fun a m => ?_, fun a m => ?_, x.bn, tabs_new x.tab e⟩
  · rw [List.nodup_append]
    refine ⟨x.nod, by simp, fun a ha b hb => ?_⟩
    rw [List.mem_singleton.mp hb]
    rintro rfl
    exact x.nin e ha
  · by_cases hn : n < φ.length
    · rw [List.getElem?_append_left hn] at q
      rw [List.getElem?_append_left (by rw [← x.len]; exact hn)] at z
      have r := x.at_ n a u q z
      obtain ⟨y, hy, _⟩ := r.has
      exact r.mono g (upd_ne (ne_of_none hy e))
    · have l := (List.getElem?_eq_some_iff.mp q).1
      rw [List.length_append, List.length_singleton] at l
      have en : n = φ.length := by omega
      subst en
      rw [List.getElem?_append_right (Nat.le_refl _), Nat.sub_self] at q
      have q' : p = a := Option.some.inj q
      subst q'
      rw [x.len, List.getElem?_append_right (Nat.le_refl _), Nat.sub_self] at z
      have z' : w = u := Option.some.inj z
      subst z'
      exact r
  · rcases List.mem_append.mp m with m | m
    · exact x.own a m
    · rw [List.mem_singleton.mp m]
      exact x.nF e
  · obtain ⟨u, q⟩ := x.trk a m
    exact ⟨u, by rw [upd_ne (ne_of_none q e)]; exact q⟩
/-- a thing of ours is changed -/
theorem XT.write {o : HO} (x : HR L F φ h H) (m : a ∈ φ) : XT φ H φ (upd H a o) := by
  obtain ⟨u, q, _, nt, nf⟩ := x.trkφ m
  refine ⟨⟨[], by simp, by simp⟩, fun b w e _ n => ?_, fun b xs e => ?_, fun b w y e => ?_, fun b w e => ?_⟩
  · rw [upd_ne (fun z => n (by rw [z]; exact m))]
    exact e
  · rw [upd_ne (fun z => by rw [z, q] at e; exact nt xs (Option.some.inj e))]
    exact e
  · rw [upd_ne (fun z => by rw [z, q] at e; exact nf w y (Option.some.inj e))]
    exact e
  · by_cases z : b = a
    · rw [z]
      exact ⟨o, upd_same⟩
    · exact ⟨w, by rw [upd_ne z]; exact e⟩
theorem HR.write {n : Nat} {o : HO} {w : O} (x : HR L F φ h H) (e : φ[n]? = some a) (r : RO L F φ (upd H a o) a w) : HR L F φ (h.set n w) (upd H a o) := by
  have m : a ∈ φ := List.mem_of_getElem? e
  have g : XT φ H φ (upd H a o) := .write x m
  refine ⟨by simp [x.len], x.nod, fun k b u q z => ?_, x.own, fun b hb => ?_, x.bn, tabs_upd x.tab fun u q => ?_⟩
  rotate_left 2
  · obtain ⟨w', _, r'⟩ := x.ro e
    cases r' with
    | lst q' _ =>
      rw [q'] at q
      cases q
      exact ⟨fun _ z => (nomatch z), fun _ z => (nomatch z)⟩
    | dct q' _ _ =>
      rw [q'] at q
      cases q
      exact ⟨fun _ z => (nomatch z), fun _ z => (nomatch z)⟩
    | ins q' _ _ =>
      rw [q'] at q
      cases q
      exact ⟨fun _ z => (nomatch z), fun _ z => (nomatch z)⟩
  · by_cases hk : k = n
    · subst hk
      rw [e] at q
      have q' : a = b := Option.some.inj q
      subst q'
      have l : k < h.length := by
        rw [← x.len]
        exact (List.getElem?_eq_some_iff.mp e).1
      rw [List.getElem?_set_self l] at z
      have z' : w = u := Option.some.inj z
      subst z'
      exact r
    · rw [List.getElem?_set_ne (Ne.symm hk)] at z
      exact (x.at_ k b u q z).mono g (upd_ne (x.ne q e hk))
  · obtain ⟨u, q⟩ := x.trk b hb
    exact g.trk b u q
/-! ### a list of ours that no own data tells (a comprehension's) -/
theorem ne_of_no {P : Addr → Prop} {p : Addr} (f : ¬ P a) (np : P p) : a ≠ p := fun z => f (by rw [z]; exact np)
theorem ne_of_nb {P : Addr → Prop} {p : Addr} (f : P a) (np : ¬ P p) : a ≠ p := fun z => np (by rw [← z]; exact f)
theorem ne_poke {p : Addr} {o : HO} {xs : List V} (hp : H p = some (.lst xs)) (e : H a = some o) (n : o ≠ .lst xs) : a ≠ p := fun z => by
  rw [z, hp] at e
  exact n (Option.some.inj e).symm
mutual
theorem Rel.poke {p : Addr} {xs ys : List V} (hp : H p = some (.lst xs)) (np : F.no p) (nb : ¬ F.bo p) : ∀ {d : D} {v : V}, Rel L F φ H d v → Rel L F φ (upd H p (.lst ys)) d v
  | _, _, .non => .non
  | _, _, .bl b => .bl b
  | _, _, .int i => .int i
  | _, _, .str s => .str s
  | _, _, .cls c => .cls c
  | _, _, .wd c => .wd c
  | _, _, .tup e r => .tup (by
      rcases e with (e | ⟨o, e⟩) | e
      · exact .inl (.inl (by rw [upd_ne (ne_poke hp e (fun z => nomatch z))]; exact e))
      · exact .inl (.inr ⟨o, by rw [upd_ne (ne_poke hp e (fun z => nomatch z))]; exact e⟩)
      · exact .inr e) (Rels.poke hp np nb r)
  | _, _, .borK e1 e2 e3 e4 e5 e6 r => .borK e1 e2 e3 e4 e5 e6 (Rels.poke hp np nb r)
  | _, _, .wtup e1 e2 e3 e4 e5 e6 r => .wtup e1 e2 e3 e4 e5 e6 (Rels.poke hp np nb r)
  | _, _, .lst e n f r => .lst (by rw [upd_ne (ne_of_no f np)]; exact e) n f (Rels.poke hp np nb r)
  | _, _, .bor e n b r => .bor (by
      have ne := ne_of_nb b nb
      rcases e with e | ⟨o, e⟩
      · exact .inl (by rw [upd_ne ne]; exact e)
      · exact .inr ⟨o, by rw [upd_ne ne]; exact e⟩) n b (Rels.poke hp np nb r)
  | _, _, .dct e n f k r => .dct (by rw [upd_ne (ne_of_no f np)]; exact e) n f k (Rels.poke hp np nb r)
  | _, _, .obj e n f k r => .obj (by rw [upd_ne (ne_of_no f np)]; exact e) n f k (Rels.poke hp np nb r)
  | _, _, .ref e => .ref e
  | _, _, .lam e n e2 n2 d => .lam (by rw [upd_ne (ne_poke hp e (lamO_nl xs))]; exact e) n (by rw [upd_ne (ne_poke hp e2 (codeO_nl xs))]; exact e2) n2 (by
      rcases d with d | ⟨T, d1, d2⟩
      · exact .inl d
      · exact .inr ⟨T, d1, by rw [upd_ne (ne_poke hp d2 (fun z => nomatch z))]; exact d2⟩)
theorem Rels.poke {p : Addr} {xs ys : List V} (hp : H p = some (.lst xs)) (np : F.no p) (nb : ¬ F.bo p) : ∀ {ds : List D} {vs : List V}, Rels L F φ H ds vs → Rels L F φ (upd H p (.lst ys)) ds vs
  | _, _, .nil => .nil
  | _, _, .cons r t => .cons (Rel.poke hp np nb r) (Rels.poke hp np nb t)
end
theorem RO.poke {p : Addr} {xs ys : List V} {o : O} (hp : H p = some (.lst xs)) (np : F.no p) (nb : ¬ F.bo p) (ne : a ≠ p) (r : RO L F φ H a o) : RO L F φ (upd H p (.lst ys)) a o := by
  cases r with
  | lst q r => exact .lst (by rw [upd_ne ne]; exact q) (r.poke hp np nb)
  | dct q k r => exact .dct (by rw [upd_ne ne]; exact q) k (r.poke hp np nb)
  | ins q k r => exact .ins (by rw [upd_ne ne]; exact q) k (r.poke hp np nb)
theorem HR.poke {p : Addr} {xs ys : List V} (hp : H p = some (.lst xs)) (np : F.no p) (nb : ¬ F.bo p) (x : HR L F φ h H) : HR L F φ h (upd H p (.lst ys)) := by
  refine ⟨x.len, x.nod, fun n a o q w => (x.at_ n a o q w).poke hp np nb (ne_of_no (x.own a (List.mem_of_getElem? q)) np), x.own, fun a m => ?_, x.bn, tabs_upd x.tab fun u q => by
    rw [hp] at q
    cases q
    exact ⟨fun _ z => (nomatch z), fun _ z => (nomatch z)⟩⟩
  obtain ⟨u, q⟩ := x.trk a m
  by_cases z : a = p
  · rw [z]
    exact ⟨_, upd_same⟩
  · exact ⟨u, by rw [upd_ne z]; exact q⟩
/-! ### other frames -/
mutual
theorem Rel.frame {F' : Fm} (hn : ∀ a o, H a = some o → F'.no a → F.no a) (hb : ∀ a, F.bo a → F'.bo a) : ∀ {d : D} {v : V}, Rel L F φ H d v → Rel L F' φ H d v
  | _, _, .non => .non
  | _, _, .bl b => .bl b
  | _, _, .int i => .int i
  | _, _, .str s => .str s
  | _, _, .cls c => .cls c
  | _, _, .wd c => .wd c
  | _, _, .tup e r => .tup e (Rels.frame hn hb r)
  | _, _, .borK e1 e2 e3 e4 e5 e6 r => .borK e1 e2 e3 e4 e5 e6 (Rels.frame hn hb r)
  | _, _, .wtup e1 e2 e3 e4 e5 e6 r => .wtup e1 e2 e3 e4 e5 e6 (Rels.frame hn hb r)
  | _, _, .lst e n f r => .lst e n (fun z => f (hn _ _ e z)) (Rels.frame hn hb r)
  | _, _, .bor e n b r => .bor e n (hb _ b) (Rels.frame hn hb r)
  | _, _, .dct e n f k r => .dct e n (fun z => f (hn _ _ e z)) k (Rels.frame hn hb r)
  | _, _, .obj e n f k r => .obj e n (fun z => f (hn _ _ e z)) k (Rels.frame hn hb r)
  | _, _, .ref e => .ref e
  | _, _, .lam e n e2 n2 d => .lam e n e2 n2 d
theorem Rels.frame {F' : Fm} (hn : ∀ a o, H a = some o → F'.no a → F.no a) (hb : ∀ a, F.bo a → F'.bo a) : ∀ {ds : List D} {vs : List V}, Rels L F φ H ds vs → Rels L F' φ H ds vs
  | _, _, .nil => .nil
  | _, _, .cons r t => .cons (Rel.frame hn hb r) (Rels.frame hn hb t)
end
theorem RO.frame {F' : Fm} (hn : ∀ a o, H a = some o → F'.no a → F.no a) (hb : ∀ a, F.bo a → F'.bo a) {o : O} (r : RO L F φ H a o) : RO L F' φ H a o := by
  cases r with
  | lst q r => exact .lst q (r.frame hn hb)
  | dct q k r => exact .dct q k (r.frame hn hb)
  | ins q k r => exact .ins q k (r.frame hn hb)
mutual
/-- flat data stay the same in another frame, where what is frozen stays so -/
theorem Rel.to {F' : Fm} {ψ : List Addr} (hn : ∀ a o, H a = some o → a ∉ φ → ¬ F.no a → a ∉ ψ ∧ ¬ F'.no a) : ∀ {d : D} {v : V}, Rel L F φ H d v → D.flat d = true → Rel L F' ψ H d v
  | _, _, .non, _ => .non
  | _, _, .bl b, _ => .bl b
  | _, _, .int i, _ => .int i
  | _, _, .str s, _ => .str s
  | _, _, .cls c, _ => .cls c
  | _, _, .wd c, _ => .wd c
  | _, _, .tup e r, c => .tup e (Rels.to hn r (by simpa only [D.flat] using c))
  | _, _, .borK e1 e2 e3 e4 e5 e6 r, c => by simp [D.flat] at c
  | _, _, .wtup e1 e2 e3 e4 e5 e6 r, c => .wtup e1 e2 e3 e4 e5 e6 (Rels.to hn r (by simpa only [D.flat] using c))
  | _, _, .lst e n f r, c => .lst e (hn _ _ e n f).1 (hn _ _ e n f).2 (Rels.to hn r (by simpa only [D.flat] using c))
  | _, _, .bor e n b r, c => by simp [D.flat] at c
  | _, _, .dct e n f k r, c => .dct e (hn _ _ e n f).1 (hn _ _ e n f).2 k (Rels.to hn r (by simpa only [D.flat] using c))
  | _, _, .obj e n f k r, c => .obj e (hn _ _ e n f).1 (hn _ _ e n f).2 k (Rels.to hn r (by simpa only [D.flat] using c))
  | _, _, .ref e, c => by simp [D.flat] at c
  | _, _, .lam _ _ _ _ _, c => by simp [D.flat] at c
theorem Rels.to {F' : Fm} {ψ : List Addr} (hn : ∀ a o, H a = some o → a ∉ φ → ¬ F.no a → a ∉ ψ ∧ ¬ F'.no a) : ∀ {ds : List D} {vs : List V}, Rels L F φ H ds vs → D.flats ds = true → Rels L F' ψ H ds vs
  | _, _, .nil, _ => .nil
  | _, _, .cons r t, c => by
    have c := Bool.and_eq_true_iff.mp (by simpa only [D.flats] using c)
    exact .cons (Rel.to hn r c.1) (Rels.to hn t c.2)
end
end
end MV

set_option maxRecDepth 100000
set_option maxHeartbeats 1000000
/-! V3: readings of runs; operators by values. -/
namespace MV
open PySem PySem.Spec PyProof.Rows L2
/-- an exception as it leaves -/
def XRel (L : Lk) (F : Fm) (φ : List Addr) (H : Hp) (c : Nat) (ks : List Nat) (ds : List D) (cls : Value) (dd : Option Addr) : Prop :=
  ∃ (d : Addr) (fs : List (Str × V)), cls = .ref (L.xc c) ∧ dd = some d ∧ H d = some (.xd fs) ∧ fs.map (·.1) = ks.map L.nm ∧ Rels L F φ H ds (fs.map (·.2))
/-- what is wanted of an exception -/
def GX (L : Lk) (F : Fm) (φ : List Addr) (H : Hp) (c : Nat) (ks : List Nat) (ds : List D) (h : HH) (E : XK) : Prop :=
  ∀ φ' H' cls dd, XT φ H φ' H' → HR L F φ' h H' → XRel L F φ' H' c ks ds cls dd → E cls dd H'
/-- a run's result is good for what is wanted -/
def G {α β : Type} (L : Lk) (F : Fm) (φ : List Addr) (H : Hp) (Rl : List Addr → Hp → α → β → Prop) (r : R α) (Q : β → Hp → Prop) (E : XK) : Prop := match r with
  | .ok a h' => ∀ φ' H' b, XT φ H φ' H' → HR L F φ' h' H' → Rl φ' H' a b → Q b H'
  | .exc c ks ds h' => GX L F φ H c ks ds h' E
  | .no => False
abbrev GE (L : Lk) (F : Fm) (φ : List Addr) (H : Hp) (r : R D) (Q : VK) (E : XK) : Prop := G L F φ H (fun φ H d v => Rel L F φ H d v) r Q E
abbrev GEs (L : Lk) (F : Fm) (φ : List Addr) (H : Hp) (r : R (List D)) (Q : List V → Hp → Prop) (E : XK) : Prop := G L F φ H (fun φ H d v => Rels L F φ H d v) r Q E
abbrev GB (L : Lk) (F : Fm) (φ : List Addr) (H : Hp) (r : R Bool) (Q : Bool → Hp → Prop) (E : XK) : Prop := G L F φ H (fun _ _ a b => a = b) r Q E
section
variable {α β γ δ : Type} {L : Lk} {F : Fm} {φ φ' φ1 : List Addr} {H H' H1 : Hp} {h h' h1 : HH} {Rl : List Addr → Hp → α → β → Prop} {Rm : List Addr → Hp → γ → δ → Prop} {Q : β → Hp → Prop} {Q2 : δ → Hp → Prop} {E E2 : XK} {r : R α}
theorem GX.mono {c : Nat} {ks : List Nat} {ds : List D} (x : XT φ H φ1 H1) (g : GX L F φ H c ks ds h E) : GX L F φ1 H1 c ks ds h E := fun φ' H' cls dd y hr xr => g φ' H' cls dd (x.trans y) hr xr
theorem G.mono (x : XT φ H φ1 H1) (g : G L F φ H Rl r Q E) : G L F φ1 H1 Rl r Q E := by
  cases r with
  | ok a h' => exact fun φ' H' b y hr rl => g φ' H' b (x.trans y) hr rl
  | exc c ks ds h' => exact GX.mono x g
  | no => exact g
theorem G.imp {Q' : β → Hp → Prop} (g : G L F φ H Rl r Q E) (q : ∀ b H', Q b H' → Q' b H') : G L F φ H Rl r Q' E := by
  cases r with
  | ok a h' => exact fun φ' H' b y hr rl => q _ _ (g φ' H' b y hr rl)
  | exc c ks ds h' => exact g
  | no => exact g
/-- one run and what follows it -/
theorem G.bind {f : α → HH → R γ} (g : G L F φ H Rm (r.bind f) Q2 E)
    (k : ∀ a h1 φ1 H1 b, r = .ok a h1 → XT φ H φ1 H1 → HR L F φ1 h1 H1 → Rl φ1 H1 a b → G L F φ1 H1 Rm (f a h1) Q2 E → Q b H1) : G L F φ H Rl r Q E := by
  cases r with
  | ok a h1 => exact fun φ1 H1 b x hr rl => k a h1 φ1 H1 b rfl x hr rl (G.mono x g)
  | exc c ks ds h' => exact g
  | no => exact g
theorem G.ok {a : α} (g : G L F φ H Rl (.ok a h) Q E) {b : β} (x : HR L F φ h H) (rl : Rl φ H a b) : Q b H := g φ H b (.refl φ H) x rl
theorem G.ok' {a : α} (g : G L F φ H Rl (.ok a h) Q E) {b : β} (t : XT φ H φ' H') (x : HR L F φ' h H') (rl : Rl φ' H' a b) : Q b H' := g φ' H' b t x rl
theorem G.no_ (g : G L F φ H Rl (.no : R α) Q E) : False := g
end

/-! ### the frame's slots -/
structure ER (L : Lk) (F : Fm) (φ : List Addr) (H : Hp) (ρ : Env) (σ : L2.St) : Prop where
  len : ρ.length = σ.length
  at_ : ∀ (i : Nat) (d : D), ρ[i]? = some (some d) → ∃ v, σ[i]? = some (some v) ∧ Rel L F φ H d v
section
variable {L : Lk} {F : Fm} {φ φ' : List Addr} {H H' : Hp} {h : HH} {ρ : Env} {σ : L2.St}
theorem ER.mono (x : XT φ H φ' H') (e : ER L F φ H ρ σ) : ER L F φ' H' ρ σ := ⟨e.len, fun i d q => by
  obtain ⟨v, a, b⟩ := e.at_ i d q
  exact ⟨v, a, b.mono x⟩⟩
theorem ER.set {i : Nat} {d : D} {v : V} (e : ER L F φ H ρ σ) (r : Rel L F φ H d v) : ER L F φ H (ρ.set i (some d)) (σ.set i (some v)) := by
  refine ⟨by simp [e.len], fun j c q => ?_⟩
  by_cases hj : j = i
  · subst hj
    have l : j < ρ.length := by
      have := (List.getElem?_eq_some_iff.mp q).1
      simpa using this
    rw [List.getElem?_set_self l] at q
    cases q
    exact ⟨v, List.getElem?_set_self (by rw [← e.len]; exact l), r⟩
  · rw [List.getElem?_set_ne (Ne.symm hj)] at q
    obtain ⟨w, a, b⟩ := e.at_ j c q
    exact ⟨w, by rw [List.getElem?_set_ne (Ne.symm hj)]; exact a, b⟩
theorem ER.setN {i : Nat} (e : ER L F φ H ρ σ) : ER L F φ H (ρ.set i none) (σ.set i none) := by
  refine ⟨by simp [e.len], fun j c q => ?_⟩
  by_cases hj : j = i
  · subst hj
    have l : j < ρ.length := by
      have := (List.getElem?_eq_some_iff.mp q).1
      simpa using this
    rw [List.getElem?_set_self l] at q
    cases q
  · rw [List.getElem?_set_ne (Ne.symm hj)] at q
    obtain ⟨w, a, b⟩ := e.at_ j c q
    exact ⟨w, by rw [List.getElem?_set_ne (Ne.symm hj)]; exact a, b⟩
theorem ER.wipe (e : ER L F φ H ρ σ) : ∀ vs : List Nat, ER L F φ H (wipeE ρ vs) (L2.wipe σ vs)
  | [] => e
  | v :: vs => (ER.wipe e vs).setN
end

/-! ### readings -/
/-- an expression's reading: its run is good -/
def rdE (L : Lk) (W : WX) (f : Env → HH → R D) : TE := fun σ H Q => ∃ F φ ρ h, HR L F φ h H ∧ ER L F φ H ρ σ ∧ GE L F φ H (f ρ h) Q fun c d H' => W c d σ H'
def rdT (L : Lk) (W : WX) (f : Env → HH → R Bool) : TT := fun σ H Q => ∃ F φ ρ h, HR L F φ h H ∧ ER L F φ H ρ σ ∧ GB L F φ H (f ρ h) Q fun c d H' => W c d σ H'
def rdA (L : Lk) (W : WX) (f : Env → HH → R (List D)) : TA := fun σ H Q => ∃ F φ ρ h, HR L F φ h H ∧ ER L F φ H ρ σ ∧ GEs L F φ H (f ρ h) Q fun c d H' => W c d σ H'
end MV
namespace L2
open PySem PySem.Spec PyProof.Rows
theorem PE.imp {X : Cx} {e : Expr} {t t' : TE} (p : PE X e t) (q : ∀ σ H Q, t' σ H Q → t σ H Q) : PE X e t' := ⟨fun pins s σ H Q I h => p.run pins s σ H Q I (q σ H Q h)⟩
theorem PT.imp {X : Cx} {e : Expr} {t t' : TT} (p : PT X e t) (q : ∀ σ H Q, t' σ H Q → t σ H Q) : PT X e t' := ⟨fun pins s σ H Q I h => p.run pins s σ H Q I (q σ H Q h)⟩
theorem PA.imp {X : Cx} {e : List Expr} {t t' : TA} (p : PA X e t) (q : ∀ σ H Q, t' σ H Q → t σ H Q) : PA X e t' := ⟨fun pos pins s σ H Q I h => p.run pos pins s σ H Q I (q σ H Q h)⟩
theorem PS.imp {X : Cx} {e : Stmt} {t t' : TS} (p : PS X e t) (q : ∀ D σ H, t' D σ H → t D σ H) : PS X e t' := ⟨fun pins s σ H D I h => p.run pins s σ H D I (q D σ H h)⟩
theorem PSs.imp {X : Cx} {e : List Stmt} {t t' : TS} (p : PSs X e t) (q : ∀ D σ H, t' D σ H → t D σ H) : PSs X e t' := ⟨fun pins s σ H D I h => p.run pins s σ H D I (q D σ H h)⟩
theorem PE.or {X : Cx} {e : Expr} {t t' : TE} (p : PE X e t) (q : PE X e t') : PE X e (fun σ H Q => t σ H Q ∨ t' σ H Q) := ⟨fun pins s σ H Q I h => h.elim (p.run pins s σ H Q I) (q.run pins s σ H Q I)⟩

end L2
namespace MV
open PySem PySem.Spec PyProof.Rows L2
/-! ### what the heap says of own data -/
section
variable {L : Lk} {F : Fm} {φ φ' : List Addr} {H H' : Hp} {h : HH} {d x y : D} {v : V} {l : List D}
theorem listOf_ok (x : HR L F φ h H) (r : Rel L F φ H d v) (e : listOf d h = some l) : ∃ a vs, v = .ref a ∧ SqL L.K H a vs ∧ Rels L F φ H l vs := by
  cases r with
  | lst q _ _ r =>
    cases e
    exact ⟨_, _, rfl, .inl (.inl q), r⟩
  | bor q _ _ r =>
    cases e
    exact ⟨_, _, rfl, .inl q, r⟩
  | borK e1 e2 e3 e4 e5 e6 r =>
    cases e
    exact ⟨_, _, rfl, .inr ⟨_, _, _, e1, e2, e3, e4, e5, e6⟩, r⟩
  | @ref n a q =>
    obtain ⟨o, e1, ro⟩ := x.ro q
    have e : (match h[n]? with
      | some (.lst l) => some l
      | _ => none) = some l := e
    rw [e1] at e
    cases ro with
    | lst q2 r =>
      cases e
      exact ⟨_, _, rfl, .inl (.inl q2), r⟩
    | _ => cases e
  | _ => cases e
theorem seqOf_ok (x : HR L F φ h H) (r : Rel L F φ H d v) (e : seqOf d h = some l) : ∃ a vs, v = .ref a ∧ (SqL L.K H a vs ∨ SqT L.K H a vs) ∧ Rels L F φ H l vs := by
  cases r with
  | tup q r =>
    cases e
    exact ⟨_, _, rfl, .inr q, r⟩
  | wtup e1 e2 e3 e4 e5 e6 r =>
    cases e
    exact ⟨_, _, rfl, .inr (.inr ⟨_, _, _, e1, e2, e4, e5, e6⟩), r⟩
  | lst q n f r =>
    obtain ⟨a, vs, e1, e2, e3⟩ := listOf_ok (d := .lst _) x (.lst q n f r) e
    exact ⟨a, vs, e1, .inl e2, e3⟩
  | borK e1 e2 e3 e4 e5 e6 r =>
    obtain ⟨a, vs, f1, f2, f3⟩ := listOf_ok (d := .bor _) x (.borK e1 e2 e3 e4 e5 e6 r) e
    exact ⟨a, vs, f1, .inl f2, f3⟩
  | bor q n b r =>
    obtain ⟨a, vs, e1, e2, e3⟩ := listOf_ok (d := .bor _) x (.bor q n b r) e
    exact ⟨a, vs, e1, .inl e2, e3⟩
  | ref q =>
    obtain ⟨a, vs, e1, e2, e3⟩ := listOf_ok (d := .ref _) x (.ref q) e
    exact ⟨a, vs, e1, .inl e2, e3⟩
  | _ => cases e
theorem ble_line {n : Nat} (e : Nat.ble n line = true) : n ≤ sizeLine := by
  have q := Nat.le_of_ble_eq_true e
  rw [sizeLine_eq]
  exact q
theorem blt_line {n : Nat} (e : Nat.blt n line = true) : n < sizeLine := by
  have q := Nat.le_of_ble_eq_true e
  rw [sizeLine_eq]
  exact q
theorem sqK {K K' : PySem.W.Frag} {a : Addr} {vs : List V} (e : K = K') (q : SqL K' H a vs) : SqL K H a vs := by
  rw [e]
  exact q
/-- a new list -/
theorem mkL_ok {m : Bool} {vs : List V} {Q : VK} {E : XK} (x : HR L F φ h H) (r : Rels L F φ H l vs) (g : GE L F φ H (mkL m l h) Q E) : vs.length ≤ sizeLine ∧ ∀ p, H p = none → Q (.ref p) (upd H p (.lst vs)) := by
  unfold mkL at g
  cases hb : Nat.ble l.length line with
  | false =>
    rw [hb] at g
    exact (G.no_ g).elim
  | true =>
    rw [hb] at g
    refine ⟨by rw [← r.length]; exact ble_line hb, fun p hp => ?_⟩
    cases m with
    | true =>
      have t : XT φ H (φ ++ [p]) (upd H p (.lst vs)) := .grow hp
      refine G.ok' g t (x.grow hp (.lst upd_same (r.mono t))) (.ref ?_)
      rw [← x.len, List.getElem?_append_right (Nat.le_refl _), Nat.sub_self]
      rfl
    | false =>
      have t : XT φ H φ (upd H p (.lst vs)) := .fresh hp
      exact G.ok' g t (x.fresh hp) (.lst upd_same (x.nin hp) (x.nF hp) (r.mono t))
theorem mkT_ok {vs : List V} {Q : VK} {E : XK} (x : HR L F φ h H) (r : Rels L F φ H l vs) (g : GE L F φ H (mkT l h) Q E) : vs.length ≤ sizeLine ∧ ∀ p, H p = none → Q (.ref p) (upd H p (.tup vs)) := by
  unfold mkT at g
  cases hb : Nat.ble l.length line with
  | false =>
    rw [hb] at g
    exact (G.no_ g).elim
  | true =>
    rw [hb] at g
    refine ⟨by rw [← r.length]; exact ble_line hb, fun p hp => ?_⟩
    have t : XT φ H φ (upd H p (.tup vs)) := .fresh hp
    exact G.ok' g t (x.fresh hp) (.tup (.inl (.inl upd_same)) (r.mono t))
end
end MV

set_option maxRecDepth 100000
set_option maxHeartbeats 1000000
/-! V4: operators and built-ins by values. -/
namespace MV
open PySem PySem.Spec PyProof.Rows L2
theorem pds_length : ∀ l : List D, (D.pds l).length = l.length
  | [] => rfl
  | d :: r => congrArg Nat.succ (pds_length r)
theorem pds_get : ∀ (l : List D) (i : Nat), (D.pds l)[i]? = l[i]?.map D.pd
  | [], i => by simp [D.pds]
  | d :: r, 0 => by simp [D.pds]
  | d :: r, i + 1 => by simpa [D.pds] using pds_get r i
mutual
theorem cmp_lay : ∀ (d : D) (n : Nat), D.cmp n d = true → d.pd.canLay0 = true ∧ d.pd.depth ≤ n
  | .non, n, _ => by simp [D.pd, PyData.canLay0, PyData.depth]
  | .bl b, n, _ => by simp [D.pd, PyData.canLay0, PyData.depth]
  | .int i, n, _ => by simp [D.pd, PyData.canLay0, PyData.depth]
  | .str s, n, h => by
    have h : PyData.strOk s = true := by simpa [D.cmp] using h
    simp [D.pd, PyData.canLay0, PyData.depth, h]
  | .tup l, 0, h => by simp [D.cmp] at h
  | .tup l, n + 1, h => by
    have h : D.cmps n l = true := by simpa [D.cmp] using h
    have := cmps_lay l n h
    simp only [D.pd, PyData.canLay0, PyData.depth]
    exact ⟨this.1, Nat.succ_le_succ this.2⟩
  | .wtup l, 0, h => by simp [D.cmp] at h
  | .wtup l, n + 1, h => by
    have h : D.cmps n l = true := by simpa [D.cmp] using h
    have := cmps_lay l n h
    simp only [D.pd, PyData.canLay0, PyData.depth]
    exact ⟨this.1, Nat.succ_le_succ this.2⟩
  | .lst l, 0, h => by simp [D.cmp] at h
  | .lst l, n + 1, h => by
    have h : D.cmps n l = true := by simpa [D.cmp] using h
    have := cmps_lay l n h
    simp only [D.pd, PyData.canLay0, PyData.depth]
    exact ⟨this.1, Nat.succ_le_succ this.2⟩
  | .bor l, 0, h => by simp [D.cmp] at h
  | .bor l, n + 1, h => by
    have h : D.cmps n l = true := by simpa [D.cmp] using h
    have := cmps_lay l n h
    simp only [D.pd, PyData.canLay0, PyData.depth]
    exact ⟨this.1, Nat.succ_le_succ this.2⟩
  | .cls _, n, h => by simp [D.cmp] at h
  | .wd _, n, h => by simp [D.cmp] at h
  | .dct _ _, n, h => by simp [D.cmp] at h
  | .obj _ _ _, n, h => by simp [D.cmp] at h
  | .ref _, n, h => by simp [D.cmp] at h
theorem cmps_lay : ∀ (l : List D) (n : Nat), D.cmps n l = true → PyData.canLayAll0 (D.pds l) = true ∧ PyData.depthAll (D.pds l) ≤ n
  | [], n, _ => by simp [D.pds, PyData.canLayAll0, PyData.depthAll]
  | d :: r, n, h => by
    have h : D.cmp n d = true ∧ D.cmps n r = true := by simpa [D.cmps] using h
    have a := cmp_lay d n h.1
    have b := cmps_lay r n h.2
    simp only [D.pds, PyData.canLayAll0, PyData.depthAll, a.1, b.1, Bool.and_self, true_and]
    omega
end
theorem cmp_shaped {d : D} {n : Nat} (h : D.cmp n d = true) (hn : n ≤ 64) : SeqAt.shaped d.pd = true := by
  have q := cmp_lay d n h
  unfold SeqAt.shaped
  rw [q.1, decide_eq_true (Nat.le_trans q.2 hn)]
  rfl
mutual
theorem eqv_pd : ∀ (x y : D) (n m : Nat), D.cmp n x = true → D.cmp m y = true → PyData.eqv x.pd y.pd = D.eqv x y
  | .non, y, n, m, _, h => by cases y <;> simp_all [D.pd, D.eqv, D.cmp, PyData.eqv]
  | .bl b, y, n, m, _, h => by cases y <;> simp_all [D.pd, D.eqv, D.cmp, PyData.eqv]
  | .int i, y, n, m, _, h => by cases y <;> simp_all [D.pd, D.eqv, D.cmp, PyData.eqv]
  | .str s, y, n, m, _, h => by cases y <;> simp_all [D.pd, D.eqv, D.cmp, PyData.eqv]
  | .tup l, y, n, m, hx, h => by
    cases n with
    | zero => simp [D.cmp] at hx
    | succ n =>
      have hx : D.cmps n l = true := by simpa [D.cmp] using hx
      cases y with
      | tup k =>
        cases m with
        | zero => simp [D.cmp] at h
        | succ m =>
          have h : D.cmps m k = true := by simpa [D.cmp] using h
          simp only [D.pd, D.eqv, PyData.eqv]
          exact eqvs_pd l k n m hx h
      | wtup k =>
        cases m with
        | zero => simp [D.cmp] at h
        | succ m =>
          have h : D.cmps m k = true := by simpa [D.cmp] using h
          simp only [D.pd, D.eqv, PyData.eqv]
          exact eqvs_pd l k n m hx h
      | _ => simp_all [D.pd, D.eqv, D.cmp, PyData.eqv]
  | .wtup l, y, n, m, hx, h => by
    cases n with
    | zero => simp [D.cmp] at hx
    | succ n =>
      have hx : D.cmps n l = true := by simpa [D.cmp] using hx
      cases y with
      | tup k =>
        cases m with
        | zero => simp [D.cmp] at h
        | succ m =>
          have h : D.cmps m k = true := by simpa [D.cmp] using h
          simp only [D.pd, D.eqv, PyData.eqv]
          exact eqvs_pd l k n m hx h
      | wtup k =>
        cases m with
        | zero => simp [D.cmp] at h
        | succ m =>
          have h : D.cmps m k = true := by simpa [D.cmp] using h
          simp only [D.pd, D.eqv, PyData.eqv]
          exact eqvs_pd l k n m hx h
      | _ => simp_all [D.pd, D.eqv, D.cmp, PyData.eqv]
  | .lst l, y, n, m, hx, h => by
    cases n with
    | zero => simp [D.cmp] at hx
    | succ n =>
      have hx : D.cmps n l = true := by simpa [D.cmp] using hx
      cases y with
      | lst k =>
        cases m with
        | zero => simp [D.cmp] at h
        | succ m =>
          have h : D.cmps m k = true := by simpa [D.cmp] using h
          simp only [D.pd, D.eqv, PyData.eqv]
          exact eqvs_pd l k n m hx h
      | bor k =>
        cases m with
        | zero => simp [D.cmp] at h
        | succ m =>
          have h : D.cmps m k = true := by simpa [D.cmp] using h
          simp only [D.pd, D.eqv, PyData.eqv]
          exact eqvs_pd l k n m hx h
      | _ => simp_all [D.pd, D.eqv, D.cmp, PyData.eqv]
  | .bor l, y, n, m, hx, h => by
    cases n with
    | zero => simp [D.cmp] at hx
    | succ n =>
      have hx : D.cmps n l = true := by simpa [D.cmp] using hx
      cases y with
      | lst k =>
        cases m with
        | zero => simp [D.cmp] at h
        | succ m =>
          have h : D.cmps m k = true := by simpa [D.cmp] using h
          simp only [D.pd, D.eqv, PyData.eqv]
          exact eqvs_pd l k n m hx h
      | bor k =>
        cases m with
        | zero => simp [D.cmp] at h
        | succ m =>
          have h : D.cmps m k = true := by simpa [D.cmp] using h
          simp only [D.pd, D.eqv, PyData.eqv]
          exact eqvs_pd l k n m hx h
      | _ => simp_all [D.pd, D.eqv, D.cmp, PyData.eqv]
  | .cls _, y, n, m, hx, h => by simp [D.cmp] at hx
  | .wd _, y, n, m, hx, h => by simp [D.cmp] at hx
  | .dct _ _, y, n, m, hx, h => by simp [D.cmp] at hx
  | .obj _ _ _, y, n, m, hx, h => by simp [D.cmp] at hx
  | .ref _, y, n, m, hx, h => by simp [D.cmp] at hx
theorem eqvs_pd : ∀ (x y : List D) (n m : Nat), D.cmps n x = true → D.cmps m y = true → PyData.eqvAll (D.pds x) (D.pds y) = D.eqvs x y
  | [], [], n, m, _, _ => by simp [D.pds, D.eqvs, PyData.eqvAll]
  | [], _ :: _, n, m, _, _ => by simp [D.pds, D.eqvs, PyData.eqvAll]
  | _ :: _, [], n, m, _, _ => by simp [D.pds, D.eqvs, PyData.eqvAll]
  | x :: xs, y :: ys, n, m, hx, hy => by
    have hx : D.cmp n x = true ∧ D.cmps n xs = true := by simpa [D.cmps] using hx
    have hy : D.cmp m y = true ∧ D.cmps m ys = true := by simpa [D.cmps] using hy
    simp only [D.pds, D.eqvs, PyData.eqvAll]
    rw [eqv_pd x y n m hx.1 hy.1, eqvs_pd xs ys n m hx.2 hy.2]
end
section
variable {L : Lk} {F : Fm} {φ : List Addr} {H : Hp} {h : HH}
mutual
theorem Rel.dp : ∀ {d : D} {v : V} {n : Nat}, Rel L F φ H d v → D.cmp n d = true → Dp L.K H v d.pd
  | _, _, _, .non, _ => .non
  | _, _, _, .bl b, _ => .bl b
  | _, _, _, .int i, _ => .int i
  | _, _, _, .str s, _ => .str s
  | _, _, n, .tup e r, c => by
    cases n with
    | zero => simp [D.cmp] at c
    | succ n => exact .tup e (Rels.dps r (by simpa [D.cmp] using c))
  | _, _, n, .wtup e1 e2 e3 e4 e5 e6 r, c => by
    cases n with
    | zero => simp [D.cmp] at c
    | succ n => exact .tup (.inr ⟨_, _, _, e1, e2, e4, e5, e6⟩) (Rels.dps r (by simpa [D.cmp] using c))
  | _, _, n, .lst e _ _ r, c => by
    cases n with
    | zero => simp [D.cmp] at c
    | succ n => exact .lst (.inl (.inl e)) (Rels.dps r (by simpa [D.cmp] using c))
  | _, _, n, .borK e1 e2 e3 e4 e5 e6 r, c => by
    cases n with
    | zero => simp [D.cmp] at c
    | succ n => exact .lst (.inr ⟨_, _, _, e1, e2, e3, e4, e5, e6⟩) (Rels.dps r (by simpa [D.cmp] using c))
  | _, _, n, .bor e _ _ r, c => by
    cases n with
    | zero => simp [D.cmp] at c
    | succ n => exact .lst (.inl e) (Rels.dps r (by simpa [D.cmp] using c))
  | _, _, _, .cls _, c => by simp [D.cmp] at c
  | _, _, _, .wd _, c => by simp [D.cmp] at c
  | _, _, _, .dct _ _ _ _ _, c => by simp [D.cmp] at c
  | _, _, _, .obj _ _ _ _ _, c => by simp [D.cmp] at c
  | _, _, _, .ref _, c => by simp [D.cmp] at c
theorem Rels.dps : ∀ {ds : List D} {vs : List V} {n : Nat}, Rels L F φ H ds vs → D.cmps n ds = true → DpAll L.K H vs (D.pds ds)
  | _, _, _, .nil, _ => .nil
  | _, _, n, .cons r t, c => by
    have c := Bool.and_eq_true_iff.mp (by simpa only [D.cmps] using c)
    exact .cons (Rel.dp r c.1) (Rels.dps t c.2)
end
theorem shown_dp {d : D} {v : V} {n : Nat} (x : HR L F φ h H) (r : Rel L F φ H d v) (c : D.cmp n (shown d h) = true) : Dp L.K H v (shown d h).pd := by
  cases d with
  | ref k =>
    cases r with
    | @ref k a q =>
      obtain ⟨o, e1, ro⟩ := x.ro q
      have es : shown (.ref k) h = (match h[k]? with
        | some (.lst l) => D.lst l
        | _ => .ref k) := rfl
      rw [e1] at es
      cases ro with
      | lst q2 r =>
        rw [es] at c ⊢
        cases n with
        | zero => simp [D.cmp] at c
        | succ n => exact .lst (.inl (.inl q2)) (r.dps (by simpa [D.cmp] using c))
      | _ =>
        rw [es] at c
        simp [D.cmp] at c
  | _ => exact Rel.dp r c
theorem Rel.flat {d : D} {v : V} (r : Rel L F φ H d v) (s : D.scal d = true) : flatV v = true := by
  cases r <;> first | rfl | (simp [D.scal] at s; done)
theorem Rel.eqF {d e : D} {v w : V} (r : Rel L F φ H d v) (q : Rel L F φ H e w) (s : D.scal d = true) (t : D.scal e = true) : eqV v w = D.eqv d e := by
  cases r <;> cases q <;> first | rfl | (simp [eqV, D.eqv]; done) | (simp [D.scal] at s; done) | (simp [D.scal] at t; done)
theorem Rels.flats : ∀ {ds : List D} {vs : List V}, Rels L F φ H ds vs → ds.all D.scal = true → vs.all flatV = true
  | _, _, .nil, _ => rfl
  | _, _, .cons r t, s => by
    have s := Bool.and_eq_true_iff.mp (by simpa only [List.all_cons] using s)
    rw [List.all_cons, r.flat s.1, Rels.flats t s.2]
    rfl
theorem Rels.inF {d : D} {v : V} (r : Rel L F φ H d v) (s : D.scal d = true) : ∀ {ds : List D} {vs : List V}, Rels L F φ H ds vs → ds.all D.scal = true → inV v vs = ds.any fun z => D.eqv z d
  | _, _, .nil, _ => rfl
  | _, _, .cons q t, a => by
    have a := Bool.and_eq_true_iff.mp (by simpa only [List.all_cons] using a)
    have ih := Rels.inF r s t a.2
    unfold inV at ih ⊢
    rw [List.any_cons, List.any_cons, ih, q.eqF r a.1 s]
end
end MV

set_option maxRecDepth 100000
set_option maxHeartbeats 1000000
/-! V5: operators by values. -/
namespace MV
open PySem PySem.Spec PyProof.Rows L2
def rd2 (L : Lk) (f : D → D → HH → R D) : R2 := fun x y H Q => ∃ (F : Fm) (φ : List Addr) (h : HH) (dx dy : D) (E : XK), HR L F φ h H ∧ Rel L F φ H dx x ∧ Rel L F φ H dy y ∧ GE L F φ H (f dx dy h) Q E
section
variable {X : Cx} {L : Lk} {F : Fm} {φ : List Addr} {H : Hp} {h : HH} {Q : VK} {E : XK}
theorem mulOk_ok {i j : Int} (e : mulOk i j = true) : IntMulOk i j := by
  have q : i.natAbs.log2 + j.natAbs.log2 < 1000000 := Nat.le_of_ble_eq_true e
  have b : ∀ x : Int, Builtin.Int.intBits x ≤ x.natAbs.log2 + 1 := fun x => by
    unfold Builtin.Int.intBits
    split <;> omega
  have h1 := b i
  have h2 := b j
  have e : bitsLine = 134217728 := by decide
  unfold IntMulOk
  intro z
  rw [Bool.and_eq_true] at z
  have z2 := z.2
  unfold Builtin.Int.intTooBig at z2
  have z3 := of_decide_eq_true z2
  rw [e] at z3
  omega
theorem ge_opt {α : Type} {o : Option α} {f : α → D} {v : α → V} (x : HR L F φ h H) (r : ∀ a, Rel L F φ H (f a) (v a)) (g : GE L F φ H (R.of (o.map f) h) Q E) : ∃ a, o = some a ∧ Q (v a) H := by
  cases o with
  | none => exact (G.no_ g).elim
  | some a => exact ⟨a, rfl, G.ok g x (r a)⟩
/-- t + u; the two laws of TupAny, told here by its own rule -/
theorem opAdd (hK : X.K = L.K) (m : Bool) (hT : OpR X (binaryOp .Add) (fun x y H Q => ∃ a b xs ys, x = .ref a ∧ y = .ref b ∧ SqT X.K H a xs ∧ SqT X.K H b ys ∧ xs.length + ys.length ≤ sizeLine ∧
    (xs = [] → Q (.ref b) H) ∧ (xs ≠ [] → ys = [] → Q (.ref a) H) ∧ (xs ≠ [] → ys ≠ [] → ∀ p, H p = none → Q (.ref p) (upd H p (.tup (xs ++ ys)))))) :
    OpR X (binaryOp .Add) (rd2 L (addD m)) := by
  intro pins s σ H x y v u Q I rx ry ⟨F, φ, h, dx, dy, E, hr, rX, rY, g⟩
  have lists : ∀ {a b : Addr} {xs ys : List V} {k l : List D}, x = .ref a → y = .ref b → H a = some (.lst xs) → H b = some (.lst ys) → Rels L F φ H k xs → Rels L F φ H l ys → GE L F φ H (mkL m (k ++ l) h) Q E →
      wpAny (model X.prog X.w) X.A (binaryOp .Add v u) (EP X pins σ Q) X.xe s := fun {a b xs ys k l} e1 e2 h1 h2 r1 r2 g => by
    have z := mkL_ok hr (r1.append r2) g
    refine op_cat pins s σ H x y v u Q I rx ry ⟨a, b, xs, ys, e1, e2, h1, h2, ?_, z.2⟩
    have := z.1
    rw [List.length_append] at this
    exact this
  unfold addD at g
  split at g
  · cases rX
    cases rY
    exact op_add pins s σ H _ _ v u Q I rx ry ⟨_, _, rfl, rfl, G.ok g hr (.int _)⟩
  · cases rX
    cases rY
    split at g
    · rename_i hl
      exact op_add_str pins s σ H _ _ v u Q I rx ry ⟨_, _, rfl, rfl, by rw [sizeLine_eq]; exact hl, G.ok g hr (.str _)⟩
    · exact (G.no_ g).elim
  · cases rX with
    | tup e1 r1 =>
      cases rY with
      | tup e2 r2 =>
        rw [← hK] at e1 e2
        rename_i a xs b ys
        have z := mkT_ok hr (r1.append r2) g
        refine hT pins s σ H _ _ v u Q I rx ry ⟨_, _, _, _, rfl, rfl, e1, e2, by have := z.1; rw [List.length_append] at this; exact this, fun e => ?_, fun e e' => ?_, fun _ _ => z.2⟩
        · subst e
          cases r1
          unfold mkT at g
          split at g
          · exact G.ok g hr (.tup (by rw [← hK]; exact e2) r2)
          · exact (G.no_ g).elim
        · subst e'
          cases r2
          rw [List.append_nil] at g
          unfold mkT at g
          split at g
          · exact G.ok g hr (.tup (by rw [← hK]; exact e1) r1)
          · exact (G.no_ g).elim
  · cases rX with
    | lst q1 _ _ r1 =>
      cases rY with
      | lst q2 _ _ r2 => exact lists rfl rfl q1 q2 r1 r2 g
  · cases rX with
    | lst q1 _ _ r1 =>
      cases rY with
      | ref e =>
        obtain ⟨o, e1, ro⟩ := hr.ro e
        rw [e1] at g
        cases ro with
        | lst q2 r2 => exact lists rfl rfl q1 q2 r1 r2 g
        | _ => exact (G.no_ g).elim
  · cases rY with
    | lst q2 _ _ r2 =>
      cases rX with
      | ref e =>
        obtain ⟨o, e1, ro⟩ := hr.ro e
        rw [e1] at g
        cases ro with
        | lst q1 r1 => exact lists rfl rfl q1 q2 r1 r2 g
        | _ => exact (G.no_ g).elim
  · cases rX with
    | ref e =>
      cases rY with
      | ref e' =>
        obtain ⟨o, e1, ro⟩ := hr.ro e
        obtain ⟨o', e2, ro'⟩ := hr.ro e'
        rw [e1, e2] at g
        cases ro with
        | lst q1 r1 =>
          cases ro' with
          | lst q2 r2 => exact lists rfl rfl q1 q2 r1 r2 g
          | _ => exact (G.no_ g).elim
        | _ => exact (G.no_ g).elim
  · exact (G.no_ g).elim
theorem Rels.rep {ds : List D} {vs : List V} (r : Rels L F φ H ds vs) : ∀ k : Nat, Rels L F φ H (List.replicate k ds).flatten (List.replicate k vs).flatten
  | 0 => by simpa using Rels.nil
  | k + 1 => by
    rw [List.replicate_succ, List.replicate_succ, List.flatten_cons, List.flatten_cons]
    exact r.append (Rels.rep r k)
theorem bin_ok (hK : X.K = L.K) (op : Operator) (m : Bool) (hT : OpR X (binaryOp .Add) (fun x y H Q => ∃ a b xs ys, x = .ref a ∧ y = .ref b ∧ SqT X.K H a xs ∧ SqT X.K H b ys ∧ xs.length + ys.length ≤ sizeLine ∧
    (xs = [] → Q (.ref b) H) ∧ (xs ≠ [] → ys = [] → Q (.ref a) H) ∧ (xs ≠ [] → ys ≠ [] → ∀ p, H p = none → Q (.ref p) (upd H p (.tup (xs ++ ys)))))) :
    OpR X (binaryOp op) (rd2 L (binD op m)) := by
  cases op with
  | Add => exact opAdd hK m hT
  | Sub =>
    intro pins s σ H x y v u Q I rx ry ⟨F, φ, h, dx, dy, E, hr, rX, rY, g⟩
    replace g : GE L F φ H (subD dx dy h) Q E := g
    unfold subD at g
    split at g
    · cases rX
      cases rY
      exact op_sub pins s σ H _ _ v u Q I rx ry ⟨_, _, rfl, rfl, G.ok g hr (.int _)⟩
    · exact (G.no_ g).elim
  | Mult =>
    intro pins s σ H x y v u Q I rx ry ⟨F, φ, h, dx, dy, E, hr, rX, rY, g⟩
    replace g : GE L F φ H (mulD m dx dy h) Q E := g
    unfold mulD at g
    split at g
    · cases rX
      cases rY
      rename_i i j
      split at g
      · rename_i hm
        obtain ⟨t, rfl⟩ := rx
        obtain ⟨t', rfl⟩ := ry
        exact mul_int ⟨.int _, H, I.tok _, ⟨_, rfl⟩, G.ok g hr (.int _)⟩ (mulOk_ok hm)
      · exact (G.no_ g).elim
    · rename_i a k
      cases rX with
      | lst q1 _ _ r1 =>
        cases rY
        split at g
        · rename_i hc
          have z := mkL_ok hr (r1.rep k.toNat) g
          refine op_rep pins s σ H _ _ v u Q I rx ry ⟨_, _, _, rfl, rfl, q1, by omega, by omega, ?_, z.2⟩
          rw [← r1.length, sizeLine_eq]
          exact hc.2.2
        · exact (G.no_ g).elim
    · exact (G.no_ g).elim
  | FloorDiv =>
    intro pins s σ H x y v u Q I rx ry ⟨F, φ, h, dx, dy, E, hr, rX, rY, g⟩
    replace g : GE L F φ H (divD dx dy h) Q E := g
    unfold divD at g
    split at g
    · cases rX
      cases rY
      rename_i i j
      split at g
      · rename_i hm
        obtain ⟨t, rfl⟩ := rx
        obtain ⟨t', rfl⟩ := ry
        obtain ⟨h1, h2⟩ := Bool.and_eq_true_iff.mp (show ((j != 0) && Nat.blt j.natAbs.log2 9000) = true from hm)
        exact floordiv_int (by simpa using h1) ⟨.int _, H, I.tok _, ⟨_, rfl⟩, G.ok g hr (.int _)⟩ (.inl (PyProof.noPylong_of_log2 (Nat.le_of_ble_eq_true h2)))
      · exact (G.no_ g).elim
    · exact (G.no_ g).elim
  | Mod =>
    intro pins s σ H x y v u Q I rx ry ⟨F, φ, h, dx, dy, E, hr, rX, rY, g⟩
    replace g : GE L F φ H (modD dx dy h) Q E := g
    unfold modD at g
    split at g
    · cases rX
      cases rY
      split at g
      · rename_i hm
        exact op_modN pins s σ H _ _ v u Q I rx ry ⟨_, _, rfl, rfl, by simpa using hm, G.ok g hr (.int _)⟩
      · exact (G.no_ g).elim
    · exact (G.no_ g).elim
  | Pow =>
    intro pins s σ H x y v u Q I rx ry ⟨F, φ, h, dx, dy, E, hr, rX, rY, g⟩
    replace g : GE L F φ H (powD dx dy h) Q E := g
    unfold powD at g
    split at g
    · cases rX
      cases rY
      rename_i i j
      split at g
      · rename_i hm
        obtain ⟨h1, h2⟩ := Bool.and_eq_true_iff.mp (show (decide (0 ≤ j) && (decide (j ≤ 1000000) && Nat.blt i.natAbs (2 ^ 64))) = true from hm)
        obtain ⟨h3, h4⟩ := Bool.and_eq_true_iff.mp h2
        exact op_pow pins s σ H _ _ v u Q I rx ry ⟨_, _, rfl, rfl, ⟨of_decide_eq_true h1, of_decide_eq_true h3, Nat.le_of_ble_eq_true h4⟩, G.ok g hr (.int _)⟩
      · exact (G.no_ g).elim
    · exact (G.no_ g).elim
  | _ =>
    intro pins s σ H x y v u Q I rx ry ⟨F, φ, h, dx, dy, E, hr, rX, rY, g⟩
    exact (G.no_ g).elim
end
end MV

set_option maxRecDepth 100000
set_option maxHeartbeats 1000000
/-! V6: comparisons, items, slices by values. -/
namespace MV
open PySem PySem.Spec PyProof.Rows L2
section
variable {X : Cx} {L : Lk} {F : Fm} {φ : List Addr} {H : Hp} {h : HH} {Q : VK} {E : XK}
theorem dctOf_ok {d : D} {v : V} {w : List Key × List D} (x : HR L F φ h H) (r : Rel L F φ H d v) (e : dctOf d h = some w) : ∃ a kvs, v = .ref a ∧ H a = some (.dK kvs) ∧ kvs.map (·.1) = w.1 ∧ Rels L F φ H w.2 (kvs.map (·.2)) := by
  cases r with
  | dct q _ _ k r =>
    cases e
    exact ⟨_, _, rfl, q, k, r⟩
  | @ref n a q =>
    obtain ⟨o, e1, ro⟩ := x.ro q
    have e : (match h[n]? with
      | some (.dct ks vs) => some (ks, vs)
      | _ => none) = some w := e
    rw [e1] at e
    cases ro with
    | dct q2 k r =>
      cases e
      exact ⟨_, _, rfl, q2, k, r⟩
    | _ => cases e
  | _ => cases e
theorem keyOf_ok {d : D} {v : V} {k : Key} (r : Rel L F φ H d v) (e : keyOf d = some k) : v = kV k := by
  cases r <;> first | (cases e; rfl) | cases e
theorem findK_ok : ∀ {kvs : List (L2.Key × V)} {ds : List D} {q : Key}, Rels L F φ H ds (kvs.map (·.2)) → match findK (kvs.map (·.1)) ds q with
    | some d => ∃ v, valV kvs q = some v ∧ Rel L F φ H d v
    | none => valV kvs q = none
  | [], ds, q, r => by
    cases r
    exact rfl
  | (k, v) :: kvs, ds, q, r => by
    cases r with
    | @cons d _ ds _ r t =>
      have ih := findK_ok (q := q) t
      show match (if decide (k = q) then some d else findK (kvs.map (·.1)) ds q) with
        | some d => ∃ w, valV ((k, v) :: kvs) q = some w ∧ Rel L F φ H d w
        | none => valV ((k, v) :: kvs) q = none
      by_cases hk : k = q
      · rw [if_pos (decide_eq_true hk)]
        exact ⟨v, valV_pos hk, r⟩
      · rw [if_neg (by simpa using hk), valV_neg hk]
        exact ih
theorem findK_val {kvs : List (L2.Key × V)} {ds : List D} {q : Key} (r : Rels L F φ H ds (kvs.map (·.2))) : (valV kvs q).isSome = (findK (kvs.map (·.1)) ds q).isSome := by
  have z := findK_ok (q := q) r
  split at z
  · rename_i e
    obtain ⟨v, e1, _⟩ := z
    rw [e, e1]
    rfl
  · rename_i e
    rw [e, z]
    rfl
/-- a comparison by values -/
def rdC (L : Lk) (f : D → D → HH → Option Bool) : R2 := fun x y H Q => ∃ (F : Fm) (φ : List Addr) (h : HH) (dx dy : D) (b : Bool), HR L F φ h H ∧ Rel L F φ H dx x ∧ Rel L F φ H dy y ∧ f dx dy h = some b ∧ Q (.bl b) H
theorem eqD_ok {dx dy : D} {x y : V} {b : Bool} (hK : X.K = L.K) (hr : HR L F φ h H) (rX : Rel L F φ H dx x) (rY : Rel L F φ H dy y) (e : eqD dx dy h = some b) :
    ∃ d f, Dp X.K H x d ∧ Dp X.K H y f ∧ SeqAt.shaped d = true ∧ SeqAt.shaped f = true ∧ PyData.eqv d f = b := by
  unfold eqD at e
  split at e
  · rename_i hc
    obtain ⟨c1, c2⟩ := Bool.and_eq_true_iff.mp hc
    refine ⟨_, _, by rw [hK]; exact shown_dp hr rX c1, by rw [hK]; exact shown_dp hr rY c2, cmp_shaped c1 (by decide), cmp_shaped c2 (by decide), ?_⟩
    rw [eqv_pd _ _ _ _ c1 c2]
    exact Option.some.inj e
  · cases e
theorem noneD_ok {d : D} {v : V} (r : Rel L F φ H d v) : decide (v = V.non) = noneD d := by
  cases r <;> simp [noneD]
theorem inD_ok {dx dy : D} {x y : V} {b : Bool} (hr : HR L F φ h H) (rX : Rel L F φ H dx x) (rY : Rel L F φ H dy y) (e : inD dx dy h = some b) :
    (∃ a o, y = .ref a ∧ DGet H a x o ∧ o.isSome = b) ∨ ∃ p xs, y = .ref p ∧ (SqL L.K H p xs ∨ SqT L.K H p xs) ∧ flatV x = true ∧ xs.all flatV = true ∧ inV x xs = b := by
  unfold inD at e
  split at e
  · rename_i w hw
    obtain ⟨a, kvs, rfl, q, k, r⟩ := dctOf_ok hr rY hw
    split at e
    · rename_i q' hq
      have ek := keyOf_ok rX hq
      subst ek
      refine .inl ⟨a, _, rfl, DGet.k q, ?_⟩
      rw [findK_val r, k]
      exact Option.some.inj e
    · cases e
  · split at e
    · rename_i l hl
      split at e
      · rename_i hs
        obtain ⟨s1, s2⟩ := Bool.and_eq_true_iff.mp hs
        obtain ⟨p, xs, rfl, sq, r⟩ := seqOf_ok hr rY hl
        refine .inr ⟨p, xs, rfl, sq, rX.flat s1, r.flats s2, ?_⟩
        rw [Rels.inF rX s1 r s2]
        exact Option.some.inj e
      · cases e
    · cases e
theorem cmp_ok (hK : X.K = L.K) (hu : X.A.units + 65 < cLine) (op : CmpOp) : OpR X (compareOp op) (rdC L (cmpD op)) := by
  cases op with
  | Eq =>
    intro pins s σ H x y v u Q I rx ry ⟨F, φ, h, dx, dy, b, hr, rX, rY, e, q⟩
    obtain ⟨d, f, h1, h2, h3, h4, rfl⟩ := eqD_ok hK hr rX rY e
    exact op_eqD (Nat.lt_of_succ_lt hu) pins s σ H x y v u Q I rx ry ⟨d, f, h1, h2, h3, h4, q⟩
  | NotEq =>
    intro pins s σ H x y v u Q I rx ry ⟨F, φ, h, dx, dy, b, hr, rX, rY, e, q⟩
    obtain ⟨c, e1, e2⟩ := Option.map_eq_some_iff.mp (show (eqD dx dy h).map (!·) = some b from e)
    obtain ⟨d, f, h1, h2, h3, h4, rfl⟩ := eqD_ok hK hr rX rY e1
    subst e2
    exact op_neD (Nat.lt_of_succ_lt hu) pins s σ H x y v u Q I rx ry ⟨d, f, h1, h2, h3, h4, q⟩
  | Lt =>
    intro pins s σ H x y v u Q I rx ry ⟨F, φ, h, dx, dy, b, hr, rX, rY, e, q⟩
    unfold cmpD at e
    dsimp only at e
    split at e
    · cases rX
      cases rY
      cases e
      exact op_lt pins s σ H _ _ v u Q I rx ry ⟨_, _, rfl, rfl, q⟩
    · cases e
  | LtE =>
    intro pins s σ H x y v u Q I rx ry ⟨F, φ, h, dx, dy, b, hr, rX, rY, e, q⟩
    unfold cmpD at e
    dsimp only at e
    split at e
    · cases rX
      cases rY
      cases e
      exact op_le pins s σ H _ _ v u Q I rx ry ⟨_, _, rfl, rfl, q⟩
    · cases e
  | Gt =>
    intro pins s σ H x y v u Q I rx ry ⟨F, φ, h, dx, dy, b, hr, rX, rY, e, q⟩
    unfold cmpD at e
    dsimp only at e
    split at e
    · cases rX
      cases rY
      cases e
      exact op_gt pins s σ H _ _ v u Q I rx ry ⟨_, _, rfl, rfl, q⟩
    · cases e
  | GtE =>
    intro pins s σ H x y v u Q I rx ry ⟨F, φ, h, dx, dy, b, hr, rX, rY, e, q⟩
    unfold cmpD at e
    dsimp only at e
    split at e
    · cases rX
      cases rY
      cases e
      exact op_ge pins s σ H _ _ v u Q I rx ry ⟨_, _, rfl, rfl, q⟩
    · cases e
  | Is =>
    intro pins s σ H x y v u Q I rx ry ⟨F, φ, h, dx, dy, b, hr, rX, rY, e, q⟩
    unfold cmpD at e
    dsimp only at e
    split at e
    · cases rY
      cases e
      exact op_isN pins s σ H _ _ v u Q I rx ry ⟨rfl, by rw [noneD_ok rX]; exact q⟩
    · cases e
  | IsNot =>
    intro pins s σ H x y v u Q I rx ry ⟨F, φ, h, dx, dy, b, hr, rX, rY, e, q⟩
    unfold cmpD at e
    dsimp only at e
    split at e
    · cases rY
      cases e
      exact op_notN pins s σ H _ _ v u Q I rx ry ⟨rfl, by rw [noneD_ok rX]; exact q⟩
    · cases e
  | In =>
    intro pins s σ H x y v u Q I rx ry ⟨F, φ, h, dx, dy, b, hr, rX, rY, e, q⟩
    rcases inD_ok hr rX rY e with ⟨a, o, rfl, g, rfl⟩ | ⟨p, xs, rfl, h1, h2, h3, rfl⟩
    · cases ry
      exact d_in (Nat.lt_of_le_of_lt (Nat.add_le_add_left (by decide) _) hu) I g rx fun s' I' => ⟨.bl o.isSome, H, I', rfl, q⟩
    · exact op_in_seq pins s σ H _ _ v u Q I rx ry ⟨p, xs, rfl, by rw [hK]; exact h1, h2, h3, q⟩
  | NotIn =>
    intro pins s σ H x y v u Q I rx ry ⟨F, φ, h, dx, dy, b, hr, rX, rY, e, q⟩
    obtain ⟨c, e1, e2⟩ := Option.map_eq_some_iff.mp (show (inD dx dy h).map (!·) = some b from e)
    subst e2
    rcases inD_ok hr rX rY e1 with ⟨a, o, rfl, g, rfl⟩ | ⟨p, xs, rfl, h1, h2, h3, rfl⟩
    · cases ry
      exact d_notIn (Nat.lt_of_le_of_lt (Nat.add_le_add_left (by decide) _) hu) I g rx fun s' I' => ⟨.bl (!o.isSome), H, I', rfl, q⟩
    · exact op_notIn_seq pins s σ H _ _ v u Q I rx ry ⟨p, xs, rfl, by rw [hK]; exact h1, h2, h3, q⟩
end
end MV

set_option maxRecDepth 100000
set_option maxHeartbeats 1000000
/-! V7: items, slices, stores, built-ins by values. -/
namespace MV
open PySem PySem.Spec PyProof.Rows L2
/-- a written dict's item -/
def WdOk (X : Cx) (L : Lk) (W : Wds) : Prop := IxR X (fun x y H Q => ∃ (k : Nat) (w : List Key × List D) (q : Key) (d : D), x = .ref (L.wa k) ∧ W[k]? = some w ∧ y = kV q ∧ findK w.1 w.2 q = some d ∧
  ∀ v, (∀ F φ H, Rel L F φ H d v) → Q v H)
theorem ixAt_eq (n : Nat) (i : Int) : MV.ixAt n i = ixN n i := rfl
def rdX (L : Lk) (W : Wds) : R2 := fun x y H Q => ∃ (F : Fm) (φ : List Addr) (h : HH) (dx dy : D) (E : XK), HR L F φ h H ∧ Rel L F φ H dx x ∧ Rel L F φ H dy y ∧ GE L F φ H (R.of (itemD W dx dy h) h) Q E
section
variable {X : Cx} {L : Lk} {F : Fm} {φ : List Addr} {H : Hp} {h : HH} {Q : VK} {E : XK}
theorem of_some {α β : Type} {Rl : List Addr → Hp → α → β → Prop} {o : Option α} {Q : β → Hp → Prop} (g : G L F φ H Rl (R.of o h) Q E) : ∃ a, o = some a ∧ G L F φ H Rl (.ok a h) Q E := by
  cases o with
  | none => exact (G.no_ g).elim
  | some a => exact ⟨a, rfl, g⟩
theorem item_ok (hK : X.K = L.K) (hu : X.A.units + 65 < cLine) {W : Wds} (hW : WdOk X L W) : IxR X (rdX L W) := by
  intro value slice pins s σ H x y v u Q I rx ry ⟨F, φ, h, dx, dy, E, hr, rX, rY, g⟩ hs
  obtain ⟨d, e0, g'⟩ := of_some g
  clear g
  have viaDict : ∀ {w : List Key × List D}, dctOf dx h = some w → (match keyOf dy with
      | some q => findK w.1 w.2 q
      | none => none) = some d → wpAny (model X.prog X.w) X.A (subscriptTail value slice v u) (EP X pins σ Q) X.xe s := fun {w} hw e => by
    obtain ⟨a, kvs, rfl, q, k, r⟩ := dctOf_ok hr rX hw
    split at e
    · rename_i q' hq
      have ek := keyOf_ok rY hq
      subst ek
      have z := findK_ok (q := q') r
      rw [k, e] at z
      obtain ⟨w', e1, r1⟩ := z
      cases rx
      have dg : DGet H a (kV q') (some w') := by
        rw [← e1]
        exact DGet.k q
      exact tail_any (dict_typeIs I dg) PySem.F.slot_dict_getitem.lookup (d_getItem (Nat.lt_of_le_of_lt (Nat.add_le_add_left (by decide) _) hu) I dg ry fun w2 s3 I3 rw2 => ⟨w', H, I3, rw2, G.ok g' hr r1⟩) hs
    · cases e
  have viaSeq : ∀ {i : Int}, dy = .int i → (match seqOf dx h with
      | some l => (MV.ixAt l.length i).bind fun j => l[j]?
      | none => none) = some d → wpAny (model X.prog X.w) X.A (subscriptTail value slice v u) (EP X pins σ Q) X.xe s := fun {i} ey e => by
    subst ey
    cases rY
    split at e
    · rename_i l hl
      obtain ⟨a, vs, rfl, sq, r⟩ := seqOf_ok hr rX hl
      obtain ⟨j, e1, e2⟩ := Option.bind_eq_some_iff.mp e
      obtain ⟨w, e3, r3⟩ := r.get e2
      have at_ : atI vs i = some w := by
        unfold atI
        rw [← r.length, ← ixAt_eq, e1]
        exact e3
      rcases sq with sq | sq
      · exact ix_list value slice pins s σ H _ _ v u Q I rx ry ⟨_, _, _, _, rfl, rfl, by rw [hK]; exact sq, at_, G.ok g' hr r3⟩ hs
      · exact ix_tup value slice pins s σ H _ _ v u Q I rx ry ⟨_, _, _, _, rfl, rfl, by rw [hK]; exact sq, at_, G.ok g' hr r3⟩ hs
    · cases e
  unfold itemD at e0
  split at e0
  · rename_i k
    split at e0
    · rename_i w q hw hq
      cases rX
      have ek := keyOf_ok rY hq
      subst ek
      exact hW value slice pins s σ H _ _ v u Q I rx ry ⟨k, w, q, d, rfl, hw, rfl, e0, fun v hv => G.ok g' hr (hv F φ H)⟩ hs
    · cases e0
  · split at e0
    · rename_i w hw
      exact viaDict hw e0
    · unfold itemL at e0
      split at e0
      · rename_i i
        split at e0
        · rename_i z
          cases rX
          cases rY
          split at e0
          · rename_i hl
            obtain ⟨j, e1, e2⟩ := Option.bind_eq_some_iff.mp e0
            obtain ⟨c, e3, e4⟩ := Option.map_eq_some_iff.mp e2
            subst e4
            refine ix_str value slice pins s σ H _ _ v u Q I rx ry ⟨_, i, c, rfl, rfl, by rw [sizeLine_eq]; exact hl, ?_, G.ok g' hr (.str _)⟩ hs
            unfold atI
            rw [Array.length_toList, ← ixAt_eq, e1, Option.bind_some, Array.getElem?_toList]
            exact e3
          · cases e0
        · exact viaSeq rfl e0
      · cases e0
/-! ### stores -/
def rdSet (L : Lk) : TSet := fun o i v H Q => ∃ (F : Fm) (φ : List Addr) (h : HH) (dx dy d : D) (h' : HH), HR L F φ h H ∧ Rel L F φ H dx o ∧ Rel L F φ H dy i ∧ Rel L F φ H d v ∧ setD dx dy d h = some h' ∧
  ∀ φ' H', XT φ H φ' H' → HR L F φ' h' H' → Q H'
theorem replK_ok {d : D} {v : V} (r : Rel L F φ H d v) (q : Key) : ∀ {kvs : List (L2.Key × V)} {ds : List D}, Rels L F φ H ds (kvs.map (·.2)) →
    Rels L F φ H (replK (kvs.map (·.1)) ds q d) ((kvs.map fun kv => if kv.1 = q then (kv.1, v) else kv).map (·.2))
  | [], _, .nil => .nil
  | (k, w) :: kvs, _, .cons r1 t => by
    have ih := replK_ok r q (kvs := kvs) t
    show Rels L F φ H ((if decide (k = q) then d else _) :: replK (kvs.map (·.1)) _ q d) (((if k = q then (k, v) else (k, w)) : L2.Key × V).2 :: (kvs.map fun kv => if kv.1 = q then (kv.1, v) else kv).map (·.2))
    by_cases hk : k = q
    · rw [if_pos (decide_eq_true hk), if_pos hk]
      exact .cons r ih
    · rw [if_neg (by simpa using hk), if_neg hk]
      exact .cons r1 ih
theorem putK_ok {d : D} {v : V} {kvs : List (L2.Key × V)} {ds : List D} (r : Rel L F φ H d v) (q : Key) (t : Rels L F φ H ds (kvs.map (·.2))) :
    (L2.putK kvs q v).map (·.1) = (MV.putK (kvs.map (·.1)) ds q d).1 ∧ Rels L F φ H (MV.putK (kvs.map (·.1)) ds q d).2 ((L2.putK kvs q v).map (·.2)) := by
  unfold L2.putK MV.putK
  have e : (kvs.map (·.1)).any (fun k => decide (k = q)) = kvs.any fun kv => decide (kv.1 = q) := by
    rw [List.any_map]
    rfl
  rw [e]
  cases hb : kvs.any fun kv => decide (kv.1 = q) with
  | true =>
    rw [if_pos rfl]
    refine ⟨?_, replK_ok r q t⟩
    rw [List.map_map]
    refine List.map_congr_left fun kv _ => ?_
    show (if kv.1 = q then (kv.1, v) else kv).1 = kv.1
    split <;> rfl
  | false =>
    rw [if_neg (by decide)]
    refine ⟨by simp, ?_⟩
    rw [List.map_append]
    exact t.snoc r
theorem set_ok (hu : X.A.units + 65 < cLine) : PSet X (rdSet L) := by
  intro pins s σ H o i v ov iv u Q I ro ri rv ⟨F, φ, h, dx, dy, d, h', hr, rX, rY, rD, e, q⟩
  unfold setD at e
  split at e
  · cases rX with
    | @ref n a eφ =>
      obtain ⟨w, e1, rw_⟩ := hr.ro eφ
      rw [e1] at e
      cases rw_ with
      | @lst vs l q1 r1 =>
        dsimp only at e
        split at e
        · rename_i j
          obtain ⟨p, e2, e3⟩ := Option.map_eq_some_iff.mp e
          subst e3
          cases rY
          have m : a ∈ φ := List.mem_of_getElem? eφ
          have t : XT φ H φ (upd H a (.lst _)) := XT.write (o := .lst (vs.set p v)) hr m
          refine set_list pins s σ H _ _ v ov iv u Q I ro ri rv ⟨a, vs, _, p, rfl, rfl, q1, ?_, q φ _ t (hr.write eφ (.lst upd_same ((r1.mono t).set (rD.mono t) p)))⟩
          rw [← r1.length]
          exact e2
        · cases e
      | @dct kvs ks ds q1 k r1 =>
        dsimp only at e
        split at e
        · rename_i q' hq
          have ek := keyOf_ok rY hq
          subst ek
          split at e
          · rename_i hl
            cases e
            cases ro
            have m : a ∈ φ := List.mem_of_getElem? eφ
            have t : XT φ H φ (upd H a (.dK _)) := XT.write (o := .dK (L2.putK kvs q' v)) hr m
            subst k
            obtain ⟨p1, p2⟩ := putK_ok (rD.mono t) q' (r1.mono t)
            refine d_setItem (Nat.lt_of_le_of_lt (Nat.add_le_add_left (by decide) _) hu) I (DPut.k (v := v) q1 ?_) ri rv fun s' I' => ⟨_, I', q φ _ t (hr.write eφ (.dct upd_same p1 p2))⟩
            have := blt_line hl
            rw [List.length_map] at this
            exact this
          · cases e
        · cases e
      | _ => cases e
  · cases e
/-! ### slices -/
theorem clip_eq_ (n d : Nat) (o : Option Int) : MV.clip n d o = HT.sIx n d o := by
  cases o with
  | none => rfl
  | some v =>
    rfl
end
end MV

set_option maxRecDepth 100000
set_option maxHeartbeats 1000000
/-! V8: built-ins by values. -/
namespace MV
open PySem PySem.Spec PyProof.Rows L2
def rdL (L : Lk) (f : List D → HH → R D) : List V → Hp → VK → Prop := fun vs H Q => ∃ (F : Fm) (φ : List Addr) (h : HH) (ds : List D) (E : XK), HR L F φ h H ∧ Rels L F φ H ds vs ∧ GE L F φ H (f ds h) Q E
def rdM (L : Lk) (f : D → List D → HH → R D) : V → List V → Hp → VK → Prop := fun o vs H Q => ∃ (F : Fm) (φ : List Addr) (h : HH) (d : D) (ds : List D) (E : XK), HR L F φ h H ∧ Rel L F φ H d o ∧ Rels L F φ H ds vs ∧ GE L F φ H (f d ds h) Q E
section
variable {X : Cx} {L : Lk} {F : Fm} {φ : List Addr} {H : Hp} {h : HH} {Q : VK} {E : XK}
theorem Rels.one {d : D} {vs : List V} (r : Rels L F φ H [d] vs) : ∃ v, vs = [v] ∧ Rel L F φ H d v := by
  cases r with
  | cons r t =>
    cases t
    exact ⟨_, rfl, r⟩
theorem oneL_ok {ds : List D} {vs : List V} {l : List D} (x : HR L F φ h H) (r : Rels L F φ H ds vs) (e : oneL ds h = some l) : ∃ a ws, vs = [.ref a] ∧ SqL L.K H a ws ∧ Rels L F φ H l ws := by
  unfold oneL at e
  split at e
  · obtain ⟨v, rfl, r1⟩ := r.one
    obtain ⟨a, ws, rfl, q, t⟩ := listOf_ok x r1 e
    exact ⟨a, ws, rfl, q, t⟩
  · cases e
theorem oneInts {ds : List D} {vs : List V} {ns : List Int} (x : HR L F φ h H) (r : Rels L F φ H ds vs) (e : (oneL ds h).bind MV.intsD = some ns) : ∃ a, vs = [.ref a] ∧ SqL L.K H a (ns.map V.int) := by
  obtain ⟨l, e1, e2⟩ := Option.bind_eq_some_iff.mp e
  obtain ⟨a, ws, rfl, q, t⟩ := oneL_ok x r e1
  rw [t.intsD e2] at q
  exact ⟨a, rfl, q⟩
theorem oneBls {ds : List D} {vs : List V} {ns : List Bool} (x : HR L F φ h H) (r : Rels L F φ H ds vs) (e : (oneL ds h).bind MV.bls = some ns) : ∃ a, vs = [.ref a] ∧ SqL L.K H a (ns.map V.bl) := by
  obtain ⟨l, e1, e2⟩ := Option.bind_eq_some_iff.mp e
  obtain ⟨a, ws, rfl, q, t⟩ := oneL_ok x r e1
  rw [t.bls e2] at q
  exact ⟨a, rfl, q⟩
theorem len_ok (hK : X.K = L.K) : CallR X (.builtin "len") (rdL L lenD) := by
  intro pins s σ H vs us Q I r ⟨F, φ, h, ds, E, hr, rs, g⟩
  unfold lenD at g
  split at g
  · obtain ⟨v, rfl, r1⟩ := rs.one
    split at g
    · rename_i l hl
      obtain ⟨a, ws, rfl, sq, t⟩ := seqOf_ok hr r1 hl
      refine call_len pins s σ H _ us Q I r ⟨_, ws.length, rfl, ?_, by rw [← t.length]; exact G.ok g hr (.int _)⟩
      rw [hK]
      exact sq.elim (fun q => .inl ⟨ws, q, rfl⟩) fun q => .inr ⟨ws, q, rfl⟩
    · split at g
      · cases r1
        split at g
        · rename_i z hz
          exact call_len pins s σ H _ us Q I r ⟨_, _, rfl, ⟨by rw [sizeLine_eq]; exact hz, rfl⟩, G.ok g hr (.int _)⟩
        · exact (G.no_ g).elim
      · exact (G.no_ g).elim
  · exact (G.no_ g).elim
theorem abs_ok : CallR X (.builtin "abs") (rdL L absD) := by
  intro pins s σ H vs us Q I r ⟨F, φ, h, ds, E, hr, rs, g⟩
  unfold absD at g
  split at g
  · obtain ⟨v, rfl, r1⟩ := rs.one
    cases r1
    exact call_abs pins s σ H _ us Q I r ⟨_, rfl, G.ok g hr (.int _)⟩
  · exact (G.no_ g).elim
theorem int_ok : CallR X (.type "int") (rdL L intD) := by
  intro pins s σ H vs us Q I r ⟨F, φ, h, ds, E, hr, rs, g⟩
  unfold intD at g
  split at g
  · obtain ⟨v, rfl, r1⟩ := rs.one
    cases r1
    exact call_int1 pins s σ H _ us Q I r (.inl ⟨_, rfl, G.ok g hr (.int _)⟩)
  · obtain ⟨v, rfl, r1⟩ := rs.one
    cases r1
    exact call_int1 pins s σ H _ us Q I r (.inr ⟨_, rfl, G.ok g hr (.int _)⟩)
  · exact (G.no_ g).elim
theorem list_ok (hK : X.K = L.K) (m : Bool) : CallR X (.type "list") (rdL L (listD m)) := by
  intro pins s σ H vs us Q I r ⟨F, φ, h, ds, E, hr, rs, g⟩
  unfold listD at g
  split at g
  · obtain ⟨v, rfl, r1⟩ := rs.one
    split at g
    · rename_i l hl
      obtain ⟨a, ws, rfl, sq, t⟩ := seqOf_ok hr r1 hl
      exact call_list_of pins s σ H _ us Q I r ⟨a, ws, rfl, by rw [hK]; exact sq, (mkL_ok hr t g).2⟩
    · exact (G.no_ g).elim
  · exact (G.no_ g).elim
theorem tuple_ok (hK : X.K = L.K) : CallR X (.type "tuple") (rdL L tupleD) := by
  intro pins s σ H vs us Q I r ⟨F, φ, h, ds, E, hr, rs, g⟩
  unfold tupleD at g
  split at g
  · obtain ⟨v, rfl, r1⟩ := rs.one
    split at g
    · rename_i l hl
      obtain ⟨a, ws, rfl, sq, t⟩ := seqOf_ok hr r1 hl
      refine call_tuple_of pins s σ H _ us Q I r ⟨a, ws, rfl, ?_⟩
      rw [hK]
      rcases sq with sq | sq
      · refine .inl ⟨sq, fun p hp => ?_⟩
        have x : XT φ H φ (upd H p (.tup ws)) := .fresh hp
        exact G.ok' g x (hr.fresh hp) (.tup (.inl (.inl upd_same)) (t.mono x))
      · exact .inr ⟨sq, G.ok g hr (.tup sq t)⟩
    · exact (G.no_ g).elim
  · exact (G.no_ g).elim
theorem sum_ok (hK : X.K = L.K) (hc : X.calm = true) : CallR X (.builtin "sum") (rdL L sumD) := by
  intro pins s σ H vs us Q I r ⟨F, φ, h, ds, E, hr, rs, g⟩
  unfold sumD at g
  split at g
  · rename_i ns e
    obtain ⟨a, rfl, q⟩ := oneInts hr rs e
    exact cr_sum hc pins s σ H _ us Q I r ⟨a, ns, rfl, by rw [hK]; exact q, G.ok g hr (.int _)⟩
  · exact (G.no_ g).elim
theorem any_ok (hK : X.K = L.K) (hc : X.calm = true) : CallR X (.builtin "any") (rdL L anyD) := by
  intro pins s σ H vs us Q I r ⟨F, φ, h, ds, E, hr, rs, g⟩
  unfold anyD at g
  split at g
  · rename_i ns e
    obtain ⟨a, rfl, q⟩ := oneBls hr rs e
    exact cr_any hc pins s σ H _ us Q I r ⟨a, ns, rfl, by rw [hK]; exact q, G.ok g hr (.bl _)⟩
  · exact (G.no_ g).elim
theorem all_ok (hK : X.K = L.K) (hc : X.calm = true) : CallR X (.builtin "all") (rdL L allD) := by
  intro pins s σ H vs us Q I r ⟨F, φ, h, ds, E, hr, rs, g⟩
  unfold allD at g
  split at g
  · rename_i ns e
    obtain ⟨a, rfl, q⟩ := oneBls hr rs e
    exact cr_all hc pins s σ H _ us Q I r ⟨a, ns, rfl, by rw [hK]; exact q, G.ok g hr (.bl _)⟩
  · exact (G.no_ g).elim
theorem minI_ok : ∀ {ns : List Int} {m : Int}, minI ns = some m → m ∈ ns ∧ ∀ y ∈ ns, m ≤ y
  | [], _, e => by cases e
  | [x], m, e => by
    cases e
    exact ⟨by simp, fun y hy => by simp at hy; omega⟩
  | x :: y :: r, m, e => by
    obtain ⟨k, e1, e2⟩ := Option.map_eq_some_iff.mp (show (minI (y :: r)).map (fun m => if x ≤ m then x else m) = some m from e)
    obtain ⟨h1, h2⟩ := minI_ok e1
    subst e2
    refine ⟨?_, fun z hz => ?_⟩
    · split
      · exact List.mem_cons_self
      · exact List.mem_cons_of_mem _ h1
    · rcases List.mem_cons.mp hz with rfl | hz
      · split <;> omega
      · have := h2 z hz
        split <;> omega
theorem maxI_ok : ∀ {ns : List Int} {m : Int}, maxI ns = some m → m ∈ ns ∧ ∀ y ∈ ns, y ≤ m
  | [], _, e => by cases e
  | [x], m, e => by
    cases e
    exact ⟨by simp, fun y hy => by simp at hy; omega⟩
  | x :: y :: r, m, e => by
    obtain ⟨k, e1, e2⟩ := Option.map_eq_some_iff.mp (show (maxI (y :: r)).map (fun m => if m ≤ x then x else m) = some m from e)
    obtain ⟨h1, h2⟩ := maxI_ok e1
    subst e2
    refine ⟨?_, fun z hz => ?_⟩
    · split
      · exact List.mem_cons_self
      · exact List.mem_cons_of_mem _ h1
    · rcases List.mem_cons.mp hz with rfl | hz
      · split <;> omega
      · have := h2 z hz
        split <;> omega
theorem min_ok (hK : X.K = L.K) (hc : X.calm = true) : CallR X (.builtin "min") (rdL L minD) := by
  intro pins s σ H vs us Q I r ⟨F, φ, h, ds, E, hr, rs, g⟩
  unfold minD at g
  split at g
  · rename_i n e
    obtain ⟨ns, e1, e2⟩ := Option.bind_eq_some_iff.mp e
    obtain ⟨a, rfl, q⟩ := oneInts hr rs e1
    obtain ⟨m1, m2⟩ := minI_ok e2
    refine cr_min hc pins s σ H _ us Q I r ⟨a, ns, rfl, by rw [hK]; exact q, List.length_pos_of_mem m1, fun m h1 h2 => ?_⟩
    have : m = n := Int.le_antisymm (h2 n m1) (m2 m h1)
    subst this
    exact G.ok g hr (.int _)
  · exact (G.no_ g).elim
theorem max_ok (hK : X.K = L.K) (hc : X.calm = true) : CallR X (.builtin "max") (rdL L maxD) := by
  intro pins s σ H vs us Q I r ⟨F, φ, h, ds, E, hr, rs, g⟩
  unfold maxD at g
  split at g
  · rename_i n e
    obtain ⟨ns, e1, e2⟩ := Option.bind_eq_some_iff.mp e
    obtain ⟨a, rfl, q⟩ := oneInts hr rs e1
    obtain ⟨m1, m2⟩ := maxI_ok e2
    refine cr_max hc pins s σ H _ us Q I r ⟨a, ns, rfl, by rw [hK]; exact q, List.length_pos_of_mem m1, fun m h1 h2 => ?_⟩
    have : m = n := Int.le_antisymm (m2 m h1) (h2 n m1)
    subst this
    exact G.ok g hr (.int _)
  · exact (G.no_ g).elim
theorem insI_perm (x : Int) : ∀ l : List Int, (insI x l).Perm (x :: l)
  | [] => .refl _
  | y :: r => by
    show (if x ≤ y then x :: y :: r else y :: insI x r).Perm (x :: y :: r)
    split
    · exact .refl _
    · exact ((insI_perm x r).cons y).trans (List.Perm.swap x y r)
theorem insI_sorted (x : Int) : ∀ l : List Int, l.Pairwise (· ≤ ·) → (insI x l).Pairwise (· ≤ ·)
  | [], _ => by simp [insI]
  | y :: r, h => by
    obtain ⟨h1, h2⟩ := List.pairwise_cons.mp h
    show (if x ≤ y then x :: y :: r else y :: insI x r).Pairwise (· ≤ ·)
    split
    · rename_i hx
      refine List.pairwise_cons.mpr ⟨fun z hz => ?_, h⟩
      rcases List.mem_cons.mp hz with rfl | hz
      · exact hx
      · exact Int.le_trans hx (h1 z hz)
    · rename_i hx
      refine List.pairwise_cons.mpr ⟨fun z hz => ?_, insI_sorted x r h2⟩
      rcases List.mem_cons.mp ((insI_perm x r).mem_iff.mp hz) with rfl | hz
      · omega
      · exact h1 z hz
theorem sortI_perm : ∀ l : List Int, (sortI l).Perm l
  | [] => .refl _
  | x :: r => (insI_perm x (sortI r)).trans ((sortI_perm r).cons x)
theorem sortI_sorted : ∀ l : List Int, (sortI l).Pairwise (· ≤ ·)
  | [] => .nil
  | x :: r => insI_sorted x (sortI r) (sortI_sorted r)
theorem sorted_eq : ∀ {l k : List Int}, l.Perm k → l.Pairwise (· ≤ ·) → k.Pairwise (· ≤ ·) → l = k := fun {l k} p a b =>
  List.Perm.eq_of_pairwise (fun x y _ _ h1 h2 => Int.le_antisymm h1 h2) a b p
end
end MV

set_option maxRecDepth 100000
set_option maxHeartbeats 1000000
/-! V9: methods of built-in types, isinstance, slices by values. -/
namespace MV
open PySem PySem.Spec PyProof.Rows L2
section
variable {X : Cx} {L : Lk} {F : Fm} {φ : List Addr} {H : Hp} {h : HH} {Q : VK} {E : XK}
theorem wr_ok {n : Nat} {a : Addr} {l l' : List D} {d : D} {vs' : List V} {v : V} (hr : HR L F φ h H) (eφ : φ[n]? = some a) (r : Rels L F φ H l' vs') (rd : Rel L F φ H d v)
    (g : GE L F φ H (.ok d (h.set n (.lst l'))) Q E) : Q v (upd H a (.lst vs')) := by
  have t : XT φ H φ (upd H a (.lst vs')) := XT.write (o := .lst vs') hr (List.mem_of_getElem? eφ)
  exact G.ok' g t (hr.write eφ (.lst upd_same (r.mono t))) (rd.mono t)
theorem append_ok : MtR X "list.append" (rdM L appendD) := by
  intro pins s σ H x xs v us Q I rx rxs ⟨F, φ, h, d, ds, E, hr, rX, rs, g⟩
  unfold appendD at g
  split at g
  · obtain ⟨y, rfl, r1⟩ := rs.one
    cases rX with
    | @ref n a eφ =>
      obtain ⟨o, e1, ro⟩ := hr.ro eφ
      rw [e1] at g
      cases ro with
      | @lst vs l q1 rl =>
        dsimp only at g
        split at g
        · rename_i hl
          exact mt_append pins s σ H _ _ v us Q I rx rxs ⟨a, vs, y, rfl, rfl, q1, by rw [← rl.length]; exact blt_line hl, wr_ok (l := l) hr eφ (rl.snoc r1) .non g⟩
        · exact (G.no_ g).elim
      | _ => exact (G.no_ g).elim
  · exact (G.no_ g).elim
theorem pop_ok : MtR X "list.pop" (rdM L popD) := by
  intro pins s σ H x xs v us Q I rx rxs ⟨F, φ, h, d, ds, E, hr, rX, rs, g⟩
  unfold popD at g
  split at g
  · cases rs
    cases rX with
    | @ref n a eφ =>
      obtain ⟨o, e1, ro⟩ := hr.ro eφ
      rw [e1] at g
      cases ro with
      | @lst vs l q1 rl =>
        dsimp only at g
        split at g
        · rename_i z hl
          obtain ⟨w, e2, r2⟩ := rl.get hl
          rw [rl.length] at e2
          exact mt_pop pins s σ H _ _ v us Q I rx rxs ⟨a, vs, w, rfl, rfl, q1, e2, wr_ok (l := l) hr eφ rl.dropLast r2 g⟩
        · exact (G.no_ g).elim
      | _ => exact (G.no_ g).elim
  · exact (G.no_ g).elim
theorem insert_ok : MtR X "list.insert" (rdM L insertD) := by
  intro pins s σ H x xs v us Q I rx rxs ⟨F, φ, h, d, ds, E, hr, rX, rs, g⟩
  unfold insertD at g
  split at g
  · cases rs with
    | cons r0 t =>
      obtain ⟨y, rfl, r1⟩ := t.one
      cases r0
      cases rX with
      | @ref n a eφ =>
        obtain ⟨o, e1, ro⟩ := hr.ro eφ
        rw [e1] at g
        cases ro with
        | @lst vs l q1 rl =>
          dsimp only at g
          split at g
          · rename_i i _ hl
            obtain ⟨h1, h2⟩ := Bool.and_eq_true_iff.mp hl
            obtain ⟨h3, h4⟩ := Bool.and_eq_true_iff.mp h2
            have b1 := blt_line h1
            have b2 := of_decide_eq_true h3
            have b3 := of_decide_eq_true h4
            have b4 := line63
            refine mt_insert pins s σ H _ _ v us Q I rx rxs ⟨a, vs, _, y, rfl, rfl, q1, by rw [← rl.length]; exact b1, b2, ?_, wr_ok (l := l) hr eφ (((rl.take _).snoc r1).append (rl.drop _)) .non g⟩
            have : ((2 : Int) ^ 63) = 9223372036854775808 := by decide
            rw [this]
            have c : (sizeLine : Nat) = 16777216 := by rw [sizeLine_eq]
            omega
          · exact (G.no_ g).elim
        | _ => exact (G.no_ g).elim
  · exact (G.no_ g).elim
theorem clear_ok : MtR X "list.clear" (rdM L clearD) := by
  intro pins s σ H x xs v us Q I rx rxs ⟨F, φ, h, d, ds, E, hr, rX, rs, g⟩
  unfold clearD at g
  split at g
  · cases rs
    cases rX with
    | @ref n a eφ =>
      obtain ⟨o, e1, ro⟩ := hr.ro eφ
      rw [e1] at g
      cases ro with
      | @lst vs l q1 rl => exact mt_clear pins s σ H _ _ v us Q I rx rxs ⟨a, vs, rfl, rfl, q1, wr_ok (l := l) hr eφ .nil .non g⟩
      | _ => exact (G.no_ g).elim
  · exact (G.no_ g).elim
theorem reverse_ok : MtR X "list.reverse" (rdM L reverseD) := by
  intro pins s σ H x xs v us Q I rx rxs ⟨F, φ, h, d, ds, E, hr, rX, rs, g⟩
  unfold reverseD at g
  split at g
  · cases rs
    cases rX with
    | @ref n a eφ =>
      obtain ⟨o, e1, ro⟩ := hr.ro eφ
      rw [e1] at g
      cases ro with
      | @lst vs l q1 rl => exact mt_reverse pins s σ H _ _ v us Q I rx rxs ⟨a, vs, rfl, rfl, q1, wr_ok (l := l) hr eφ rl.reverse .non g⟩
      | _ => exact (G.no_ g).elim
  · exact (G.no_ g).elim
theorem findD_ok {x : D} {n m : Nat} (hx : D.cmp n x = true) : ∀ {l : List D} {j : Nat}, D.cmps m l = true → findD x l = some j →
    ∃ z, (D.pds l)[j]? = some z ∧ PyData.eqv z x.pd = true ∧ ∀ (k : Nat) (w : PyData), k < j → (D.pds l)[k]? = some w → PyData.eqv w x.pd = false
  | [], _, _, e => by cases e
  | y :: r, j, c, e => by
    obtain ⟨c1, c2⟩ := Bool.and_eq_true_iff.mp (by simpa only [D.cmps] using c)
    have eq := eqv_pd y x m n c1 hx
    have e : (if D.eqv y x then some 0 else (findD x r).map (· + 1)) = some j := e
    by_cases hy : D.eqv y x = true
    · rw [if_pos hy] at e
      cases e
      exact ⟨y.pd, rfl, eq.trans hy, fun k w hk _ => absurd hk (Nat.not_lt_zero k)⟩
    · rw [if_neg hy] at e
      obtain ⟨i, e1, e2⟩ := Option.map_eq_some_iff.mp e
      subst e2
      obtain ⟨z, h1, h2, h3⟩ := findD_ok hx c2 e1
      refine ⟨z, h1, h2, fun k w hk hw => ?_⟩
      cases k with
      | zero =>
        have : w = y.pd := (Option.some.inj hw).symm
        subst this
        rw [eq]
        simpa using hy
      | succ k => exact h3 k w (Nat.lt_of_succ_lt_succ hk) hw
theorem lindex_ok (hK : X.K = L.K) (hu : X.A.units + 65 < cLine) : MtR X "list.index" (rdM L lindexD) := by
  intro pins s σ H x xs v us Q I rx rxs ⟨F, φ, h, d, ds, E, hr, rX, rs, g⟩
  unfold lindexD at g
  split at g
  · rename_i dx
    obtain ⟨y, rfl, r1⟩ := rs.one
    split at g
    · rename_i l hl
      obtain ⟨a, ws, rfl, q, t⟩ := listOf_ok hr rX hl
      unfold idxIn at g
      split at g
      · rename_i hc
        obtain ⟨c1, c2⟩ := Bool.and_eq_true_iff.mp hc
        split at g
        · rename_i j hj
          obtain ⟨z, h1, h2, h3⟩ := findD_ok c1 c2 hj
          have sl : SeqAt.shaped (.list (D.pds l)) = true := by
            have := cmp_shaped (d := .lst l) (n := 51) (by simpa [D.cmp] using c2) (by decide)
            simpa [D.pd] using this
          exact mt_indexD hu pins s σ H _ _ v us Q I rx rxs ⟨a, y, (shown dx h).pd, D.pds l, j, z, rfl, rfl, .lst (sqK hK q) (by rw [hK]; exact t.dps c2), by rw [hK]; exact shown_dp hr r1 c1, sl, cmp_shaped c1 (by decide), h1, h2, h3, G.ok g hr (.int _)⟩
        · exact (G.no_ g).elim
      · exact (G.no_ g).elim
    · exact (G.no_ g).elim
  · exact (G.no_ g).elim
theorem rels_zip {l : List D} {ws : List V} (t : Rels L F φ H l ws) : ∀ p ∈ l.zip ws, Rel L F φ H p.1 p.2 := by
  intro p hp
  induction l generalizing ws with
  | nil => cases t; simp at hp
  | cons d l ih =>
    cases t with
    | cons r t =>
      rw [List.zip_cons_cons, List.mem_cons] at hp
      rcases hp with rfl | hp
      · exact r
      · exact ih t hp
theorem rels_of {bs : List (D × V)} (h : ∀ p ∈ bs, Rel L F φ H p.1 p.2) : Rels L F φ H (bs.map (·.1)) (bs.map (·.2)) := by
  induction bs with
  | nil => exact .nil
  | cons b bs ih => exact .cons (h b (List.mem_cons_self ..)) (ih fun p hp => h p (List.mem_cons_of_mem _ hp))
theorem each_zip : ∀ {l : List D} {ws : List V} {its : List Value} {hp : Heap} {as : List Addr}, l.length = ws.length → Vals ws its → ReadsAll hp its (D.pds l) as →
    PySem.W.EachIs (fun v (p : D × V) => RelV p.2 v ∧ ∃ as, Reads hp v p.1.pd as) its (l.zip ws)
  | [], ws, its, hp, as, hl, rv, r => by
    cases ws with
    | nil =>
      cases rv
      exact .nil
    | cons w ws => cases hl
  | d :: l, ws, its, hp, as, hl, rv, r => by
    cases ws with
    | nil => cases hl
    | cons w ws =>
      cases rv with
      | cons r1 rv =>
        rw [D.pds] at r
        cases r with
        | cons r2 r3 => exact .cons ⟨r1, _, r2⟩ (each_zip (Nat.succ.inj hl) rv r3)
theorem vals_each : ∀ {its : List Value} {bs : List (D × V)} {hp : Heap}, PySem.W.EachIs (fun v (p : D × V) => RelV p.2 v ∧ ∃ as, Reads hp v p.1.pd as) its bs → Vals (bs.map (·.2)) its
  | _, _, _, .nil => .nil
  | _, _, _, .cons h t => .cons h.1 (vals_each t)
theorem alikeB_ok {l : List D} (h : alikeB l = true) : PySem.W.AllAlike (l.map D.pd) := by
  intro d hd e he
  obtain ⟨x, hx, rfl⟩ := List.mem_map.mp hd
  obtain ⟨y, hy, rfl⟩ := List.mem_map.mp he
  exact List.all_eq_true.mp (List.all_eq_true.mp h x hx) y hy
theorem sortableB_ok {l : List D} (h : sortableB l = true) : PySem.W.Sortable (l.map D.pd) := by
  unfold sortableB at h
  rcases Bool.or_eq_true_iff.mp h with h | h
  · refine .inl fun d hd => ?_
    obtain ⟨x, hx, rfl⟩ := List.mem_map.mp hd
    have q := List.all_eq_true.mp h x hx
    unfold tup1B at q
    split at q
    · rename_i a r e
      exact ⟨a, r, e⟩
    · cases q
  · refine .inr fun d hd => ?_
    obtain ⟨x, hx, rfl⟩ := List.mem_map.mp hd
    have q := List.all_eq_true.mp h x hx
    unfold notTB at q
    split at q
    · cases q
    · cases q
    · rename_i e1 e2
      exact ⟨e1, fun xs e => e2 xs e⟩
theorem cmps_mem : ∀ {l : List D} {n : Nat}, D.cmps n l = true → ∀ d ∈ l, D.cmp n d = true
  | [], _, _, d, hd => by cases hd
  | x :: l, n, h, d, hd => by
    rw [D.cmps, Bool.and_eq_true] at h
    rcases List.mem_cons.mp hd with rfl | hd
    · exact h.1
    · exact cmps_mem h.2 d hd
theorem sorted_ok (hK : X.K = L.K) (hu : X.A.units + 65 < cLine) (m : Bool) : CallR X (.builtin "sorted") (rdL L (sortedD m)) := by
  intro pins s σ H vs us Q I r ⟨F, φ, h, ds, E, hr, rs, g⟩
  unfold sortedD at g
  split at g
  · rename_i ns e
    split at g
    · rename_i hl
      obtain ⟨a, rfl, q⟩ := oneInts hr rs e
      have z := mkL_ok hr (Rels.ofInts (sortI ns)) g
      refine cr_sorted pins s σ H _ us Q I r ⟨a, ns, rfl, by rw [hK]; exact q, Nat.le_of_ble_eq_true hl, fun ns' p h1 h2 hp => ?_⟩
      rw [sorted_eq (h1.trans (sortI_perm ns).symm) h2 (sortI_sorted ns)]
      exact z.2 p hp
    · exact (G.no_ g).elim
  · split at g
    · rename_i l e
      split at g
      · rename_i hc
        obtain ⟨c1, c2⟩ := Bool.and_eq_true_iff.mp hc
        obtain ⟨c2, c3⟩ := Bool.and_eq_true_iff.mp c2
        obtain ⟨a, ws, rfl, q, t⟩ := oneL_ok hr rs e
        have c1 : D.cmps 51 l = true := by simpa [D.cmp] using c1
        obtain ⟨its, rv, hl, _⟩ := I.list (show SqL X.K H a ws by rw [hK]; exact q)
        rw [Vals.ref1 r]
        obtain ⟨as, h4⟩ := Dp.readsAll I (D.pds l) ws its (by rw [hK]; exact t.dps c1) rv
        have lw := t.length
        have er := each_zip lw rv h4
        have m1 : (l.zip ws).map (fun p : D × V => p.1.pd) = l.map D.pd := by
          have : (l.zip ws).map (fun p : D × V => p.1.pd) = ((l.zip ws).map (·.1)).map D.pd := by rw [List.map_map]; rfl
          rw [this, List.map_fst_zip (by omega)]
        have f1 : (l.zip ws).map (·.1) = l := List.map_fst_zip (by omega)
        have sm : ((l.zip ws).mergeSort (PySem.W.dataLe false fun p : D × V => p.1.pd)).map (·.1) = l.mergeSort (PySem.W.dataLe false D.pd) := by
          have z := PySem.W.sort_maps (r := PySem.W.dataLe false fun p : D × V => p.1.pd) (s := PySem.W.dataLe false D.pd) (fun p : D × V => p.1) (l := l.zip ws) (fun a _ b _ => rfl)
          rw [f1] at z
          exact z
        have rz := rels_of (bs := (l.zip ws).mergeSort (PySem.W.dataLe false fun p : D × V => p.1.pd)) fun p hp => rels_zip t p ((List.mergeSort_perm _ _).mem_iff.mp hp)
        rw [sm] at rz
        have z := mkL_ok hr rz g
        have lz : (l.zip ws).length ≤ sizeLine := by
          have := z.1
          rw [List.length_map, List.length_mergeSort] at this
          exact this
        refine PySem.W.sorted_data (bs := l.zip ws) (enc := fun p : D × V => p.1.pd) hl.isList er (er.mono fun _ _ h => h.2) (by rw [m1]; exact alikeB_ok c2) (by rw [m1]; exact sortableB_ok c3) lz (fun b hb => ?_) fun out h1 h2 => ?_
        · have hb1 : b.1 ∈ l := by rw [← f1]; exact List.mem_map.mpr ⟨b, hb, rfl⟩
          have := (cmp_lay b.1 51 (cmps_mem c1 b.1 hb1)).2
          omega
        · obtain ⟨ep, he'⟩ := PyProof.Rows.sortedAll_at s.heap its out.toArray
          refine ⟨.ref _, upd H (s.heap.objs.size + 1) (.lst _), I.laid (t' := s.toks) (fun _ _ => PyProof.Rows.sortedAll_old) (Nat.le_succ _) ⟨z.1, out, ep, vals_each h2, he'⟩, rfl, z.2 _ (I.hok.fresh (Nat.le_succ _))⟩
      · exact (G.no_ g).elim
    · exact (G.no_ g).elim
/-- t.index(x), t of deep data -/
theorem mt_tindexD (hu : X.A.units + 65 < cLine) : MtR X "tuple.index" (fun x xs H Q => ∃ (a : Addr) (y : V) (d : PyData) (ds : List PyData) (j : Nat) (z : PyData), x = V.ref a ∧ xs = [y] ∧ Dp X.K H (V.ref a) (.tuple ds) ∧ Dp X.K H y d ∧
    SeqAt.shaped (.tuple ds) = true ∧ SeqAt.shaped d = true ∧ ds[j]? = some z ∧ PyData.eqv z d = true ∧ (∀ (m : Nat) (z' : PyData), m < j → ds[m]? = some z' → PyData.eqv z' d = false) ∧ Q (.int (j : Nat)) H) := by
  intro pins s σ H x xs v us Q I rx rxs h
  obtain ⟨a, y, d, ds, j, z, rfl, rfl, hl, hy, sl, sd, hz, hzj, hno, q⟩ := h
  cases rx
  cases rxs with
  | cons ry rt =>
    rename_i uy ut
    cases rt
    obtain ⟨bs, r1⟩ := Dp.reads I d y uy hy ry
    have hxs : PyData.canLayAll0 ds = true := SeqAt.canLay_of_shaped sl
    have hroom : X.A.units + 1 + min (PyData.depthAll ds) d.depth < cLine := by
      have h1 : (PyData.tuple ds).depth ≤ 64 := SeqAt.depth_of_shaped sl
      have h2 : d.depth ≤ 64 := SeqAt.depth_of_shaped sd
      have h3 : min (PyData.depthAll ds) d.depth ≤ d.depth := Nat.min_le_right _ _
      omega
    cases hl with
    | tup hs ha =>
      obtain ⟨its, rv, ⟨⟨cls, dd, data, sls⟩, ho, hc, n, hdt⟩, hlen⟩ := I.tuple hs
      simp only at hc hdt
      subst hc hdt
      obtain ⟨as, h4⟩ := Dp.readsAll I ds _ its ha rv
      have hn : its.length = ds.length := SeqAt.ReadsAll.length ds its as h4
      have hmap : its.map (SeqAt.readOf s.heap) = ds := SeqAt.readsAll_map ds its as hxs h4
      have hvl := rv.length
      have hsl := sizeLine_eq
      obtain ⟨hjd, _⟩ := List.getElem?_eq_some_iff.mp hz
      have hjl : j < its.length := by omega
      have hj : j < its.toArray.size := by simpa using hjl
      have at_ : ∀ (m : Nat) (hm : m < its.toArray.size) (z' : PyData), ds[m]? = some z' → SeqAt.readOf s.heap its.toArray[m] = z' := by
        intro m hm z' hz'
        have hml : m < its.length := by simpa using hm
        rw [← hmap, List.getElem?_map, List.getElem?_eq_getElem hml] at hz'
        have e1 : SeqAt.readOf s.heap its[m] = z' := Option.some.inj (show some (SeqAt.readOf s.heap its[m]) = some z' from hz')
        simpa using e1
      refine call_meets PySem.F.slot_tuple_index ⟨_, ho, rfl⟩ PySem.F.entry_tuple_index (PySem.F.args_tuple_index_2 _ _)
        (TI.tuple_indexAt a its.toArray n dd sls uy (fun u => PyData.eqv (SeqAt.readOf s.heap u) d) j hj ?_ ?_) ⟨ho, SeqAt.items_eqAt (vs := its.toArray) (show ReadsAll s.heap its.toArray.toList ds as from h4) r1 hxs (SeqAt.canLay_of_shaped sd) hroom, ?_⟩
      · show PyData.eqv (SeqAt.readOf s.heap its.toArray[j]) d = true
        rw [at_ j hj z hz]
        exact hzj
      · intro m hm hmj
        have hmd : m < ds.length := by omega
        have hz' : ds[m]? = some ds[m] := List.getElem?_eq_getElem hmd
        show PyData.eqv (SeqAt.readOf s.heap its.toArray[m]) d = false
        rw [at_ m hm _ hz']
        exact hno m _ hmj hz'
      · exact ⟨.int (j : Nat), H, I.tok _, ⟨_, rfl⟩, q⟩
theorem tindex_ok (hK : X.K = L.K) (hu : X.A.units + 65 < cLine) : MtR X "tuple.index" (rdM L tindexD) := by
  intro pins s σ H x xs v us Q I rx rxs ⟨F, φ, h, d, ds, E, hr, rX, rs, g⟩
  unfold tindexD at g
  split at g
  · rename_i dx l
    obtain ⟨y, rfl, r1⟩ := rs.one
    cases rX with
    | wtup e1 e2 e3 e4 e5 e6 t =>
      unfold idxIn at g
      split at g
      · rename_i hc
        obtain ⟨c1, c2⟩ := Bool.and_eq_true_iff.mp hc
        split at g
        · rename_i j hj
          obtain ⟨z, h1, h2, h3⟩ := findD_ok c1 c2 hj
          have sl : SeqAt.shaped (.tuple (D.pds l)) = true := by
            have := cmp_shaped (d := .tup l) (n := 51) (by simpa [D.cmp] using c2) (by decide)
            simpa [D.pd] using this
          exact mt_tindexD hu pins s σ H _ _ v us Q I rx rxs ⟨_, y, (shown dx h).pd, D.pds l, j, z, rfl, rfl, .tup (.inr ⟨_, _, _, by rw [hK]; exact e1, e2, e4, e5, e6⟩) (by rw [hK]; exact t.dps c2), by rw [hK]; exact shown_dp hr r1 c1, sl, cmp_shaped c1 (by decide), h1, h2, h3, G.ok g hr (.int _)⟩
        · exact (G.no_ g).elim
      · exact (G.no_ g).elim
  · exact (G.no_ g).elim
/-! ### slices -/
def rdSl (L : Lk) (m : Bool) : V → Option Int → Option Int → Hp → VK → Prop := fun x lo hi H Q => ∃ (F : Fm) (φ : List Addr) (h : HH) (d : D) (E : XK), HR L F φ h H ∧ Rel L F φ H d x ∧ GE L F φ H (sliceD m d lo hi h) Q E
theorem cut_ok {l : List D} {vs : List V} (lo hi : Option Int) (r : Rels L F φ H l vs) : Rels L F φ H (cutL l lo hi) (cutV vs lo hi) := by
  unfold cutL cutV
  rw [clip_eq_, clip_eq_, r.length]
  exact (r.drop _).take _
theorem cutV_whole {vs : List V} {lo hi : Option Int} (e : HT.sIx vs.length 0 lo = 0 ∧ HT.sIx vs.length vs.length hi = vs.length) : cutV vs lo hi = vs := by
  unfold cutV
  rw [e.1, e.2]
  simp
theorem slice_ok (hK : X.K = L.K) (m : Bool) : SlR X (rdSl L m) := by
  intro pins s σ H x v vl vu lo hi sl Q I rx hs pl pu ⟨F, φ, h, d, E, hr, rX, g⟩
  have tups : ∀ {a : Addr} {l : List D} {vs : List V}, x = .ref a → SqT L.K H a vs → Rels L F φ H l vs → GE L F φ H (.ok (.tup (cutL l lo hi)) h) Q E → ∃ T id, typeLookup (Value.type T) (Str.ofString "__getitem__") = pure (some (Value.builtin id)) ∧ s.TypeIs v T ∧ wpAny (model X.prog X.w) X.A (getItem v (.ref sl)) (EP X pins σ Q) X.xe s := fun {a l vs} ex sq t g => by
    subst ex
    refine sl_tupA pins s σ H _ v vl vu lo hi sl Q I rx hs pl pu ⟨a, vs, rfl, by rw [hK]; exact sq, fun e => ?_, fun _ p hp => ?_⟩
    · have c := cut_ok lo hi t
      rw [cutV_whole e] at c
      exact G.ok g hr (.tup sq c)
    · have x : XT φ H φ (upd H p (.tup (cutV vs lo hi))) := .fresh hp
      exact G.ok' g x (hr.fresh hp) (.tup (.inl (.inl upd_same)) ((cut_ok lo hi t).mono x))
  unfold sliceD at g
  split at g
  · cases rX with
    | tup sq t => exact tups rfl sq t g
  · cases rX with
    | wtup e1 e2 e3 e4 e5 e6 t => exact tups rfl (.inr ⟨_, _, _, e1, e2, e4, e5, e6⟩) t g
  · split at g
    · rename_i l hl
      obtain ⟨a, vs, rfl, q, t⟩ := listOf_ok hr rX hl
      exact sl_list pins s σ H _ v vl vu lo hi sl Q I rx hs pl pu ⟨a, vs, rfl, sqK hK q, (mkL_ok hr (cut_ok lo hi t) g).2⟩
    · exact (G.no_ g).elim
end
end MV

set_option maxRecDepth 100000
set_option maxHeartbeats 1000000
/-! VC: that own syntax says a text. -/
namespace MV
open PySem PySem.Spec PyProof.Rows L2
/-- the text's names -/
inductive SK where
  | glob | meth (c : Nat) | prop (c : Nat) | cmet (c : Nat)
structure Tb where
  nm : List Str
  gn : List Str
  cn : List Str
  sn : List (SK × Str × Nat × List Str)
  /-- the own exception classes that are raised, the number of their arguments -/
  xn : List (Str × Nat) := []
  /-- in the law's own frame: lambdas are made there -/
  lq : Bool := false
  lk : Nat → Scope → Expr → Bool := fun _ _ _ => false
  /-- the slots that its lambdas look at -/
  lc : List Nat := []
  /-- the text has the law's own try -/
  tr : Bool := false
  /-- .. and the word of it -/
  tw : Bool := false
def Tb.off (T : Tb) : Tb := { T with lq := false, lk := fun _ _ _ => false }
/-- in the law's own frame -/
def Tb.on (T : Tb) : Tb := { T with lq := T.tr }
/-- the names of the law's own try, of its word -/
def tryN : Bool → Str
  | false => "_law_try"
  | true => "_law_word"
def cs' {α : Type} (k : Bool) (a b : α) : α := match k with
  | true => a
  | false => b
def isTupE : Expr → Bool
  | .Tuple _ _ _ => true
  | _ => false
def isLoc : Option NameKind → Bool
  | some .local => true
  | _ => false
def isLC : Option NameKind → Bool
  | some .local => true
  | some .cell => true
  | _ => false
def isVis : Option NameKind → Bool
  | some .local => true
  | some .cell => true
  | some .free => true
  | _ => false
def isGl : Option NameKind → Bool
  | some .globalImplicit => true
  | _ => false
def locB (sc : Scope) (x : Str) : Bool := isLoc (sc.names.lookup x)
def stoB (sc : Scope) (x : Str) : Bool := isLC (sc.names.lookup x)
def visB (sc : Scope) (x : Str) : Bool := isVis (sc.names.lookup x)
def glB (sc : Scope) (x : Str) : Bool := isGl (sc.names.lookup x) && !(x == ("__debug__" : Str))
/-- no star -/
def nsB : Expr → Bool
  | .Starred _ _ => false
  | _ => true
/-- no slice -/
def plB : Expr → Bool
  | .Slice _ _ _ _ => false
  | _ => true
/-- no comprehension -/
def ncB : Expr → Bool
  | .ListComp _ _ _ _ => false
  | .SetComp _ _ _ _ => false
  | .DictComp _ _ _ _ _ => false
  | _ => true
/-- no set display -/
def sdB : Expr → Bool
  | .Set _ _ _ => false
  | _ => true
/-- no call without arguments of a name (super) -/
def abB : Expr → Bool
  | .Call (.Name f _) [] [] _ => !decide (f = ("super" : Str))
  | _ => true
/-- tested by its truth alone -/
def trB : Expr → Bool
  | .UnaryOp .Not _ _ => false
  | .BoolOp _ _ _ => false
  | .IfExp _ _ _ _ => false
  | .Compare _ _ _ _ => false
  | _ => true
theorem sEach (x : Expr) (xs : List Expr) (env : PySem.Env) (h : nsB x = true) : starEach (x :: xs) env = (false, eval x env) :: starEach xs env := by
  cases x <;> first | rfl | cases h
theorem plIx (x : Expr) (h : plB x = true) : PlainIx x := by
  intro o i
  cases x <;> first | rfl | cases h
theorem ncSw (x : Expr) (t : Option Expr) (n : Nat) (env : PySem.Env) (h : ncB x = true) : swapsWith x t n env = pure false := by
  cases x <;> first | rfl | cases h
theorem tupSw (x y : Expr) (n : Nat) (env : PySem.Env) (h : (ncB y || isTupE x) = true) : swapsWith y (some x) n env = pure false := by
  rcases Bool.or_eq_true_iff.mp h with z | z
  · exact ncSw y _ n env z
  · cases x <;> first | (cases z; done) | skip
    cases y <;> rfl
theorem sdIt (x : Expr) (env : PySem.Env) (h : sdB x = true) : ∀ v, foldedSetIterable x env v = pure v := by
  intro v
  cases x <;> first | rfl | cases h
theorem abBase (x : Expr) (f : Str) (env : PySem.Env) (w : Sem Value) (h : abB x = true) : attributeBase x f env w = w := by
  unfold abB at h
  split at h
  · rename_i id p pos
    unfold attributeBase
    dsimp only
    have e : (id != ("super" : Str)) = true := by
      rw [bne_iff_ne]
      intro z
      rw [z] at h
      simp at h
    rw [e]
    simp
  · rename_i hx
    unfold attributeBase
    split
    · rename_i id p pos
      exact absurd rfl (hx _ _ _)
    · rfl
theorem trTest (x : Expr) (env : PySem.Env) (h : trB x = true) : ∀ whole, isTrue x env whole = (do let v ← whole; standAt x.pos; holding [v] (truthy v)) := by
  intro whole
  cases x with
  | UnaryOp op a p =>
    cases op <;> first | rfl | cases h
  | _ => first | rfl | cases h
/-- no star anywhere -/
def nsAll : List Expr → Bool
  | [] => true
  | x :: xs => nsB x && nsAll xs
theorem nsPlain (pos : Pos) (env : PySem.Env) : ∀ xs : List Expr, nsAll xs = true → (backTo pos (starEach xs env)).any (·.1) = false
  | [], _ => rfl
  | x :: xs, h => by
    obtain ⟨h1, h2⟩ := Bool.and_eq_true_iff.mp (show (nsB x && nsAll xs) = true from h)
    rw [sEach x xs env h1]
    show (false || (backTo pos (starEach xs env)).any (·.1)) = false
    rw [nsPlain pos env xs h2]
    rfl
/-- keywords with names -/
def kwsB : List Keyword → Bool
  | [] => true
  | ⟨some _, _, _⟩ :: r => kwsB r
  | _ => false
theorem kwAll (pos : Pos) (env : PySem.Env) : ∀ kws : List Keyword, kwsB kws = true → (backToKw pos (keywordEach kws env)).all (·.1.isSome) = true
  | [], _ => rfl
  | ⟨some n, x, p⟩ :: r, h => by
    show (true && (backToKw pos (keywordEach r env)).all (·.1.isSome)) = true
    rw [kwAll pos env r h] <;> rfl
  | ⟨none, x, p⟩ :: r, h => by cases h
theorem nsFew (pos : Pos) (env : PySem.Env) : ∀ xs : List Expr, nsAll xs = true → (backTo pos (starEach xs env)).all (fun x => !x.1) = true
  | [], _ => rfl
  | x :: xs, h => by
    obtain ⟨h1, h2⟩ := Bool.and_eq_true_iff.mp (show (nsB x && nsAll xs) = true from h)
    rw [sEach x xs env h1]
    show (true && (backTo pos (starEach xs env)).all (fun x => !x.1)) = true
    rw [nsFew pos env xs h2]
    rfl
/-- a name's store by a comprehension swaps -/
def swB (sc : Scope) (t : Str) (tp : Pos) : Expr → Bool
  | .ListComp _ _ s p => locB sc t && (tp.line == p.line) && !(s.names.any fun (n, k) => n == t && (k == .local || k == .cell))
  | _ => false
/-- .. does not -/
def nswB (sc : Scope) (t : Str) (tp : Pos) (y : Expr) : Bool := ncB y || match y with
  | .ListComp _ _ s p => !locB sc t || !(tp.line == p.line)
  | _ => false
def bltName : Blt → Str
  | .len => "len"
  | .abs => "abs"
  | .int => "int"
  | .list => "list"
  | .tuple => "tuple"
  | .sum => "sum"
  | .any => "any"
  | .all => "all"
  | .min => "min"
  | .max => "max"
  | .sorted => "sorted"
def bmName : BM → Str
  | .append => "append"
  | .pop => "pop"
  | .insert => "insert"
  | .clear => "clear"
  | .index => "index"
  | .reverse => "reverse"
def tyName (cn : List Str) : Ty → Str
  | .int => "int"
  | .bool => "bool"
  | .str => "str"
  | .list => "list"
  | .tuple => "tuple"
  | .dict => "dict"
  | .cls c => cn.getD c "?"
def constOk : D → Const → Bool
  | .non, .none => true
  | .bl a, .bool b => a == b
  | .int i, .int j => decide (i = j)
  | .str s, .str t => decide (s = t)
  | _, _ => false
/-- targets, the last one starred -/
def unstar : List Expr → Option (List Expr)
  | [] => none
  | [.Starred e _] => some [e]
  | x :: xs => (match unstar xs with
    | some l => (match nsB x with
      | true => some (x :: l)
      | false => none)
    | none => none)
/-- the slots that a target stores -/
def tgSlots : E → List Nat
  | .t_n i => [i]
  | .t_t es => tgSlots es
  | .t_x _ es => tgSlots es
  | .cons a b => tgSlots a ++ tgSlots b
  | _ => []
def ownOf (N : List Str) (own : List Nat) : List (Str × Nat) := own.map fun i => (N.getD i "", i)
/-- a lambda's parameters: none, or one whose default is zero -/
def lamPs (ps : Arguments) : Option (Option Str) := match ps with
  | ⟨[], [], none, [], [], none, []⟩ => some none
  | ⟨[], [⟨a, none, _⟩], none, [], [], none, [.Constant (.int z) _ _]⟩ => (match decide (z = 0) with
    | true => some (some a)
    | false => none)
  | _ => none
/-- a lambda's names: what it captures, globals, its parameter -/
def lamSB (sc scope : Scope) (N : List Str) (pa : Option Str) : Bool :=
  decide (scope.kind = .function) && (!scope.isCoroutine && (!scope.isGenerator && (scope.names.all (fun y => (!decide (y.2 = .local) || decide (pa = some y.1)) && (!decide (y.2 = .cell) && (!decide (y.2 = .free) || (decide (sc.names.lookup y.1 = some .cell) || decide (sc.names.lookup y.1 = some .free))))) && (match pa with
    | some a => decide (scope.names.lookup a = some .local) && !N.contains a
    | none => true))))
section
variable (T : Tb) (N : List Str)
def ckTys : List Ty → List Expr → Bool
  | [], [] => true
  | t :: ts, .Name x _ :: xs => (decide (tyName T.cn t = x) && (match t with
    | .cls i => T.cn[i]?.isSome
    | _ => true)) && ckTys ts xs
  | _, _ => false
end
mutual
def ck : Tb → List Str → E → Scope → Expr → Bool
  | T, N, .v i, sc, e => (match e with
    | .Name x _ => decide (N[i]? = some x) && (visB sc x && (!(x == ("__debug__" : Str)) && !(x == ("__classdict__" : Str))))
    | _ => false)
  | T, N, .c d, sc, e => (match e with
    | .Constant k _ _ => constOk d k
    | _ => false)
  | T, N, .g k, sc, e => (match e with
    | .Name x _ => decide (T.gn[k]? = some x) && glB sc x
    | _ => false)
  | T, N, .bin op m a b, sc, e => (match e with
    | .BinOp x o y _ => decide (op = o) && (ck T N a sc x && ck T N b sc y)
    | _ => false)
  | T, N, .neg a, sc, e => (match e with
    | .UnaryOp .USub x _ => ck T N a sc x
    | _ => false)
  | T, N, .cmp op a b, sc, e => (match e with
    | .Compare x [o] [y] _ => decide (op = o) && (ck T N a sc x && (ck T N b sc y && !behindInMarks op y))
    | _ => false)
  | T, N, .chain o p a b d, sc, e => (match e with
    | .Compare x [o', p'] [y, z] _ => decide (o = o') && (decide (p = p') && (ck T N a sc x && (ck T N b sc y && (ck T N d sc z && !behindInMarks p z))))
    | _ => false)
  | T, N, .band a b, sc, e => (match e with
    | .BoolOp .And (x :: y :: r) p => ck T N a sc x && ck T N b sc (.BoolOp .And (y :: r) p)
    | _ => false)
  | T, N, .bor a b, sc, e => (match e with
    | .BoolOp .Or (x :: y :: r) p => ck T N a sc x && ck T N b sc (.BoolOp .Or (y :: r) p)
    | _ => false)
  | T, N, .b1 a, sc, e => (match e with
    | .BoolOp _ [x] _ => ck T N a sc x
    | _ => false)
  | T, N, .bnot a, sc, e => (match e with
    | .UnaryOp .Not x _ => ck T N a sc x
    | _ => false)
  | T, N, .ife t a b, sc, e => (match e with
    | .IfExp z x y _ => ck T N t sc z && (ck T N a sc x && ck T N b sc y)
    | _ => false)
  | T, N, .tup es, sc, e => (match e with
    | .Tuple l _ _ => cks T N es sc l
    | _ => false)
  | T, N, .lst m es, sc, e => (match e with
    | .List l _ => cks T N es sc l
    | _ => false)
  | T, N, .dct, sc, e => (match e with
    | .Dict [] [] _ => true
    | _ => false)
  | T, N, .ix a i, sc, e => (match e with
    | .Subscript x y _ => plB y && (ck T N a sc x && ck T N i sc y)
    | _ => false)
  | T, N, .sl m a lo hi, sc, e => (match e with
    | .Subscript x (.Slice l u none _) _ => ck T N a sc x && ((match l with
      | none => lo.isNil
      | some l => !lo.isNil && ck T N lo sc l) && (match u with
      | none => hi.isNil
      | some u => !hi.isNil && ck T N hi sc u))
    | _ => false)
  | T, N, .rev m a, sc, e => (match e with
    | .Subscript x (.Slice none none (some (.UnaryOp .USub (.Constant (.int 1) _ _) _)) _) _ => ck T N a sc x
    | _ => false)
  | T, N, .call ad j es, sc, e => (match e with
    | .Call (.Name f _) args [] _ => (match T.sn[j]? with
      | some (.glob, g, n, []) => decide (f = g) && (glB sc f && (nsAll args && (cks T N es sc args && decide (args.length = n))))
      | _ => false)
    | _ => false)
  | T, N, .callk ad j es ks, sc, e => (match e with
    | .Call (.Name f _) args kws _ => (match T.sn[j]? with
      | some (.glob, g, n, names) => decide (f = g) && (glB sc f && (nsAll args && (cks T N es sc args && (ckK T N ks sc kws names && decide (args.length = n)))))
      | _ => false)
    | _ => false)
  | T, N, .meth ad mi o alts es, sc, e => (match e with
    | .Call (.Attribute x m apos) args [] cpos => decide (T.nm[mi]? = some m) && (abB x && ((apos.endLine == cpos.line) && (nsAll args && (decide (args.length < 20) && ((alts.all fun p => match T.sn[p.2]? with
      | some (.meth c, m', n, []) => decide (p.1 = c) && (decide (m' = m) && decide (args.length + 1 = n))
      | _ => false) && (ck T N o sc x && cks T N es sc args))))))
    | _ => false)
  | T, N, .methk ad mi o alts es ks, sc, e => (match e with
    | .Call (.Attribute x m apos) args kws cpos => decide (T.nm[mi]? = some m) && (abB x && ((apos.endLine == cpos.line) && (nsAll args && (decide (args.length + kws.length < 20) && (kwsB kws && ((alts.all fun p => match T.sn[p.2]? with
      | some (.meth c, m', n, names) => decide (p.1 = c) && (decide (m' = m) && (decide (args.length + 1 = n) && ckK T N ks sc kws names))
      | _ => false) && (ck T N o sc x && cks T N es sc args)))))))
    | _ => false)
  | T, N, .kn c, sc, e => (match e with
    | .Name x _ => decide (T.cn[c]? = some x) && glB sc x
    | _ => false)
  | T, N, .cmeth ad mi o alts es ks, sc, e => (match e with
    | .Call (.Attribute x m apos) args kws cpos => decide (T.nm[mi]? = some m) && (abB x && ((apos.endLine == cpos.line) && (nsAll args && (decide (args.length + kws.length < 20) && (kwsB kws && ((alts.all fun p => match T.sn[p.2]? with
      | some (.cmet c, m', n, names) => decide (p.1 = c) && (decide (m' = m) && (decide (args.length + 1 = n) && ckK T N ks sc kws names))
      | _ => false) && (ck T N o sc x && cks T N es sc args)))))))
    | _ => false)
  | T, N, .ccall ad o alts es ks, sc, e => (match e with
    | .Call (.Name f q) args kws cpos => nsAll args && ((alts.all fun p => match T.sn[p.2]? with
      | some (.glob, g, n, names) => decide (T.cn[p.1]? = some g) && (decide (args.length = n) && ckK T N ks sc kws names)
      | _ => false) && (ck T N o sc (.Name f q) && cks T N es sc args))
    | _ => false)
  | T, N, .bino op a b alts, sc, e => (match e with
    | .BinOp x o y _ => decide (o = op) && (ck T N a sc x && (ck T N b sc y && alts.all fun p => match T.sn[p.2]? with
      | some (.meth c, m', n, []) => decide (p.1 = c) && (decide (m' = PySem.dunder op.info.2) && decide (n = 2))
      | _ => false))
    | _ => false)
  | T, N, .cmpo ne a b alts, sc, e => (match e with
    | .Compare x [o] [y] _ => decide (o = cs' ne .NotEq .Eq) && (ck T N a sc x && (ck T N b sc y && ((!(behindInMarks o y)) && alts.all fun p => match T.sn[p.2]? with
      | some (.meth c, m', n, []) => decide (p.1 = c) && (decide (m' = ("__eq__" : Str)) && decide (n = 2))
      | _ => false)))
    | _ => false)
  | T, N, .cmpt ne a b alts, sc, e => (match e with
    | .Compare x [o] [y] _ => decide (o = cs' ne .NotEq .Eq) && (ck T N a sc x && (ck T N b sc y && ((!(behindInMarks o y)) && alts.all fun p => match T.sn[p.2]? with
      | some (.meth c, m', n, []) => decide (p.1 = c) && (decide (m' = ("__eq__" : Str)) && decide (n = 2))
      | _ => false)))
    | _ => false)
  | T, N, .lrg m a, sc, e => (match e with
    | .Call (.Name f _) [.Call (.Name g _) [x] [] _] [] _ => decide (f = ("list" : Str)) && (decide (g = ("range" : Str)) && (glB sc f && (glB sc g && (nsB x && ck T N a sc x))))
    | _ => false)
  | T, N, .att o k alts, sc, e => (match e with
    | .Attribute x f _ => decide (T.nm[k]? = some f) && (abB x && ((alts.all fun p => match T.sn[p.2]? with
      | some (.prop c, f', 1, []) => decide (p.1 = c) && decide (f' = f)
      | _ => false) && ck T N o sc x))
    | _ => false)
  | T, N, .blt m b es, sc, e => (match e with
    | .Call (.Name f _) (x :: xs) [] _ => decide (f = bltName b) && (glB sc f && (nsAll (x :: xs) && cks T N es sc (x :: xs)))
    | _ => false)
  | T, N, .isi x ts, sc, e => (match e with
    | .Call (.Name f _) [y, t] [] _ => decide (f = ("isinstance" : Str)) && (glB sc f && (nsB y && (ck T N x sc y && (match t with
      | .Tuple l _ _ => Nat.ble ts.length 20 && (ckTys T ts l && l.all fun z => match z with
        | .Name n _ => glB sc n
        | _ => false)
      | .Name n _ => ckTys T ts [Expr.Name n ⟨0, 0, 0, 0⟩] && glB sc n
      | _ => false))))
    | _ => false)
  | T, N, .bm b o es, sc, e => (match e with
    | .Call (.Attribute x m apos) args [] cpos => decide (m = bmName b) && (abB x && ((apos.endLine == cpos.line) && (nsAll args && (decide (args.length < 20) && (ck T N o sc x && cks T N es sc args)))))
    | _ => false)
  | T, N, .comp m own tg it ifs el, sc, e => (match e with
    | .ListComp elt [⟨t, i, cs, 0⟩] scope _ => blkC N sc scope (ownOf N own) && (sdB i && ((tgSlots tg).all (own.contains ·) && (ckG T.off N tg (fun x => scope.names.lookup x == some .cell) (relS scope sc) t && (ckI T N it t sc i && (ckF T.off N ifs (relS scope sc) cs && (match el with
      | .ltry w a => (match elt with
        | .Call (.Name f _) [x] [] _ => decide (f = tryN w) && ((!w || T.tw) && (glB (relS scope sc) f && (T.lq && (own.all (fun i => !T.lc.contains i) && (nsB x && ck T.off N a (relS scope sc) x)))))
        | _ => false)
      | el => ck T.off N el (relS scope sc) elt))))))
    | _ => false)
  | T, N, .comp2 m own own2 tg it tg2 it2 el, sc, e => (match e with
    | .ListComp elt [⟨t, i, [], 0⟩, ⟨t2, i2, [], 0⟩] scope _ => blkC N sc scope (ownOf N own) && (sdB i && (sdB i2 && (own2.all (own.contains ·) && ((tgSlots tg).all (own.contains ·) && ((tgSlots tg2).all (own2.contains ·) && (ckG T.off N tg (fun x => scope.names.lookup x == some .cell) (relS scope sc) t && (ckG T.off N tg2 (fun x => scope.names.lookup x == some .cell) (relS scope sc) t2 && (ck T N it sc i && (ck T.off N it2 (relS scope sc) i2 && ck T.off N el (relS scope sc) elt)))))))))
    | _ => false)
  | T, N, .lamb k, sc, e => (match e with
    | .Lambda ps bd scope _ => T.lq && (match lamPs ps with
      | some pa => lamSB sc scope N pa && T.lk k scope bd
      | none => false)
    | _ => false)
  | T, N, .ltry w a, sc, e => (match e with
    | .Call (.Name f _) [x] [] _ => decide (f = tryN w) && ((!w || T.tw) && (glB sc f && (T.lq && (nsB x && ck T N a sc x))))
    | _ => false)
  | _, _, _, _, _ => false
def cks : Tb → List Str → E → Scope → List Expr → Bool
  | T, N, .nil, sc, l => (match l with
    | [] => true
    | _ => false)
  | T, N, .cons e es, sc, l => (match l with
    | x :: xs => nsB x && (ck T N e sc x && cks T N es sc xs)
    | _ => false)
  | T, N, .star e es, sc, l => (match l with
    | .Starred x _ :: xs => ck T N e sc x && cks T N es sc xs
    | _ => false)
  | _, _, _, _, _ => false
/-- the keywords of a call -/
def ckK : Tb → List Str → E → Scope → List Keyword → List Str → Bool
  | T, N, .nil, sc, l, ns => (match l, ns with
    | [], [] => true
    | _, _ => false)
  | T, N, .cons e es, sc, l, ns => (match l, ns with
    | ⟨nm, x, _⟩ :: xs, n :: ns => decide (nm = some n) && (ck T N e sc x && ckK T N es sc xs ns)
    | _, _ => false)
  | _, _, _, _, _, _ => false
/-- the tests of a comprehension -/
def ckF : Tb → List Str → E → Scope → List Expr → Bool
  | T, N, .nil, sc, l => (match l with
    | [] => true
    | _ => false)
  | T, N, .cons e es, sc, l => (match l with
    | [x] => ck T N e sc x
    | _ => false)
  | _, _, _, _, _ => false
def ckI : Tb → List Str → E → Expr → Scope → Expr → Bool
  | T, N, .i_e a, _, sc, e => ck T N a sc e
  | T, N, .i_r1 a, _, sc, e => (match e with
    | .Call (.Name f _) [x] [] _ => decide (f = ("range" : Str)) && (glB sc f && (nsB x && ck T N a sc x))
    | _ => false)
  | T, N, .i_r2 a b, _, sc, e => (match e with
    | .Call (.Name f _) [x, y] [] _ => decide (f = ("range" : Str)) && (glB sc f && (nsB x && (nsB y && (ck T N a sc x && ck T N b sc y))))
    | _ => false)
  | T, N, .i_en a, t, sc, e => (match e with
    | .Call (.Name f _) [x] [] _ => decide (f = ("enumerate" : Str)) && (isTupE t && (glB sc f && (nsB x && ck T N a sc x)))
    | _ => false)
  | T, N, .i_zip a b, t, sc, e => (match e with
    | .Call (.Name f _) [x, y] [] _ => decide (f = ("zip" : Str)) && (isTupE t && (glB sc f && (nsB x && (nsB y && (ck T N a sc x && ck T N b sc y)))))
    | _ => false)
  | _, _, _, _, _, _ => false
def ckG : Tb → List Str → E → (Str → Bool) → Scope → Expr → Bool
  | T, N, .t_n i, fn, sc, e => (match e with
    | .Name x _ => decide (N[i]? = some x) && (locB sc x || (fn x && stoB sc x))
    | _ => false)
  | T, N, .t_t ts, fn, sc, e => (match e with
    | .Tuple l _ _ => nsAll l && ckGs T N ts fn sc l
    | _ => false)
  | T, N, .t_x n ts, fn, sc, e => (match e with
    | .Tuple l _ _ => (match unstar l with
      | some l' => nsAll l' && (decide (l'.length = n + 1) && ckGs T N ts fn sc l')
      | none => false)
    | _ => false)
  | T, N, .t_s o i, fn, sc, e => (match e with
    | .Subscript x y _ => plB y && (ck T N o sc x && ck T N i sc y)
    | _ => false)
  | _, _, _, _, _, _ => false
def ckGs : Tb → List Str → E → (Str → Bool) → Scope → List Expr → Bool
  | T, N, .nil, fn, sc, l => (match l with
    | [] => true
    | _ => false)
  | T, N, .cons e es, fn, sc, l => (match l with
    | x :: xs => ckG T N e fn sc x && ckGs T N es fn sc xs
    | _ => false)
  | _, _, _, _, _, _ => false
end
section
variable (T : Tb) (N : List Str)
/-- stores in a row -/
def ssB (sc : Scope) (t : Expr) (v : Expr) : Bool := match t, v with
  | .Tuple ts _ _, .Tuple vs _ _ => (!(ts.length == 2 || ts.length == 3) || vs.length != ts.length) || ts.any fun t => match t with
    | .Name x _ => !locB sc x
    | _ => true
  | .List _ _, _ => false
  | _, _ => true
def S.basic : S → Bool
  | .skip => false
  | .seq _ _ => false
  | _ => true
def augB : Operator → Bool
  | .Add => true
  | .Sub => true
  | .Mult => true
  | _ => false
def ckPar (sc : Scope) : List Nat → List Expr → Nat → Bool
  | [], [], _ => true
  | i :: is, .Name x p :: ts, l => decide (N[i]? = some x) && (locB sc x && ((p.line == l) && ckPar sc is ts l))
  | _, _, _ => false
/-- a target's name's line -/
def lineOf : List Expr → Nat
  | e :: _ => e.pos.line
  | [] => 0
def ckS : S → Scope → List Stmt → Bool
  | .skip, sc, l => (match l with
    | [] => true
    | _ => false)
  | .seq s t, sc, l => (match l with
    | x :: xs => s.basic && (ckS s sc [x] && ckS t sc xs)
    | _ => false)
  | .ex e, sc, l => (match l with
    | [.Expr x _] => ncB x && ck T N e sc x
    | _ => false)
  | .asg t e, sc, l => (match l with
    | [.Assign [x] y p] => (match x, t with
      | .Name n q, .t_n i => decide (N[i]? = some n) && (stoB sc n && (ck T N e sc y && (nswB sc n q y || swB sc n q y)))
      | .Attribute z f _, .t_a o k => decide (T.nm[k]? = some f) && (ncB y && (ck T N o sc z && ck T N e sc y))
      | _, _ => (ncB y || isTupE x) && (ssB sc x y && (ckG T N t (fun _ => true) sc x && ck T N e sc y)))
    | _ => false)
  | .par ns es, sc, l => (match l with
    | [.Assign [.Tuple ts _ _] (.Tuple vs _ _) _] => ckPar N sc ns ts (lineOf ts) && (cks T N es sc vs && (nsAll vs && (decide (vs.length = ns.length) && (!(vs.all (constantsAlone 8)) && (!(vs.all (foldedForSure 8)) && (decide ns.Nodup && (ns.length == 2 || ns.length == 3)))))))
    | _ => false)
  | .aug i op e, sc, l => (match l with
    | [.AugAssign (.Name x _) o y _] => decide (N[i]? = some x) && (stoB sc x && (augB op && (decide (o = op) && ck T N e sc y)))
    | _ => false)
  | .ite c s t, sc, l => (match l with
    | [.If x a b _] => ck T N c sc x && (ckS s sc a && ckS t sc b)
    | _ => false)
  | .loop t it b, sc, l => (match l with
    | [.For x y a [] _] => sdB y && (ckG T N t (fun _ => true) sc x && (ckI T N it x sc y && ckS b sc a))
    | _ => false)
  | .whil c b, sc, l => (match l with
    | [.While x a [] _] => ck T N c sc x && ckS b sc a
    | _ => false)
  | .ret e, sc, l => (match l with
    | [.Return (some x) _] => ck T N e sc x
    | _ => false)
  | .retN, sc, l => (match l with
    | [.Return none _] => true
    | _ => false)
  | .brk, sc, l => (match l with
    | [.Break _] => true
    | _ => false)
  | .cnt, sc, l => (match l with
    | [.Continue _] => true
    | _ => false)
  | .pass, sc, l => (match l with
    | [.Pass _] => true
    | _ => false)
  | .rais c es, sc, l => (match l with
    | [.Raise (some (.Call (.Name x _) args [] _)) none _] => decide (T.xn[c]? = some (x, args.length)) && (glB sc x && (nsAll args && cks T N es sc args))
    | _ => false)
end
end MV

set_option maxRecDepth 100000
set_option maxHeartbeats 1000000
/-! VD: calls. -/
namespace MV
open PySem PySem.Spec PyProof.Rows L2
section
variable {L : Lk} {F : Fm} {φ φ1 : List Addr} {H H1 : Hp} {h h1 : HH} {Q : VK} {E : XK}
/-- the frame of a call that keeps to its own heap -/
def Fm.sub (F : Fm) (φ : List Addr) : Fm := ⟨fun a => F.no a ∨ a ∈ φ, fun a => F.bo a ∨ a ∈ φ⟩
theorem HR.sub (x : HR L F φ h H) : HR L (F.sub φ) [] [] H := by
  refine ⟨rfl, .nil, fun n a o q => by simp at q, fun a m => by simp at m, fun a m => ?_, fun a m => m.imp (x.bn a) id, x.tab⟩
  rcases m with m | m
  · exact x.trk a m
  · obtain ⟨u, q, _⟩ := x.trkφ m
    exact ⟨u, q⟩
theorem to_sub : ∀ a o, H a = some o → a ∉ φ → ¬ F.no a → a ∉ ([] : List Addr) ∧ ¬ (F.sub φ).no a := fun a o _ n f => ⟨by simp, fun z => z.elim f n⟩
theorem of_sub {ψ : List Addr} : ∀ a o, H a = some o → a ∉ ψ → ¬ (F.sub φ).no a → a ∉ φ ∧ ¬ F.no a := fun a o _ _ f => ⟨fun z => f (.inr z), fun z => f (.inl z)⟩
theorem lend_flat {d e : D} (hd : ∀ n, d ≠ .ref n) (hb : ∀ l, d ≠ .bor l) (q : lend h d = some e) : e = d ∧ D.flat d = true := by
  have z : lend h d = if D.flat d then some d else none := by
    cases d <;> first | rfl | exact absurd rfl (hd _) | exact absurd rfl (hb _)
  rw [z] at q
  split at q
  · rename_i c
    exact ⟨(Option.some.inj q).symm, c⟩
  · cases q
theorem lend_ok (x : HR L F φ h H) {d e : D} {v : V} (r : Rel L F φ H d v) (q : lend h d = some e) : Rel L (F.sub φ) [] H e v := by
  cases r with
  | @ref n a eφ =>
    obtain ⟨o, e1, ro⟩ := x.ro eφ
    have q : (match h[n]? with
      | some (.lst l) => if D.flats l then some (.bor l) else none
      | _ => none) = some e := q
    rw [e1] at q
    cases ro with
    | lst q2 rl =>
      dsimp only at q
      split at q
      · rename_i c
        cases q
        exact .bor (.inl q2) (by simp) (.inr (List.mem_of_getElem? eφ)) (Rels.to to_sub rl c)
      · cases q
    | _ => cases q
  | @borK a o its n vs ds e1 e2 e3 e4 e5 e6 rl =>
    have q : (if D.flats ds then some (D.bor ds) else none) = some e := q
    split at q
    · rename_i c
      cases q
      exact .borK e1 e2 e3 e4 e5 e6 (Rels.to to_sub rl c)
    · cases q
  | @bor a vs ds e1 n b rl =>
    have q : (if D.flats ds then some (D.bor ds) else none) = some e := q
    split at q
    · rename_i c
      cases q
      exact .bor e1 (by simp) (.inl b) (Rels.to to_sub rl c)
    · cases q
  | _ =>
    obtain ⟨e1, c⟩ := lend_flat (by intro _ z; cases z) (by intro _ z; cases z) q
    subst e1
    exact Rel.to to_sub (by constructor <;> assumption) c
theorem lends_ok (x : HR L F φ h H) : ∀ {ds es : List D} {vs : List V}, Rels L F φ H ds vs → lends h ds = some es → Rels L (F.sub φ) [] H es vs
  | [], _, _, .nil, q => by
    cases q
    exact .nil
  | d :: r, es, _, .cons rd t, q => by
    have q : (match lend h d, lends h r with
      | some e, some l => some (e :: l)
      | _, _ => none) = some es := q
    split at q
    · rename_i e l q1 q2
      cases q
      exact .cons (lend_ok x rd q1) (lends_ok x t q2)
    · cases q
/-- behind a call that kept to its own heap -/
theorem XT.back (t : XT [] H φ1 H1) : XT φ H φ H1 := ⟨⟨[], by simp, by simp⟩, fun a o e nt _ => t.keep a o e nt (by simp), t.tup, t.frz, t.trk⟩
theorem HR.back (x : HR L F φ h H) (t : XT [] H φ1 H1) (tb : LamX.Tabs L.tabs H1) : HR L F φ h H1 := by
  refine ⟨x.len, x.nod, fun n a o q w => ?_, x.own, fun a m => ?_, x.bn, tb⟩
  · have r := x.at_ n a o q w
    obtain ⟨u, hu, _⟩ := r.has
    exact r.mono t.back ((t.keep a u hu (r.ntb hu) (by simp)).trans hu.symm)
  · obtain ⟨u, q⟩ := x.trk a m
    exact t.trk a u q
theorem HR.adopt {a : Addr} {w : O} (x : HR L F φ h H) (hn : H a = none) (tb : XT φ H (φ ++ [a]) H1) (kp : ∀ b o, H b = some o → (∀ ps, o ≠ .tbl ps) → H1 b = some o) (tq : LamX.Tabs L.tabs H1) (r : RO L F (φ ++ [a]) H1 a w) : HR L F (φ ++ [a]) (h ++ [w]) H1 := by
  refine ⟨by simp [x.len], ?_, fun n b u q z => ?_, fun b m => ?_, fun b m => ?_, x.bn, tq⟩
  · rw [List.nodup_append]
    refine ⟨x.nod, by simp, fun b hb c hc => ?_⟩
    rw [List.mem_singleton.mp hc]
    rintro rfl
    exact x.nin hn hb
  · by_cases hl : n < φ.length
    · rw [List.getElem?_append_left hl] at q
      rw [List.getElem?_append_left (by rw [← x.len]; exact hl)] at z
      have r0 := x.at_ n b u q z
      obtain ⟨y, hy, _⟩ := r0.has
      exact r0.mono tb ((kp b y hy (r0.ntb hy)).trans hy.symm)
    · have l := (List.getElem?_eq_some_iff.mp q).1
      rw [List.length_append, List.length_singleton] at l
      have en : n = φ.length := by omega
      subst en
      rw [List.getElem?_append_right (Nat.le_refl _), Nat.sub_self] at q
      have q' : a = b := Option.some.inj q
      subst q'
      rw [x.len, List.getElem?_append_right (Nat.le_refl _), Nat.sub_self] at z
      have z' : w = u := Option.some.inj z
      subst z'
      exact r
  · rcases List.mem_append.mp m with m | m
    · exact x.own b m
    · rw [List.mem_singleton.mp m]
      exact x.nF hn
  · obtain ⟨u, q⟩ := x.trk b m
    exact tb.trk b u q
theorem takeOut_flat {d : D} {r : Ret} (hd : ∀ n, d ≠ .ref n) (q : takeOut d h = some r) : r = .val d ∧ D.flat d = true := by
  have z : takeOut d h = if D.flat d then some (.val d) else none := by
    cases d <;> first | rfl | exact absurd rfl (hd _)
  rw [z] at q
  split at q
  · rename_i c
    exact ⟨(Option.some.inj q).symm, c⟩
  · cases q
theorem out_ok (x : HR L F φ h H) (t : XT [] H φ1 H1) (y : HR L (F.sub φ) φ1 h1 H1) {d : D} {v : V} (r : Rel L (F.sub φ) φ1 H1 d v) {ret : Ret} (q : takeOut d h1 = some ret) {ad : Bool} (g : GE L F φ H (retD ad ret h) Q E) : Q v H1 := by
  cases r with
  | @ref n a eφ =>
    obtain ⟨o, e1, ro⟩ := y.ro eφ
    have q : (match h1[n]? with
      | some (.lst l) => if D.flats l then some (.newl l) else none
      | _ => none) = some ret := q
    rw [e1] at q
    cases ro with
    | lst q2 rl =>
      dsimp only at q
      split at q
      · rename_i c
        cases q
        have rl' := Rels.to (F' := F) (ψ := φ) of_sub rl c
        have hn : H a = none := by
          obtain ⟨more, e2, e3⟩ := t.pre
          rw [List.nil_append] at e2
          subst e2
          exact e3 a (List.mem_of_getElem? eφ)
        have xb := x.back t y.tab
        cases ad with
        | false => exact G.ok' g t.back xb (.lst q2 (x.nin hn) (x.nF hn) rl')
        | true =>
          have ma : a ∈ φ1 := List.mem_of_getElem? eφ
          have tb : XT φ H (φ ++ [a]) H1 := ⟨⟨[a], rfl, fun p hp => by
            rw [List.mem_singleton.mp hp]
            exact hn⟩, fun b o e nt _ => t.keep b o e nt (by simp), t.tup, t.frz, t.trk⟩
          have rl2 := Rels.to (F := F.sub φ) (φ := φ1) (F' := F) (ψ := φ ++ [a]) (fun b o _ nb fb => ⟨fun z => by
            rcases List.mem_append.mp z with z | z
            · exact fb (.inr z)
            · rw [List.mem_singleton.mp z] at nb
              exact nb ma, fun z => fb (.inl z)⟩) rl c
          refine G.ok' g tb (x.adopt hn tb (fun b o e nt => t.keep b o e nt (by simp)) y.tab (.lst q2 rl2)) (.ref ?_)
          rw [← x.len, List.getElem?_append_right (Nat.le_refl _), Nat.sub_self]
          rfl
      · cases q
    | _ => cases q
  | borK _ _ _ _ _ _ _ => exact absurd (takeOut_flat (by intro _ z; cases z) q).2 (by simp [D.flat])
  | bor _ _ _ _ => exact absurd (takeOut_flat (by intro _ z; cases z) q).2 (by simp [D.flat])
  | _ =>
    obtain ⟨e1, c⟩ := takeOut_flat (by intro _ z; cases z) q
    subst e1
    exact G.ok' g t.back (x.back t y.tab) (Rel.to (φ := φ1) (of_sub (ψ := φ1)) (by constructor <;> assumption) c)
/-! ### promises -/
/-- a def's body by its run -/
def spB (L : Lk) (P : Prog) (orc : Orc) (f : Fn) : Sp := fun vs H Q E => ∃ (F : Fm) (φ : List Addr) (h : HH) (ds : List D), HR L F φ h H ∧ Rels L F φ H ds vs ∧ GE L F φ H (body P orc f ds h) Q E
theorem spB_len {P : Prog} {orc : Orc} {f : Fn} {vs : List V} (s : spB L P orc f vs H Q E) : vs.length = f.np := by
  obtain ⟨F, φ, h, ds, x, r, g⟩ := s
  unfold body at g
  split at g
  · rename_i e
    rw [← r.length]
    exact beq_iff_eq.mp e
  · exact (G.no_ g).elim
/-- a def's call by values, within a built-in's body -/
def CallVI (L : Lk) (P : Prog) (orc : Orc) (X : Cx) (W : WX) (f : Addr) (n : Nat) (ks : List Str) (j : Nat) : Prop :=
  fnJ P.sh P.fns j = true → ∀ (ad : Bool) (pins : List (Addr × Obj)) (s : Shared) (σ : L2.St) (H : Hp) (vs zs : List V) (us ws : List Value) (Q : VK) (F : Fm) (φ : List Addr) (h : HH) (ds : List D),
    Inv X pins σ H s → Vals vs us → Vals zs ws → vs.length = n → zs.length = ks.length → HR L F φ h H → Rels L F φ H ds (vs ++ zs) → GE L F φ H (callJ P orc ad j ds h) Q (fun c d H' => W c d σ H') →
    wpAny (model X.prog X.w) X.A.in1 (call (.ref f) us (ks.zip ws)) (EP X pins σ Q) X.xe s
/-- a call by values, in the context X -/
def CallV (L : Lk) (P : Prog) (orc : Orc) (X : Cx) (W : WX) (f : Addr) (n : Nat) (ks : List Str) (j : Nat) : Prop :=
  ∀ (ad : Bool) (pins : List (Addr × Obj)) (s : Shared) (σ : L2.St) (H : Hp) (vs zs : List V) (us ws : List Value) (Q : VK) (F : Fm) (φ : List Addr) (h : HH) (ds : List D),
    Inv X pins σ H s → Vals vs us → Vals zs ws → vs.length = n → zs.length = ks.length → HR L F φ h H → Rels L F φ H ds (vs ++ zs) → GE L F φ H (callJ P orc ad j ds h) Q (fun c d H' => W c d σ H') →
    wpAny (model X.prog X.w) X.A (call (.ref f) us (ks.zip ws)) (EP X pins σ Q) X.xe s
/-- a class's method, by its record -/
def CallM (L : Lk) (P : Prog) (orc : Orc) (X : Cx) (W : WX) (f C : Addr) (n : Nat) (ks : List Str) (j : Nat) : Prop :=
  ∀ (ad : Bool) (pins : List (Addr × Obj)) (s : Shared) (σ : L2.St) (H : Hp) (q : Addr) (vs zs : List V) (us ws : List Value) (Q : VK) (F : Fm) (φ : List Addr) (h : HH) (ds : List D),
    Inv X ((q, PySem.W.methodObj (.ref f) (.ref C)) :: pins) σ H s → Vals vs us → Vals zs ws → vs.length + 1 = n → zs.length = ks.length → HR L F φ h H → Rels L F φ H ds ((.ref C :: vs) ++ zs) → GE L F φ H (callJ P orc ad j ds h) Q (fun c d H' => W c d σ H') →
    wpAny (model X.prog X.w) X.A (call (.ref q) us (ks.zip ws)) (EP X pins σ Q) X.xe s
theorem pureGE {P : Prog} {orc : Orc} {f : Fn} {ds : List D} {vs : List V} {ad : Bool} (x : HR L F φ h H) (r : Rels L F φ H ds vs) (g : GE L F φ H ((pureRun P orc f ds h).bind fun r h1 => retD ad r h1) Q E) : spB L P orc f vs H Q E := by
  unfold pureRun at g
  split at g
  · rename_i es he
    refine ⟨F.sub φ, [], [], es, x.sub, lends_ok x r he, ?_⟩
    split at g
    · rename_i d h1 hb
      rw [hb]
      split at g
      · rename_i ret hr
        exact fun φ1 H1 v t y rv => out_ok x t y rv hr g
      · exact (G.no_ g).elim
    · rename_i c ks vs _ hb
      rw [hb]
      split at g
      · rename_i cf
        intro φ1 H1 cls dd t y xr
        refine g φ H1 cls dd t.back (x.back t y.tab) ?_
        obtain ⟨a, fs, h1, h2, h3, h4, h5⟩ := xr
        exact ⟨a, fs, h1, h2, h3, h4, Rels.to (φ := φ1) (of_sub (ψ := φ1)) h5 cf⟩
      · exact (G.no_ g).elim
    · exact (G.no_ g).elim
  · exact (G.no_ g).elim
theorem bodyGE {P : Prog} {orc : Orc} {f : Fn} {ds : List D} {vs : List V} {ad : Bool} (x : HR L F φ h H) (r : Rels L F φ H ds vs) (g : GE L F φ H (((body P orc f ds h).bind fun d h1 => R.ok (Ret.val d) h1).bind fun r h1 => retD ad r h1) Q E) : spB L P orc f vs H Q E := by
  refine ⟨F, φ, h, ds, x, r, ?_⟩
  cases hb : body P orc f ds h with
  | ok d h1 =>
    rw [hb] at g
    exact g
  | exc c ks vs h1 =>
    rw [hb] at g
    exact g
  | no =>
    rw [hb] at g
    exact g
/-- a new frozen instance -/
theorem makeGE {P : Prog} {orc : Orc} {f : Fn} {ds : List D} {vs : List V} {ad : Bool} {c : Nat} (x : HR L F φ h H) (r : Rels L F φ H ds vs) (g : GE L F φ H ((makeRun P orc c f ds h).bind fun r h1 => retD ad r h1) Q E)
    {p dx : Addr} (hp : H p = none) (hd : H dx = none) (ne : dx ≠ p) : spB L P orc f (.ref p :: vs) (upd (upd H dx (.own p)) p (.ins (L.cl c) dx [])) (fun v H2 => v = .non ∧ Q (.ref p) H2) E := by
  unfold makeRun at g
  split at g
  · rename_i es he
    have xs := x.sub
    have hp' : upd H dx (.own p) p = none := by rw [upd_ne (Ne.symm ne)]; exact hp
    have t0 : XT [] H [p] (upd (upd H dx (.own p)) p (.ins (L.cl c) dx [])) := (XT.fresh (φ := []) hd).trans (XT.grow (φ := []) hp')
    have y0 : HR L (F.sub φ) [p] [.ins c [] []] (upd (upd H dx (.own p)) p (.ins (L.cl c) dx [])) := HR.grow (φ := []) (h := []) (xs.fresh hd) hp' (.ins upd_same rfl .nil)
    refine ⟨F.sub φ, [p], [.ins c [] []], .ref 0 :: es, y0, .cons (.ref rfl) ((lends_ok x r he).mono t0), ?_⟩
    split at g
    · rename_i d h1 hb
      rw [hb]
      intro φ1 H1 v t y rv
      have t1 := t0.trans t
      unfold made at g
      split at g
      · rename_i c' ks fs rest
        cases rv
        refine ⟨rfl, ?_⟩
        split at g
        · rename_i cf
          have p0 : φ1[0]? = some p := t.get rfl
          have ro := y.at_ 0 p _ p0 rfl
          cases ro with
          | @ins dy gs _ _ _ q1 q2 q3 =>
            have tb : XT φ H φ H1 := t1.back
            have nn : p ∉ φ := x.nin hp
            exact G.ok' g tb (x.back t1 y.tab) (.obj q1 nn (x.nF hp) q2 (Rels.to (φ := φ1) (of_sub (ψ := φ1)) q3 cf))
        · exact (G.no_ g).elim
      · exact (G.no_ g).elim
    · rename_i c' ks fs _ hb
      rw [hb]
      split at g
      · rename_i cf
        intro φ1 H1 cls dd t y xr
        have t1 := t0.trans t
        refine g φ H1 cls dd t1.back (x.back t1 y.tab) ?_
        obtain ⟨a, fs', h1, h2, h3, h4, h5⟩ := xr
        exact ⟨a, fs', h1, h2, h3, h4, Rels.to (φ := φ1) (of_sub (ψ := φ1)) h5 cf⟩
      · exact (G.no_ g).elim
    · exact (G.no_ g).elim
  · exact (G.no_ g).elim
/-- a new instance of ours -/
theorem makeGE2 {P : Prog} {orc : Orc} {f : Fn} {ds : List D} {vs : List V} {ad : Bool} {c : Nat} (x : HR L F φ h H) (r : Rels L F φ H ds vs)
    (g : GE L F φ H (((body P orc f (.ref h.length :: ds) (h ++ [.ins c [] []])).bind fun d h1 => match d with
        | .non => R.ok (Ret.val (.ref h.length)) h1
        | _ => R.no).bind fun r h1 => retD ad r h1) Q E)
    {p dx : Addr} (hp : H p = none) (hd : H dx = none) (ne : dx ≠ p) : spB L P orc f (.ref p :: vs) (upd (upd H dx (.own p)) p (.ins (L.cl c) dx [])) (fun v H2 => v = .non ∧ Q (.ref p) H2) E := by
  have hp' : upd H dx (.own p) p = none := by rw [upd_ne (Ne.symm ne)]; exact hp
  have t0 : XT φ H (φ ++ [p]) (upd (upd H dx (.own p)) p (.ins (L.cl c) dx [])) := (XT.fresh hd).trans (XT.grow hp')
  have y0 : HR L F (φ ++ [p]) (h ++ [.ins c [] []]) (upd (upd H dx (.own p)) p (.ins (L.cl c) dx [])) := HR.grow (x.fresh hd) hp' (.ins upd_same rfl .nil)
  have e0 : (φ ++ [p])[h.length]? = some p := by
    rw [← x.len, List.getElem?_append_right (Nat.le_refl _), Nat.sub_self]
    rfl
  refine ⟨F, φ ++ [p], h ++ [.ins c [] []], .ref h.length :: ds, y0, .cons (.ref e0) (r.mono t0), ?_⟩
  cases hb : body P orc f (.ref h.length :: ds) (h ++ [.ins c [] []]) with
  | ok d h1 =>
    rw [hb] at g
    intro φ1 H1 v t y rv
    cases rv with
    | non => exact ⟨rfl, G.ok' g (t0.trans t) y (.ref (t.get e0))⟩
    | _ => exact (G.no_ g).elim
  | exc c' ks vs' h1 =>
    rw [hb] at g
    exact GX.mono t0 g
  | no =>
    rw [hb] at g
    exact (G.no_ g).elim
end
end MV

set_option maxRecDepth 100000
set_option maxHeartbeats 1000000
/-! VE: a call's promise from the callee's. -/
namespace MV
open PySem PySem.Spec PyProof.Rows L2
/-- how the parameters are filled, over own data and over values -/
def FillOk (L : Lk) (s : Shape) (n : Nat) (ks : List Str) (gV : List V → List V → List V) : Prop :=
  ∀ (F : Fm) (φ : List Addr) (H : Hp) (ds : List D) (vs zs : List V) (ps : List D), vs.length = n → zs.length = ks.length → Rels L F φ H ds (vs ++ zs) → s.fill ds = some ps → Rels L F φ H ps (gV vs zs)
section
variable {L : Lk} {P : Prog} {X : Cx} {W : WX} {fa C : Addr} {fd : FuncData} {ps ks : List Str} {k n m j : Nat} {s : Shape} {f : Fn} {g : List Value → List Value → List Value} {gV : List V → List V → List V}
theorem orc_succ (e : P.fns[s.fn]? = some f) (ds : List D) (h : HH) : callN P (m + 1) s.fn ds h = (match f.kind with
      | .fn true => pureRun P (callN P m) f ds h
      | .fn false => (body P (callN P m) f ds h).bind fun d h1 => .ok (.val d) h1
      | .ctor c true => makeRun P (callN P m) c f ds h
      | .ctor c false => (body P (callN P m) f (.ref h.length :: ds) (h ++ [.ins c [] []])).bind fun d h1 => match d with
        | .non => .ok (.val (.ref h.length)) h1
        | _ => .no
      | .lam caps => (ev P (callN P m) (retOf f.body) (lamE f.nl caps ds) h).bind fun d h1 => .ok (.val d) h1) := by
  show (match P.fns[s.fn]? with
    | none => R.no
    | some f => _) = _
  rw [e] <;> rfl
theorem callJ_eq {orc : Orc} {ad : Bool} {ds : List D} {h : HH} {F : Fm} {φ : List Addr} {H : Hp} {Q : VK} {E : XK} (hs : P.sh[j]? = some s) (q : GE L F φ H (callJ P orc ad j ds h) Q E) :
    ∃ qs, s.fill ds = some qs ∧ GE L F φ H ((orc s.fn qs h).bind fun r h1 => retD ad r h1) Q E := by
  unfold callJ at q
  rw [hs] at q
  dsimp only at q
  split at q
  · rename_i qs e
    exact ⟨qs, e, q⟩
  · exact (G.no_ q).elim
/-- behind the callee -/
theorem land {pins : List (Addr × Obj)} {s0 : Shared} {σ : L2.St} {H : Hp} {Q : VK} (tk : Takes X W) (I : L2.Inv X pins σ H s0) (r : Result) (s' : Shared)
    (hq : CR (L2.CX X.prog X.w) X.stack X.prog X.w H s0 Q (fun c d H' => W c d σ H') r s') : match r with
      | .ok (.ret u) => EP X pins σ Q u s'
      | .ok _ => False
      | .error e => X.xe e s' := by
  cases r with
  | error e => exact tk e s' (XE.of_call I (fun _ _ _ z => z) hq)
  | ok fl =>
    cases fl with
    | ret u => exact I.after hq
    | next => exact hq
    | brk => exact hq
    | cont => exact hq
theorem callV_fn (hs : P.sh[j]? = some s) (hf : P.fns[s.fn]? = some f) {b : Bool} (hk : f.kind = .fn b) (Fk : FnOk X.prog X.w X.K X.mg X.base (L2.CX X.prog X.w) k fa fd ps (spB L P (callN P m) f)) (hr : Room k X.A) (tk : Takes X W)
    (hb : KBn X.K fd ps n ks g gV) (hl : FillOk L s n ks gV) : CallV L P (callN P (m + 1)) X W fa n ks j := by
  intro ad pins s0 σ H vs zs us ws Q F φ h ds I rv rz l1 l2 x r q
  obtain ⟨qs, e1, q⟩ := callJ_eq hs q
  rw [orc_succ hf, hk] at q
  have rq := hl F φ H ds vs zs qs l1 l2 r e1
  have sp : spB L P (callN P m) f (gV vs zs) H Q (fun c d H' => W c d σ H') := by
    cases b with
    | true => exact pureGE x rq q
    | false => exact bodyGE x rq q
  refine wpAny_call (codeAny_mono (Fk.run X.A X.stack s0 H ⟨us, ks.zip ws⟩ (g us ws) (gV vs zs) Q _ hr I.env0 (hb.to s0 us ws I.kIn (rv.length.symm.trans l1) (rz.length.symm.trans l2)) (hb.rel rv rz) sp) fun rr s' hq => ?_)
  have z := land tk I rr s' hq
  cases rr with
  | error e => exact z
  | ok fl => cases fl <;> exact z
theorem callM_fn (hs : P.sh[j]? = some s) (hf : P.fns[s.fn]? = some f) {b : Bool} (hk : f.kind = .fn b) (Fk : FnOk X.prog X.w X.K X.mg X.base (L2.CX X.prog X.w) k fa fd ps (spB L P (callN P m) f)) (hr : Room k X.A) (tk : Takes X W)
    (hb : KBn X.K fd ps n ks g gV) (hl : FillOk L s n ks gV) : CallM L P (callN P (m + 1)) X W fa C n ks j := by
  intro ad pins s0 σ H q' vs zs us ws Q F φ h ds I rv rz l1 l2 x r q
  obtain ⟨qs, e1, q⟩ := callJ_eq hs q
  rw [orc_succ hf, hk] at q
  have l3 : (V.ref C :: vs).length = n := by rw [List.length_cons]; exact l1
  have rv1 : Vals (V.ref C :: vs) (Value.ref C :: us) := .cons rfl rv
  have rq := hl F φ H ds (.ref C :: vs) zs qs l3 l2 r e1
  have sp : spB L P (callN P m) f (gV (.ref C :: vs) zs) H Q (fun c d H' => W c d σ H') := by
    cases b with
    | true => exact pureGE x rq q
    | false => exact bodyGE x rq q
  have z : wpAny (model X.prog X.w) X.A (call (.ref q') us (ks.zip ws)) (EP X ((q', PySem.W.methodObj (.ref fa) (.ref C)) :: pins) σ Q) X.xe s0 := by
    refine wpAny_call (PySem.W.method_call (ClX.pin_at I) (codeAny_mono (Fk.run X.A X.stack s0 H ⟨Value.ref C :: us, ks.zip ws⟩ (g (Value.ref C :: us) ws) (gV (.ref C :: vs) zs) Q _ hr I.env0 (hb.to s0 (Value.ref C :: us) ws I.kIn (rv1.length.symm.trans l3) (rz.length.symm.trans l2)) (hb.rel rv1 rz) sp) fun rr s' hq => ?_))
    have z := land tk I rr s' hq
    cases rr with
    | error e => exact z
    | ok fl => cases fl <;> exact z
  exact thn z fun _ _ y => ClX.unpinE y
theorem callVI_fn (hs : P.sh[j]? = some s) (hf : P.fns[s.fn]? = some f) {b : Bool} (hk : f.kind = .fn b) (Fk : FnOk X.prog X.w X.K X.mg X.base (L2.CX X.prog X.w) k fa fd ps (spB L P (callN P m) f)) (hr : Room (k + 1) X.A) (tk : Takes X W)
    (hb : KBn X.K fd ps n ks g gV) (hl : FillOk L s n ks gV) : CallVI L P (callN P (m + 1)) X W fa n ks j := by
  intro _ ad pins s0 σ H vs zs us ws Q F φ h ds I rv rz l1 l2 x r q
  obtain ⟨qs, e1, q⟩ := callJ_eq hs q
  rw [orc_succ hf, hk] at q
  have rq := hl F φ H ds vs zs qs l1 l2 r e1
  have sp : spB L P (callN P m) f (gV vs zs) H Q (fun c d H' => W c d σ H') := by
    cases b with
    | true => exact pureGE x rq q
    | false => exact bodyGE x rq q
  have e0 : Env0 X.prog X.w X.K X.mg X.base X.A.in1 X.stack s0 H := by
    have e := I.env0
    exact ⟨e.frames, e.mod, e.bs, e.bsz, e.funs, e.frf, e.hok, e.bare⟩
  refine wpAny_call (codeAny_mono (Fk.run X.A.in1 X.stack s0 H ⟨us, ks.zip ws⟩ (g us ws) (gV vs zs) Q _ hr.in1 e0 (hb.to s0 us ws I.kIn (rv.length.symm.trans l1) (rz.length.symm.trans l2)) (hb.rel rv rz) sp) fun rr s' hq => ?_)
  have z := land tk I rr s' hq
  cases rr with
  | error e => exact z
  | ok fl => cases fl <;> exact z
theorem callV_mk (hs : P.sh[j]? = some s) (hf : P.fns[s.fn]? = some f) {b : Bool} {c : Nat} (hC : L.cl c = C) (hk : f.kind = .ctor c b) (M : Mk X.K C fa) (Fk : FnOk X.prog X.w X.K X.mg X.base (L2.CX X.prog X.w) k fa fd ps (spB L P (callN P m) f)) (hr : Room (k + 1) X.A) (tk : Takes X W)
    (hb : KBn X.K fd ps (n + 1) ks g gV) {gW : List V → List V → List V} (hg : ∀ p vs zs, gV (.ref p :: vs) zs = .ref p :: gW vs zs) (hl : FillOk L s n ks gW) : CallV L P (callN P (m + 1)) X W C n ks j := by
  intro ad pins s0 σ H vs zs us ws Q F φ h ds I rv rz l1 l2 x r q
  obtain ⟨qs, e1, q⟩ := callJ_eq hs q
  rw [orc_succ hf, hk] at q
  have rq := hl F φ H ds vs zs qs l1 l2 r e1
  have hp : H (s0.heap.objs.size + 1) = none := I.hok.fresh (Nat.le_succ _)
  have hd : H s0.heap.objs.size = none := I.hok.fresh (Nat.le_refl _)
  have ne : s0.heap.objs.size ≠ s0.heap.objs.size + 1 := Nat.ne_of_lt (Nat.lt_succ_self _)
  have sp : spB L P (callN P m) f (gV (.ref (s0.heap.objs.size + 1) :: vs) zs) (upd (upd H s0.heap.objs.size (.own (s0.heap.objs.size + 1))) (s0.heap.objs.size + 1) (.ins C s0.heap.objs.size [])) (fun v H2 => v = .non ∧ Q (.ref (s0.heap.objs.size + 1)) H2) (fun c d H' => W c d σ H') := by
    rw [hg, ← hC]
    cases b with
    | true => exact makeGE x rq q hp hd ne
    | false => exact makeGE2 x rq q hp hd ne
  have I2 := L2.Inv.made (C := C) I
  have r1 : Vals (V.ref (s0.heap.objs.size + 1) :: vs) (Value.ref (s0.heap.objs.size + 1) :: us) := .cons rfl rv
  refine wpAny_call (make_map (f := fa) I.kIn M.makes M.init (beq_iff_eq.mp M.fn) (codeAny_mono (Fk.run _ X.stack _ _ ⟨Value.ref (s0.heap.objs.size + 1) :: us, ks.zip ws⟩ (g (Value.ref (s0.heap.objs.size + 1) :: us) ws) _ _ _ (hr.make C us (ks.zip ws))
    (I2.env0.make C us (ks.zip ws)) (hb.to _ (Value.ref (s0.heap.objs.size + 1) :: us) ws I2.kIn (by rw [List.length_cons, ← rv.length, l1]) (rz.length.symm.trans l2)) (hb.rel r1 rz) sp) fun rr s' hq => ?_))
  have z := land tk I2 rr s' hq
  cases rr with
  | error e => exact z
  | ok fl =>
    cases fl with
    | ret u =>
      obtain ⟨v, H', I3, rv', ev, q3⟩ := z
      subst ev
      exact ⟨rv', ⟨V.ref (s0.heap.objs.size + 1), H', I3, rfl, q3⟩⟩
    | _ => exact z
end
end MV

set_option maxRecDepth 100000
set_option maxHeartbeats 1000000
/-! VF: expressions. -/
namespace MV
open PySem PySem.Spec PyProof.Rows L2
/-- the built-ins' names that the modules leave alone -/
def bNames : List Str := ["len", "abs", "int", "list", "tuple", "sum", "any", "all", "min", "max", "sorted", "isinstance", "range", "enumerate", "zip", "bool", "str", "dict"]
structure Same (pg : Program) (w : World) (K : PySem.W.Frag) (mg : Str → Option Value) (base : Heap) (k : Nat) (X : Cx) : Prop where
  p : X.prog = pg
  w : X.w = w
  K : X.K = K
  m : X.mg = mg
  b : X.base = base
  r : Room k X.A
theorem Same.low {pg : Program} {w : World} {K : PySem.W.Frag} {mg : Str → Option Value} {base : Heap} {k : Nat} {X : Cx} (s : Same pg w K mg base (k + 1) X) : Same pg w K mg base k X := ⟨s.p, s.w, s.K, s.m, s.b, s.r.mono (Nat.le_succ k)⟩
/-- a property, by values -/
def PropV (L : Lk) (P : Prog) (orc : Orc) (X : Cx) (c : Nat) (f : Str) (j : Nat) : Prop :=
  ∀ (pins : List (Addr × Obj)) (s : Shared) (σ : L2.St) (H : Hp) (a dx : Addr) (fs : List (Str × V)) (Q : VK) (F : Fm) (φ : List Addr) (h : HH) (d : D) (E : XK),
    Inv X pins σ H s → H a = some (.ins (L.cl c) dx fs) → HR L F φ h H → Rel L F φ H d (.ref a) → GE L F φ H (callJ P orc false j [d] h).pur Q E →
    wpAny (model X.prog X.w) X.A (getAttr (.ref a) f true) (EP X pins σ Q) X.xe s
/-- what one asks isinstance of a class -/
structure IsiC (K : PySem.W.Frag) (C : Addr) : Prop where
  cl : Cls K C
  ha : PySem.W.findIn K (.ref C) "__class__" = some (some (.builtin "object.__class__"))
  hn : PySem.W.specialIn K (.builtin "object.__class__") "__get__" = some (some (.builtin "getset_descriptor.__get__"))
  ht : PySem.W.takesIn K (.builtin "object.__class__") = some true
  hm : PySem.W.mroIn K C (.type "object") = some true
  sf : PySem.W.selfFirst K C = true
  ne : PySem.W.findIn K (.ref C) "__ne__" = some (some (.builtin "object.__ne__"))
/-- a type as the model's value -/
def tvV (L : Lk) : TyV → Value
  | .non => .type "NoneType"
  | .bl => .type "bool"
  | .int => .type "int"
  | .str => .type "str"
  | .lst => .type "list"
  | .tup => .type "tuple"
  | .dct => .type "dict"
  | .own c => .ref (L.cl c)
def tyV' (L : Lk) : Ty → Value
  | .int => .type "int"
  | .bool => .type "bool"
  | .str => .type "str"
  | .list => .type "list"
  | .tuple => .type "tuple"
  | .dict => .type "dict"
  | .cls c => .ref (L.cl c)
def tyVV (L : Lk) : Ty → V
  | .int => .ty "int"
  | .bool => .ty "bool"
  | .str => .ty "str"
  | .list => .ty "list"
  | .tuple => .ty "tuple"
  | .dict => .ty "dict"
  | .cls c => .ref (L.cl c)
/-- raising an own exception, its arguments' values at hand -/
def RaisV (L : Lk) (P : Prog) (X : Cx) (j : Nat) (x : Str) (n : Nat) : Prop :=
  ∀ (args : List Expr) (p pos : Pos) (ta : TA), args.length = n → nsAll args = true → Gl X x → (x == ("__debug__" : Str)) = false → PA X args ta → PMk X (.Call (.Name x p) args [] pos) (fun σ H Q => ta σ H fun vs H1 => ∃ (F : Fm) (φ : List Addr) (h : HH) (ds : List D) (xc : Xc) (zs : List D), HR L F φ h H1 ∧ Rels L F φ H1 ds vs ∧ P.xs[j]? = some xc ∧ xc.n = ds.length ∧ selD ds (xc.fs.map (·.2)) = some zs ∧ GX L F φ H1 j (xc.fs.map (·.1)) zs h Q)
/-- the law's own frame, in which its lambdas are made -/
structure LamAt (T : Tb) (L : Lk) (P : Prog) (X : Cx) : Prop where
  tr : T.tr = true
  cells : X.env.cells = L.lcl
  q : X.env.qual ++ "<lambda>" = L.lq
  code : ∃ c Pt : Addr, X.env.code = .ref c ∧ LamX.TabB X.base X.mg c Pt ∧ (Pt, L.lq) ∈ L.tabs ∧ ∀ p ∈ L.tabs, p.1 = Pt → p.2 = L.lq
  lt : ∀ (k : Nat) (ps : Arguments) (bd : Expr) (sc : Scope) (pa : Option Str), lamPs ps = some pa → lamSB X.env.scope sc X.N pa = true → T.lk k sc bd = true → L.lt k ps bd sc
  tl : ∀ (k : Nat) (ps : Arguments) (bd : Expr) (sc : Scope), L.lt k ps bd sc → ∃ pa, lamPs ps = some pa ∧ lamSB X.env.scope sc X.N pa = true ∧ T.lk k sc bd = true
  lk : ∀ (k : Nat) (sc : Scope) (bd : Expr), T.lk k sc bd = true → ∃ (f : Fn) (caps : List Nat), P.fns[k]? = some f ∧ f.kind = .lam caps ∧ (∀ i ∈ caps, i ∈ T.lc) ∧ f.nl = X.N.length ∧ ck T.off X.N (retOf f.body) sc bd = true
  calm : X.calm = true
  nd : X.N.Nodup
/-- the law's own try, called at Y with a lambda that X0 made -/
def TryAt (wd : Bool) (L : Lk) (P : Prog) (orc : Orc) (X0 Y : Cx) (W : WX) (g : Addr) : Prop :=
  ∀ (pins0 : List (Addr × Obj)) (σ0 : L2.St) (H0 : Hp) (s0 : Shared) (pins : List (Addr × Obj)) (σ : L2.St) (H : Hp) (s : Shared) (F : Fm) (φ : List Addr) (h : HH) (k : Nat) (f : Addr) (caps : List Nat) (ds : List D) (Q : VK),
    Inv X0 pins0 σ0 H0 s0 → Inv Y pins σ H s → (∃ fs ex : List Addr, (∀ b ∈ ex, ∀ x c, X0.env.cells.lookup x = some c → c ≠ b) ∧ Un fs ex H0 H s0.heap s.heap) → HR L F φ h H → Rel L F φ H (.lam k) (.ref f) → capsJ P k = some caps → ds.length = caps.length →
    (∀ (j i : Nat) (d : D), caps[j]? = some i → ds[j]? = some d → ∃ v, σ0[i]? = some (some v) ∧ Rel L F φ H d v) → GE L F φ H (tryW P wd (orc k ds h)) Q (fun c d H' => W c d σ H') →
    wpAny (model Y.prog Y.w) Y.A (call (.ref g) [.ref f]) (EP Y pins σ Q) Y.xe s
/-- what stands in the modules -/
structure Facts (T : Tb) (L : Lk) (P : Prog) (orc : Orc) (k : Nat) (pg : Program) (w : World) (K : PySem.W.Frag) (mg : Str → Option Value) (base : Heap) : Prop where
  hK : K = L.K
  pur : ∀ (i : Nat) (f : Fn) (ds : List D) (h h1 : HH) (r : Ret), P.fns[i]? = some f → f.kind = .fn true → orc i ds h = .ok r h1 → h1 = h
  gl : ∀ (i : Nat) (x : Str) (d : D), T.gn[i]? = some x → P.gl[i]? = some d → ∃ v u, mg x = some u ∧ RelV v u ∧ ∀ F φ H, Rel L F φ H d v
  bf : ∀ x ∈ bNames, mg x = none
  wd : ∀ X, Same pg w K mg base k X → WdOk X L P.wd
  inj : ∀ i j, L.nm i = L.nm j → i = j
  nm : ∀ (i : Nat) (x : Str), T.nm[i]? = some x → L.nm i = x
  fld : ∀ c i, P.fld.contains (c, i) = true → Cls K (L.cl c) ∧ NoAttr K (L.cl c) (L.nm i)
  ncl : ∀ (c : Nat) (x : Str), T.cn[c]? = some x → mg x = some (.ref (L.cl c))
  isc : ∀ c, c < P.nc → IsiC K (L.cl c)
  kit : ∀ (t : TyV) (u : Ty), (∀ c, t = .own c → c < P.nc) → (∀ c, u = .cls c → ∃ x, T.cn[c]? = some x) → PySem.W.kitOne K (tvV L t) (tyV' L u) = some (tyIs t u)
  call : ∀ X W, Same pg w K mg base k X → Takes X W → ∀ (j : Nat) (g : Str) (n : Nat) (ks : List Str), T.sn[j]? = some (.glob, g, n, ks) → ∃ f, mg g = some (.ref f) ∧ PySem.W.keepIn K (.ref f) = true ∧ CallV L P orc X W f n ks j
  meth : ∀ X W, Same pg w K mg base k X → Takes X W → ∀ (j c : Nat) (m : Str) (n : Nat) (ks : List Str), T.sn[j]? = some (.meth c, m, n, ks) → Cls K (L.cl c) ∧ ∃ f, Meth K (L.cl c) m f ∧ CallV L P orc X W f n ks j
  mein : ∀ X W, Same pg w K mg base k X → Takes X W → ∀ (j c : Nat) (m : Str) (n : Nat) (ks : List Str), T.sn[j]? = some (.meth c, m, n, ks) → ∃ f, Meth K (L.cl c) m f ∧ CallV L P orc X W f n ks j ∧ CallVI L P orc X W f n ks j
  cmet : ∀ X W, Same pg w K mg base k X → Takes X W → ∀ (j c : Nat) (m : Str) (n : Nat) (ks : List Str), T.sn[j]? = some (.cmet c, m, n, ks) → ∃ (mc : Value) (p f : Addr), ClX.CRead K (L.cl c) mc ∧ ClX.CMet K (L.cl c) mc m p f ∧ CallM L P orc X W f (L.cl c) n ks j
  prop : ∀ X, Same pg w K mg base k X → ∀ (j c : Nat) (m : Str), T.sn[j]? = some (.prop c, m, 1, []) → PropV L P orc X c m j
  rais : ∀ X, Same pg w K mg base k X → X.calm = true → ∀ (j : Nat) (x : Str) (n : Nat), T.xn[j]? = some (x, n) → RaisV L P X j x n
  ltry : ∀ (wd : Bool) X0 Y W, (!wd || T.tw) = true → T.tr = true → (∃ T0, T0.off = T.off ∧ LamAt T0 L P X0) → Same pg w K mg base k Y → Y.calm = true → X0.prog = pg → X0.w = w → X0.K = K → X0.mg = mg → X0.base = base → Takes Y W → ∃ g : Addr, mg (tryN wd) = some (.ref g) ∧ PySem.W.keepIn K (.ref g) = true ∧ TryAt wd L P orc X0 Y W g
/-- a context with its facts -/
structure CX1 (T : Tb) (L : Lk) (P : Prog) (orc : Orc) (k : Nat) (X : Cx) (W : WX) : Prop where
  fa : Facts T L P orc k X.prog X.w X.K X.mg X.base
  calm : X.calm = true
  nd : X.N.Nodup
  room : Room k X.A
  tk : Takes X W
  lam : T.lq = true → LamAt T L P X
section
variable {T : Tb} {L : Lk} {P : Prog} {orc : Orc} {k : Nat} {X : Cx} {W : WX}
theorem Facts.off {pg : Program} {w : World} {K : PySem.W.Frag} {mg : Str → Option Value} {base : Heap} (f : Facts T L P orc k pg w K mg base) : Facts T.off L P orc k pg w K mg base :=
  ⟨f.hK, f.pur, f.gl, f.bf, f.wd, f.inj, f.nm, f.fld, f.ncl, f.isc, f.kit, f.call, f.meth, f.mein, f.cmet, f.prop, f.rais, f.ltry⟩
theorem Facts.on {pg : Program} {w : World} {K : PySem.W.Frag} {mg : Str → Option Value} {base : Heap} (f : Facts T L P orc k pg w K mg base) : Facts T.on L P orc k pg w K mg base :=
  ⟨f.hK, f.pur, f.gl, f.bf, f.wd, f.inj, f.nm, f.fld, f.ncl, f.isc, f.kit, f.call, f.meth, f.mein, f.cmet, f.prop, f.rais, f.ltry⟩
theorem CX1.same (c : CX1 T L P orc k X W) : Same X.prog X.w X.K X.mg X.base k X := ⟨rfl, rfl, rfl, rfl, rfl, c.room⟩
theorem CX1.hu (c : CX1 T L P orc k X W) : X.A.units + 65 < cLine := by
  have := c.room.un
  omega
theorem isLoc_ {o : Option NameKind} (h : isLoc o = true) : o = some .local := by
  unfold isLoc at h
  split at h
  · rfl
  · cases h
theorem locB_ {sc : Scope} {x : Str} (h : locB sc x = true) : sc.names.lookup x = some .local := isLoc_ h
theorem stoB_ {sc : Scope} {x : Str} (h : stoB sc x = true) : Loc sc x := by
  unfold stoB isLC at h
  split at h
  · exact .inl (by assumption)
  · exact .inr (by assumption)
  · cases h
theorem visB_ {sc : Scope} {x : Str} (h : visB sc x = true) : Vis sc x := by
  unfold visB isVis at h
  split at h
  · exact .inl (by assumption)
  · exact .inr (.inl (by assumption))
  · exact .inr (.inr (by assumption))
  · cases h
theorem glB_ {X : Cx} {x : Str} (h : glB X.env.scope x = true) : Gl X x ∧ (x == ("__debug__" : Str)) = false := by
  unfold glB at h
  obtain ⟨h1, h2⟩ := Bool.and_eq_true_iff.mp h
  refine ⟨?_, by simpa using h2⟩
  unfold isGl at h1
  split at h1
  · assumption
  · cases h1
theorem and_ {a b : Bool} (h : (a && b) = true) : a = true ∧ b = true := Bool.and_eq_true_iff.mp h
/-- truth -/
theorem truth_ok {F : Fm} {φ : List Addr} {H : Hp} {h : HH} {d : D} {v : V} {b : Bool} (hK : X.K = L.K) (x : HR L F φ h H) (r : Rel L F φ H d v) (e : truthD d h = some b) : TruV X.K v H b := by
  have viaL : listOf d h = none ∨ ∃ l, listOf d h = some l := by
    cases listOf d h with
    | none => exact .inl rfl
    | some l => exact .inr ⟨l, rfl⟩
  have fin : (∀ l, listOf d h = some l → b = !l.isEmpty) → listOf d h ≠ none → TruV X.K v H b := fun hb hn => by
    rcases viaL with z | ⟨l, z⟩
    · exact absurd z hn
    · obtain ⟨a, vs, ev, hq, hr⟩ := listOf_ok x r z
      subst ev
      refine .inl ⟨vs, sqK hK hq, ?_⟩
      rw [hb l z, hr.isEmpty]
  have viaD : (match listOf d h with
    | some l => some (!l.isEmpty)
    | none => none) = some b → TruV X.K v H b := fun e => by
    refine fin (fun l z => ?_) (fun z => ?_)
    · rw [z] at e
      exact (Option.some.inj e).symm
    · rw [z] at e
      cases e
  cases r with
  | non => exact (Option.some.inj e).symm
  | bl _ => exact (Option.some.inj e).symm
  | int _ => exact (Option.some.inj e).symm
  | str s =>
    have e : (if s.length ≤ line then some (s.length != 0) else none) = some b := e
    split at e
    · rename_i hl
      refine ⟨by rw [sizeLine_eq]; exact hl, ?_⟩
      rw [← Option.some.inj e]
      by_cases hz : s.length = 0
      · simp [hz]
      · have : (s.length : Int) ≠ 0 := by omega
        rw [bne_iff_ne.mpr hz, bne_iff_ne.mpr this]
    · cases e
  | tup q r =>
    refine .inr (.inl ⟨_, by rw [hK]; exact q, ?_⟩)
    rw [← Option.some.inj e, r.isEmpty]
  | wtup e1 e2 e3 e4 e5 e6 r =>
    refine .inr (.inl ⟨_, by rw [hK]; exact .inr ⟨_, _, _, e1, e2, e4, e5, e6⟩, ?_⟩)
    rw [← Option.some.inj e, r.isEmpty]
  | cls _ => exact viaD e
  | wd _ => exact viaD e
  | lst q n f r => exact viaD e
  | bor q n f r => exact viaD e
  | borK e1 e2 e3 e4 e5 e6 r => exact viaD e
  | dct q n f k r => exact viaD e
  | obj q n f k r => exact viaD e
  | ref q => exact viaD e
  | lam _ _ _ _ _ => exact viaD e
end
theorem GE.one {L : Lk} {F : Fm} {φ : List Addr} {H : Hp} {h : HH} {Q : VK} {E : XK} {d : D} {v : V} (g : GE L F φ H (.ok d h) Q E) (x : HR L F φ h H) (r : Rel L F φ H d v) : Q v H := G.ok g x r
/-! ### the promise for one expression -/
section
variable (T : Tb) (L : Lk) (P : Prog) (orc : Orc) (k : Nat)
def EvOk (e : E) : Prop := ∀ X W, CX1 T L P orc k X W → ∀ x, ck T X.N e X.env.scope x = true → PE X x (rdE L W (ev P orc e))
def TsOk (e : E) : Prop := ∀ X W, CX1 T L P orc k X W → ∀ x, ck T X.N e X.env.scope x = true → PT X x (rdT L W (tst P orc e))
def TwOk (e : E) : Prop := ∀ X W, CX1 T L P orc k X W → ∀ op l p, ck T X.N e X.env.scope (.BoolOp op l p) = true → PW X (.BoolOp op l p) (rdT L W (tst P orc e))
def EsOk (e : E) : Prop := ∀ X W, CX1 T L P orc k X W → ∀ xs, cks T X.N e X.env.scope xs = true → PA X xs (rdA L W (evs P orc e))
def KsOk (e : E) : Prop := ∀ X W, CX1 T L P orc k X W → ∀ kws ns, ckK T X.N e X.env.scope kws ns = true → PK X kws (rdA L W (evs P orc e)) ∧ ∀ pos, (backToKw pos (keywordEach kws X.env)).all (·.1.isSome) = true ∧ (backToKw pos (keywordEach kws X.env)).filterMap (·.1) = ns ∧ (backToKw pos (keywordEach kws X.env)).any (·.1.isNone) = false
end
section
variable {T : Tb} {L : Lk} {P : Prog} {orc : Orc} {k : Nat}
theorem ev_v {i : Nat} : EvOk T L P orc k (.v i) := by
  intro X W c x h
  unfold ck at h
  split at h
  · rename_i y p
    obtain ⟨h1, h⟩ := and_ h
    obtain ⟨h2, h⟩ := and_ h
    obtain ⟨h3, h4⟩ := and_ h
    refine (pe_var (of_decide_eq_true h1) (visB_ h2) (by simpa using h3) (by simpa using h4)).imp fun σ H Q ⟨F, φ, ρ, hh, hr, er, g⟩ => ?_
    rw [q_v] at g
    split at g
    · rename_i d e
      obtain ⟨v, e1, rv⟩ := er.at_ i d e
      exact ⟨v, e1, G.ok g hr rv⟩
    · exact (G.no_ g).elim
  · cases h
theorem ev_c {d : D} : EvOk T L P orc k (.c d) := by
  intro X W c x h
  unfold ck at h
  split at h
  · rename_i kk j p
    unfold constOk at h
    split at h
    · exact pe_non.imp fun σ H Q ⟨F, φ, ρ, hh, hr, er, g⟩ => by
        rw [q_c] at g
        exact GE.one g hr Rel.non
    · rw [beq_iff_eq] at h
      subst h
      exact pe_bl.imp fun σ H Q ⟨F, φ, ρ, hh, hr, er, g⟩ => by
        rw [q_c] at g
        exact GE.one g hr (Rel.bl _)
    · have h := of_decide_eq_true h
      subst h
      exact pe_int.imp fun σ H Q ⟨F, φ, ρ, hh, hr, er, g⟩ => by
        rw [q_c] at g
        exact GE.one g hr (Rel.int _)
    · have h := of_decide_eq_true h
      subst h
      exact pe_str.imp fun σ H Q ⟨F, φ, ρ, hh, hr, er, g⟩ => by
        rw [q_c] at g
        exact GE.one g hr (Rel.str _)
    · cases h
  · cases h
theorem ev_g {i : Nat} : EvOk T L P orc k (.g i) := by
  intro X W c x h
  unfold ck at h
  split at h
  · rename_i y p
    obtain ⟨h1, h2⟩ := and_ h
    obtain ⟨g1, g2⟩ := glB_ h2
    have h1 := of_decide_eq_true h1
    cases e : P.gl[i]? with
    | none =>
      refine ⟨fun pins s σ H Q I ⟨F, φ, ρ, hh, hr, er, g⟩ => ?_⟩
      rw [q_g] at g
      rw [e] at g
      exact (G.no_ g).elim
    | some d =>
      obtain ⟨v, u, e1, e2, e3⟩ := c.fa.gl i y d h1 e
      refine (pe_glob g1 e1 e2 g2).imp fun σ H Q ⟨F, φ, ρ, hh, hr, er, g⟩ => ?_
      rw [q_g] at g
      rw [e] at g
      exact GE.one (d := d) g hr (e3 _ _ _)
  · cases h
/-- two operands, then f -/
theorem two {a b : E} {f : D → D → HH → R D} {r : R2} {W : WX} (hr2 : ∀ x y H Q, rd2 L f x y H Q → r x y H Q) :
    ∀ σ H Q, rdE L W (fun ρ h => (ev P orc a ρ h).bind fun x h1 => (ev P orc b ρ h1).bind fun y h2 => f x y h2) σ H Q → tOp r (rdE L W (ev P orc a)) (rdE L W (ev P orc b)) σ H Q := by
  intro σ H Q ⟨F, φ, ρ, h, hr, er, g⟩
  refine ⟨F, φ, ρ, h, hr, er, G.bind g fun x h1 φ1 H1 v e1 t1 hr1 rx g1 => ?_⟩
  refine ⟨F, φ1, ρ, h1, hr1, er.mono t1, G.bind g1 fun y h2 φ2 H2 u e2 t2 hr2' ry g2 => ?_⟩
  exact hr2 _ _ _ _ ⟨F, φ2, h2, x, y, _, hr2', rx.mono t2, ry, g2⟩
theorem ev_bin {op : Operator} {m : Bool} {a b : E} (ha : EvOk T L P orc k a) (hb : EvOk T L P orc k b) : EvOk T L P orc k (.bin op m a b) := by
  intro X W c x h
  unfold ck at h
  split at h
  · rename_i x o y p
    obtain ⟨h1, h⟩ := and_ h
    obtain ⟨h2, h3⟩ := and_ h
    have h1 := of_decide_eq_true h1
    subst h1
    exact (pe_op (bin_ok c.fa.hK op m op_catA) (ha X W c _ h2) (hb X W c _ h3)).imp fun σ H Q ⟨F, φ, ρ, hh, hr, er, g⟩ => by
      rw [q_bin] at g
      exact two (f := fun x y h => binD op m x y h) (fun _ _ _ _ q => q) σ H Q ⟨F, φ, ρ, hh, hr, er, g⟩
  · cases h
theorem ev_neg {a : E} (ha : EvOk T L P orc k a) : EvOk T L P orc k (.neg a) := by
  intro X W c x h
  unfold ck at h
  split at h
  · rename_i x p
    refine (pe_un un_neg (ha X W c _ h)).imp fun σ H Q ⟨F, φ, ρ, hh, hr, er, g⟩ => ?_
    rw [q_neg] at g
    refine ⟨F, φ, ρ, hh, hr, er, G.bind g fun x h1 φ1 H1 v e1 t1 hr1 rx g1 => ?_⟩
    split at g1
    · cases rx
      exact ⟨_, rfl, G.ok g1 hr1 (.int _)⟩
    · exact (G.no_ g1).elim
  · cases h
theorem mapbl {φ : List Addr} {H : Hp} {F : Fm} {o : Option Bool} {h : HH} {Q : VK} {E : XK} (x : HR L F φ h H) (g : GE L F φ H (R.of (o.map D.bl) h) Q E) : ∃ b, o = some b ∧ Q (.bl b) H := by
  cases o with
  | none => exact (G.no_ g).elim
  | some b => exact ⟨b, rfl, G.ok (a := D.bl b) g x (.bl b)⟩
theorem ofB {φ : List Addr} {H : Hp} {F : Fm} {o : Option Bool} {h : HH} {Q : Bool → Hp → Prop} {E : XK} (x : HR L F φ h H) (g : GB L F φ H (R.of o h) Q E) : ∃ b, o = some b ∧ Q b H := by
  cases o with
  | none => exact (G.no_ g).elim
  | some b => exact ⟨b, rfl, G.ok (a := b) g x rfl⟩
theorem ev_cmp {op : PySem.CmpOp} {a b : E} (ha : EvOk T L P orc k a) (hb : EvOk T L P orc k b) : EvOk T L P orc k (.cmp op a b) := by
  intro X W c x h
  unfold ck at h
  split at h
  · rename_i x o y p
    obtain ⟨h1, h⟩ := and_ h
    obtain ⟨h2, h⟩ := and_ h
    obtain ⟨h3, h4⟩ := and_ h
    have h1 := of_decide_eq_true h1
    subst h1
    refine (pe_cmpR (cmp_ok c.fa.hK c.hu op) (ha X W c _ h2) (hb X W c _ h3) (by simpa using h4)).imp fun σ H Q ⟨F, φ, ρ, hh, hr, er, g⟩ => ?_
    rw [q_cmp] at g
    refine ⟨F, φ, ρ, hh, hr, er, G.bind g fun x h1 φ1 H1 v e1 t1 hr1 rx g1 => ?_⟩
    refine ⟨F, φ1, ρ, h1, hr1, er.mono t1, G.bind g1 fun y h2 φ2 H2 u e2 t2 hr2' ry g2 => ?_⟩
    obtain ⟨b, e, q⟩ := mapbl hr2' g2
    exact ⟨F, φ2, h2, x, y, b, hr2', rx.mono t2, ry, e, q⟩
  · cases h
theorem ts_cmp {op : PySem.CmpOp} {a b : E} (ha : EvOk T L P orc k a) (hb : EvOk T L P orc k b) : TsOk T L P orc k (.cmp op a b) := by
  intro X W c x h
  unfold ck at h
  split at h
  · rename_i x o y p
    obtain ⟨h1, h⟩ := and_ h
    obtain ⟨h2, h⟩ := and_ h
    obtain ⟨h3, h4⟩ := and_ h
    have h1 := of_decide_eq_true h1
    subst h1
    refine (pt_cmpR (cmp_ok c.fa.hK c.hu op) (ha X W c _ h2) (hb X W c _ h3) (by simpa using h4)).imp fun σ H Q ⟨F, φ, ρ, hh, hr, er, g⟩ => ?_
    rw [tq_cmp] at g
    refine ⟨F, φ, ρ, hh, hr, er, G.bind g fun x h1 φ1 H1 v e1 t1 hr1 rx g1 => ?_⟩
    refine ⟨F, φ1, ρ, h1, hr1, er.mono t1, G.bind g1 fun y h2 φ2 H2 u e2 t2 hr2' ry g2 => ?_⟩
    obtain ⟨b, e, q⟩ := ofB hr2' g2
    exact ⟨F, φ2, h2, x, y, b, hr2', rx.mono t2, ry, e, b, rfl, q⟩
  · cases h
theorem ev_chain {o p : PySem.CmpOp} {a b d : E} (ha : EvOk T L P orc k a) (hb : EvOk T L P orc k b) (hd : EvOk T L P orc k d) : EvOk T L P orc k (.chain o p a b d) := by
  intro X W c x h
  unfold ck at h
  split at h
  · rename_i x o' p' y z ps
    obtain ⟨h1, h⟩ := and_ h
    obtain ⟨h2, h⟩ := and_ h
    obtain ⟨h3, h⟩ := and_ h
    obtain ⟨h4, h⟩ := and_ h
    obtain ⟨h5, h6⟩ := and_ h
    have h1 := of_decide_eq_true h1
    have h2 := of_decide_eq_true h2
    subst h1 h2
    refine (pe_chain (cmp_ok c.fa.hK c.hu o) (cmp_ok c.fa.hK c.hu p) (ha X W c _ h3) (hb X W c _ h4) (hd X W c _ h5) (show behindInMarks p z = false by simpa using h6)).imp fun σ H Q ⟨F, φ, ρ, hh, hr, er, g⟩ => ?_
    rw [q_chain] at g
    refine ⟨F, φ, ρ, hh, hr, er, G.bind g fun x h1 φ1 H1 v e1 t1 hr1 rx g1 => ?_⟩
    refine ⟨F, φ1, ρ, h1, hr1, er.mono t1, G.bind g1 fun y h2 φ2 H2 u e2 t2 hr2 ry g2 => ?_⟩
    split at g2
    · rename_i e3
      refine ⟨F, φ2, h2, x, y, true, hr2, rx.mono t2, ry, e3, true, rfl, ?_⟩
      rw [if_pos rfl]
      refine ⟨F, φ2, ρ, h2, hr2, (er.mono t1).mono t2, G.bind g2 fun z h3 φ3 H3 w e4 t3 hr3 rz g3 => ?_⟩
      obtain ⟨b, e, q⟩ := mapbl hr3 g3
      exact ⟨F, φ3, h3, y, z, b, hr3, ry.mono t3, rz, e, q⟩
    · rename_i e3
      refine ⟨F, φ2, h2, x, y, false, hr2, rx.mono t2, ry, e3, false, rfl, ?_⟩
      rw [if_neg Bool.false_ne_true]
      exact G.ok g2 hr2 (.bl false)
    · exact (G.no_ g2).elim
  · cases h
theorem ts_chain {o p : PySem.CmpOp} {a b d : E} (ha : EvOk T L P orc k a) (hb : EvOk T L P orc k b) (hd : EvOk T L P orc k d) : TsOk T L P orc k (.chain o p a b d) := by
  intro X W c x h
  unfold ck at h
  split at h
  · rename_i x o' p' y z ps
    obtain ⟨h1, h⟩ := and_ h
    obtain ⟨h2, h⟩ := and_ h
    obtain ⟨h3, h⟩ := and_ h
    obtain ⟨h4, h⟩ := and_ h
    obtain ⟨h5, h6⟩ := and_ h
    have h1 := of_decide_eq_true h1
    have h2 := of_decide_eq_true h2
    subst h1 h2
    refine (pt_chain (cmp_ok c.fa.hK c.hu o) (cmp_ok c.fa.hK c.hu p) (ha X W c _ h3) (hb X W c _ h4) (hd X W c _ h5) (show behindInMarks p z = false by simpa using h6)).imp fun σ H Q ⟨F, φ, ρ, hh, hr, er, g⟩ => ?_
    rw [tq_chain] at g
    refine ⟨F, φ, ρ, hh, hr, er, G.bind g fun x h1 φ1 H1 v e1 t1 hr1 rx g1 => ?_⟩
    refine ⟨F, φ1, ρ, h1, hr1, er.mono t1, G.bind g1 fun y h2 φ2 H2 u e2 t2 hr2 ry g2 => ?_⟩
    split at g2
    · rename_i e3
      refine ⟨F, φ2, h2, x, y, true, hr2, rx.mono t2, ry, e3, true, rfl, ?_⟩
      rw [if_pos rfl]
      refine ⟨F, φ2, ρ, h2, hr2, (er.mono t1).mono t2, G.bind g2 fun z h3 φ3 H3 w e4 t3 hr3 rz g3 => ?_⟩
      obtain ⟨b, e, q⟩ := ofB hr3 g3
      exact ⟨F, φ3, h3, y, z, b, hr3, ry.mono t3, rz, e, b, rfl, q⟩
    · rename_i e3
      refine ⟨F, φ2, h2, x, y, false, hr2, rx.mono t2, ry, e3, false, rfl, ?_⟩
      rw [if_neg Bool.false_ne_true]
      exact ⟨false, rfl, G.ok g2 hr2 rfl⟩
    · exact (G.no_ g2).elim
  · cases h
/-! ### and, or, not, if -/
theorem ev_band {a b : E} (ha : EvOk T L P orc k a) (hb : EvOk T L P orc k b) : EvOk T L P orc k (.band a b) := by
  intro X W c x h
  unfold ck at h
  split at h
  · rename_i x y r p
    obtain ⟨h1, h2⟩ := and_ h
    refine (pe_andT (ha X W c _ h1) (hb X W c _ h2)).imp fun σ H Q ⟨F, φ, ρ, hh, hr, er, g⟩ => ?_
    rw [q_band] at g
    refine ⟨F, φ, ρ, hh, hr, er, G.bind g fun x h1 φ1 H1 v e1 t1 hr1 rx g1 => ?_⟩
    split at g1
    · rename_i e3
      refine ⟨true, truth_ok c.fa.hK hr1 rx e3, ?_⟩
      rw [if_pos rfl]
      exact ⟨F, φ1, ρ, h1, hr1, er.mono t1, g1⟩
    · rename_i e3
      refine ⟨false, truth_ok c.fa.hK hr1 rx e3, ?_⟩
      rw [if_neg Bool.false_ne_true]
      exact G.ok g1 hr1 rx
    · exact (G.no_ g1).elim
  · cases h
theorem ev_bor {a b : E} (ha : EvOk T L P orc k a) (hb : EvOk T L P orc k b) : EvOk T L P orc k (.bor a b) := by
  intro X W c x h
  unfold ck at h
  split at h
  · rename_i x y r p
    obtain ⟨h1, h2⟩ := and_ h
    refine (pe_orT (ha X W c _ h1) (hb X W c _ h2)).imp fun σ H Q ⟨F, φ, ρ, hh, hr, er, g⟩ => ?_
    rw [q_bor] at g
    refine ⟨F, φ, ρ, hh, hr, er, G.bind g fun x h1 φ1 H1 v e1 t1 hr1 rx g1 => ?_⟩
    split at g1
    · rename_i e3
      refine ⟨true, truth_ok c.fa.hK hr1 rx e3, ?_⟩
      rw [if_pos rfl]
      exact G.ok g1 hr1 rx
    · rename_i e3
      refine ⟨false, truth_ok c.fa.hK hr1 rx e3, ?_⟩
      rw [if_neg Bool.false_ne_true]
      exact ⟨F, φ1, ρ, h1, hr1, er.mono t1, g1⟩
    · exact (G.no_ g1).elim
  · cases h
theorem ev_b1 {a : E} (ha : EvOk T L P orc k a) : EvOk T L P orc k (.b1 a) := by
  intro X W c x h
  unfold ck at h
  split at h
  · refine (pe_one (ha X W c _ h)).imp fun σ H Q ⟨F, φ, ρ, hh, hr, er, g⟩ => ⟨F, φ, ρ, hh, hr, er, ?_⟩
    rw [q_b1] at g
    exact g
  · cases h
theorem tw_band {a b : E} (ha : TsOk T L P orc k a) (hb : TwOk T L P orc k b) : TwOk T L P orc k (.band a b) := by
  intro X W c op l p h
  unfold ck at h
  split at h
  · rename_i x y r p' heq
    cases heq
    obtain ⟨h1, h2⟩ := and_ h
    refine ⟨fun wh pins s σ H Q I ⟨F, φ, ρ, hh, hr, er, g⟩ => (pw_and (ha X W c _ h1) (hb X W c _ _ _ h2)).run wh pins s σ H Q I ?_⟩
    rw [tq_band] at g
    refine ⟨F, φ, ρ, hh, hr, er, G.bind g fun x h1 φ1 H1 v e1 t1 hr1 rx g1 => ?_⟩
    subst rx
    cases x with
    | true =>
      rw [if_pos rfl]
      exact ⟨F, φ1, ρ, h1, hr1, er.mono t1, g1⟩
    | false =>
      rw [if_neg Bool.false_ne_true]
      exact G.ok g1 hr1 rfl
  · cases h
theorem tw_bor {a b : E} (ha : TsOk T L P orc k a) (hb : TwOk T L P orc k b) : TwOk T L P orc k (.bor a b) := by
  intro X W c op l p h
  unfold ck at h
  split at h
  · rename_i x y r p' heq
    cases heq
    obtain ⟨h1, h2⟩ := and_ h
    refine ⟨fun wh pins s σ H Q I ⟨F, φ, ρ, hh, hr, er, g⟩ => (pw_or (ha X W c _ h1) (hb X W c _ _ _ h2)).run wh pins s σ H Q I ?_⟩
    rw [tq_bor] at g
    refine ⟨F, φ, ρ, hh, hr, er, G.bind g fun x h1 φ1 H1 v e1 t1 hr1 rx g1 => ?_⟩
    subst rx
    cases x with
    | true =>
      rw [if_pos rfl]
      exact G.ok g1 hr1 rfl
    | false =>
      rw [if_neg Bool.false_ne_true]
      exact ⟨F, φ1, ρ, h1, hr1, er.mono t1, g1⟩
  · cases h
theorem tw_b1 {a : E} (ha : TsOk T L P orc k a) : TwOk T L P orc k (.b1 a) := by
  intro X W c op l p h
  unfold ck at h
  split at h
  · rename_i op' x p' heq
    cases heq
    have q : PW X (.BoolOp op [x] p) (rdT L W (tst P orc a)) := by
      cases op with
      | And => exact pw_and1 (ha X W c _ h)
      | Or => exact pw_or1 (ha X W c _ h)
    refine ⟨fun wh pins s σ H Q I ⟨F, φ, ρ, hh, hr, er, g⟩ => q.run wh pins s σ H Q I ⟨F, φ, ρ, hh, hr, er, ?_⟩⟩
    rw [tq_b1] at g
    exact g
  · cases h
theorem ts_of_tw {e : E} (ht : TwOk T L P orc k e) (hs : ∀ N sc x, ck T N e sc x = true → ∃ op l p, x = .BoolOp op l p) : TsOk T L P orc k e := by
  intro X W c x h
  obtain ⟨op, l, p, rfl⟩ := hs _ _ _ h
  exact (ht X W c op l p h).pt
theorem ev_bnot {a : E} (ha : EvOk T L P orc k a) : EvOk T L P orc k (.bnot a) := by
  intro X W c x h
  unfold ck at h
  split at h
  · refine (pe_notT (ha X W c _ h)).imp fun σ H Q ⟨F, φ, ρ, hh, hr, er, g⟩ => ?_
    rw [q_bnot] at g
    refine ⟨F, φ, ρ, hh, hr, er, G.bind g fun x h1 φ1 H1 v e1 t1 hr1 rx g1 => ?_⟩
    split at g1
    · rename_i b e3
      exact ⟨b, truth_ok c.fa.hK hr1 rx e3, G.ok g1 hr1 (.bl _)⟩
    · exact (G.no_ g1).elim
  · cases h
theorem ts_bnot {a : E} (ha : TsOk T L P orc k a) : TsOk T L P orc k (.bnot a) := by
  intro X W c x h
  unfold ck at h
  split at h
  · refine (pt_not (ha X W c _ h)).imp fun σ H Q ⟨F, φ, ρ, hh, hr, er, g⟩ => ?_
    rw [tq_bnot] at g
    refine ⟨F, φ, ρ, hh, hr, er, G.bind g fun x h1 φ1 H1 v e1 t1 hr1 rx g1 => ?_⟩
    subst rx
    exact G.ok g1 hr1 rfl
  · cases h
theorem ev_ife {t a b : E} (ht : TsOk T L P orc k t) (ha : EvOk T L P orc k a) (hb : EvOk T L P orc k b) : EvOk T L P orc k (.ife t a b) := by
  intro X W c x h
  unfold ck at h
  split at h
  · obtain ⟨h1, h⟩ := and_ h
    obtain ⟨h2, h3⟩ := and_ h
    refine (pe_ifExp (ht X W c _ h1) (ha X W c _ h2) (hb X W c _ h3)).imp fun σ H Q ⟨F, φ, ρ, hh, hr, er, g⟩ => ?_
    rw [q_ife] at g
    refine ⟨F, φ, ρ, hh, hr, er, G.bind g fun x h1 φ1 H1 v e1 t1 hr1 rx g1 => ?_⟩
    subst rx
    cases x with
    | true =>
      rw [if_pos rfl]
      exact ⟨F, φ1, ρ, h1, hr1, er.mono t1, g1⟩
    | false =>
      rw [if_neg Bool.false_ne_true]
      exact ⟨F, φ1, ρ, h1, hr1, er.mono t1, g1⟩
  · cases h
theorem ts_plain {e : E} (he : EvOk T L P orc k e) (hs : ∀ N sc x, ck T N e sc x = true → trB x = true) (hq : ∀ ρ h, tst P orc e ρ h = (ev P orc e ρ h).bind fun x h1 => R.of (truthD x h1) h1) : TsOk T L P orc k e := by
  intro X W c x h
  refine (pt_truth (he X W c x h) (trTest x _ (hs _ _ _ h))).imp fun σ H Q ⟨F, φ, ρ, hh, hr, er, g⟩ => ?_
  rw [hq] at g
  refine ⟨F, φ, ρ, hh, hr, er, G.bind g fun x h1 φ1 H1 v e1 t1 hr1 rx g1 => ?_⟩
  obtain ⟨b, e, q⟩ := ofB hr1 g1
  exact ⟨b, truth_ok c.fa.hK hr1 rx e, q⟩
end
end MV

set_option maxRecDepth 100000
set_option maxHeartbeats 1000000
/-! VGr: t[::-1] of a tuple too. -/
namespace HT
open PySem PySem.Spec PyProof.Rows
section
variable {prog : Program} {w : World} {A : Around} {E : Value → Shared → Prop} {s : Shared}
theorem adjust_rev (n : Nat) : Builtin.Slice.sliceAdjust none none (-1) (n : Int) = ((n : Int) - 1, -1) := by
  unfold Builtin.Slice.sliceAdjust
  simp
theorem places_rev (n : Nat) : Builtin.Slice.slicePlaces ((n : Int) - 1) (-1) (-1) = n := by
  unfold Builtin.Slice.slicePlaces
  have h1 : ¬ ((-1 : Int) > 0) := by omega
  simp only [h1, if_false]
  have e : (-(-1) : Int) = 1 := rfl
  rw [e, Int.ediv_one]
  split <;> omega
theorem sliceApplied_rev {sl : Addr} {vl vu vs : Value} {n : Nat} {Q : Int × Int × Nat → Shared → Prop} (hs : s.heap.IsSliceOf sl vl vu vs) (pl : IsPart vl none) (pu : IsPart vu none) (ps : IsPart vs (some (-1)))
    (h : Q ((n : Int) - 1, -1, n) s) : wpAny (model prog w) A (Builtin.Slice.sliceApplied (.ref sl) (pure (n : Int))) Q E s := by
  obtain ⟨os, hos, hcs, hds⟩ := id hs
  unfold Builtin.Slice.sliceApplied Builtin.Slice.sliceFields
  refine wpAny_bind (wpAny_bind (wpAny_field hos hds (x := vl) rfl (wpAny_bind (wpAny_field hos hds (x := vu) rfl (wpAny_bind (wpAny_field hos hds (x := vs) rfl (wpAny_pure ?_)))))))
  refine wpAny_bind (slicePart_ ps ?_)
  show wpAny _ _ (if ((-1 : Int) == 0) = true then _ else _) _ _ s
  rw [if_neg (by decide)]
  refine wpAny_bind (slicePart_ pl (wpAny_bind (slicePart_ pu (wpAny_bind (wpAny_pure ?_)))))
  show wpAny _ _ (match Builtin.Slice.sliceAdjust none none (-1) (n : Int) with | (lo, hi) => pure (lo, (-1 : Int), Builtin.Slice.slicePlaces lo hi (-1))) _ _ s
  rw [adjust_rev n]
  show wpAny _ _ (pure ((n : Int) - 1, (-1 : Int), Builtin.Slice.slicePlaces ((n : Int) - 1) (-1) (-1))) _ _ s
  rw [places_rev]
  exact wpAny_pure h
theorem fm_congr {α β : Type} {f g : α → Option β} : ∀ {l : List α}, (∀ x ∈ l, f x = g x) → l.filterMap f = l.filterMap g
  | [], _ => rfl
  | a :: l, h => by
    rw [List.filterMap_cons, List.filterMap_cons, h a (List.mem_cons_self ..), fm_congr (l := l) fun x hx => h x (List.mem_cons_of_mem _ hx)]
theorem pick_rev (xs : Array Value) : ((List.range xs.size).filterMap fun (m : Nat) => xs[(((xs.size : Int) - 1) + (m : Int) * (-1)).toNat]?).toArray = xs.toList.reverse.toArray := by
  rw [← PySem.W.krv_pick]
  unfold slicePick
  rw [PySem.W.krv_bounds]
  show _ = ((sliceRange ((xs.size : Int) - 1) (-1) (-1)).filterMap (xs[·]?)).toArray
  rw [PySem.W.krv_sliceRange, List.filterMap_map]
  congr 1
  apply fm_congr
  intro k hk
  have := List.mem_range.mp hk
  show xs[(((xs.size : Int) - 1) + (k : Int) * (-1)).toNat]? = xs[xs.size - 1 - k]?
  congr 1
  omega
theorem getItem_tuple_rev {t sl : Addr} {items : Array Value} {vl vu vs : Value} {Q : Value → Shared → Prop} (ht : IsTup s.heap t items) (hs : s.heap.IsSliceOf sl vl vu vs) (pl : IsPart vl none) (pu : IsPart vu none) (ps : IsPart vs (some (-1)))
    (h : Q (.ref s.heap.objs.size) { s with heap := s.heap.push { cls := .type "tuple", data := .seq items.toList.reverse.toArray } })
    (hsz : items.size ≤ sizeLine) : wpAny (model prog w) A (getItem (.ref t) (.ref sl)) Q E s := by
  have htake : sizeOk (.seq items.toList.reverse.toArray) := by
    show items.toList.reverse.toArray.size ≤ sizeLine
    rw [List.size_toArray, List.length_reverse, Array.length_toList]
    exact hsz
  obtain ⟨os, hos, hcs, hds⟩ := id hs
  have hTs : s.TypeIs (.ref sl) "slice" := ⟨os, hos, hcs⟩
  unfold getItem
  try with_reducible refine wpAny_holding ?_
  first | refine wpAny_bind (wpAny_pure ?_) | skip
  refine wpAny_bind (wpAny_sequenceKey ht.typeIs (by decide) ?_)
  refine wpAny_bind (wpAny_callSpecial?_slot (name := Str.ofString "__getitem__") ht.typeIs PyProof.Rows.slot_tuple_getitem
    (wpAny_call_entry PyProof.Rows.slot_tuple_getitem ht.typeIs entry_tuple_getitem ?_ (args_tuple_getitem _ _)))
  show wpAny _ _ (Builtin.Tuple.tupleItemsOf (.ref t) >>= _) _ _ s
  refine wpAny_bind (tupleItemsOf_ ht ?_)
  refine wpAny_bind (wpAny_typeOf hTs ?_)
  rw [if_pos (by decide)]
  refine wpAny_bind (sliceApplied_rev hs pl pu ps ?_)
  have hno : ¬ ((((items.size : Int) - 1) == 0 && (-1 : Int) == 1 && items.size == items.size) = true) := by
    intro q
    rw [Bool.and_eq_true, Bool.and_eq_true] at q
    exact absurd q.1.2 (by decide)
  show wpAny _ _ (if (((items.size : Int) - 1) == 0 && (-1 : Int) == 1 && items.size == items.size) = true then _ else _) _ _ s
  rw [if_neg hno, pick_rev]
  first
    | exact wpAny_bind (m := Builtin.Tuple.tupleExact _) (wpAny_newObj_type (wpAny_pure ⟨_, rfl, wpAny_pure h⟩) htake)
    | exact wpAny_bind (m := Builtin.Tuple.tupleExact _) (wpAny_newObj_type (wpAny_bind (wpAny_pure (wpAny_pure ⟨_, rfl, wpAny_pure h⟩))) htake)
    | exact wpAny_bind (wpAny_bind (m := Builtin.Tuple.tupleExact _) (wpAny_newObj_type (wpAny_pure (wpAny_pure ⟨_, rfl, wpAny_pure h⟩)) htake))
    | exact wpAny_bind (wpAny_bind (m := Builtin.Tuple.tupleExact _) (wpAny_newObj_type (wpAny_pure ⟨_, rfl, wpAny_pure h⟩) htake))
end
end HT
namespace L2
open PySem PySem.Spec PyProof.Rows
section
variable {X : Cx}
/-- x[::-1] of a list, of a tuple -/
def tRevA (K : PySem.W.Frag) (te : TE) : TE := fun σ H Q => te σ H fun x H1 => ∃ a xs, x = .ref a ∧ ((SqL K H1 a xs ∧ ∀ p, H1 p = none → Q (.ref p) (upd H1 p (.lst xs.reverse))) ∨ (SqT K H1 a xs ∧ ∀ p, H1 p = none → Q (.ref p) (upd H1 p (.tup xs.reverse))))
theorem pe_revA {e : Expr} {te : TE} {k : Nat} {p1 p2 p3 pos : Pos} (he : PE X e te) : PE X (.Subscript e (.Slice none none (some (.UnaryOp .USub (.Constant (.int 1) k p1) p2)) p3) pos) (tRevA X.K te) := by
  refine ⟨fun pins s σ H Q I h => ?_⟩
  refine Subscript_ (thn (he.run pins s σ H _ I h) fun v s1 ⟨x, H1, I1, r1, q1⟩ => ?_)
  obtain ⟨a, xs, ex, q⟩ := q1
  subst ex
  cases r1
  have hst : PO X (some (.UnaryOp .USub (.Constant (.int 1) k p1) p2)) (tPart (tUn (rU fun i => .int (-i)) (tC (.int 1)))) := po_some (pe_un un_neg pe_int)
  refine wpAny_Slice (thn (po_none.run pins s1 σ H1 (fun o H2 => o = none ∧ H2 = H1) I1 ⟨rfl, rfl⟩) fun vl s2 ⟨l, H2, I2, pl, el, e2⟩ => ?_)
  subst el e2
  refine thn (po_none.run pins s2 σ H2 (fun o H3 => o = none ∧ H3 = H2) I2 ⟨rfl, rfl⟩) fun vu s3 ⟨u, H3, I3, pu, eu, e3⟩ => ?_
  subst eu e3
  refine thn (hst.run pins s3 σ H3 (fun o H4 => o = some (-1) ∧ H4 = H3) I3 ⟨1, rfl, -1, rfl, rfl, rfl⟩) fun vs s4 ⟨o, H4, I4, ps, eo, e4⟩ => ?_
  subst eo e4
  have I5 : Inv X pins σ H4 { s4 with heap := s4.heap.push { cls := .type "slice", data := .fields #[vl, vu, vs] } } := I4.kept (t' := s4.toks) fun b ob q => Heap.get?_push_of_some _ q
  show wpAny (model X.prog X.w) X.A (subscriptTail e (.Slice none none (some (.UnaryOp .USub (.Constant (.int 1) k p1) p2)) p3) (.ref a) (.ref s4.heap.objs.size)) (EP X pins σ Q) X.xe { s4 with heap := s4.heap.push { cls := .type "slice", data := .fields #[vl, vu, vs] } }
  rcases q with ⟨hx, q⟩ | ⟨hx, q⟩
  · obtain ⟨its, r, ht, hz⟩ := I5.list hx
    have hlen := r.length
    refine tail_any (ops := [.ref a, .ref s4.heap.objs.size]) ht.isList.typeIs (PySem.slot_list_getitem.lookup) ?_ (by with_unfolding_all rfl)
    refine wpAny_getItem_list_slice ht.isList (Heap.IsSliceOf.new _ vl vu vs) pl pu ps (by decide) ?_ (by rw [List.size_toArray]; omega)
    rw [PySem.W.krv_pick]
    refine ⟨.ref _, _, I5.laid (t' := s4.toks) (o := .lst xs.reverse) (fun b ob q => Heap.get?_push_of_some _ q) (Nat.le_refl _) ?_, rfl, q _ (I5.hok.fresh (Nat.le_refl _))⟩
    exact ⟨by rw [List.length_reverse]; exact hz, _, 0, r.reverse, Heap.get?_push_size _ rfl⟩
  · obtain ⟨its, r, ht, hz⟩ := I5.tuple hx
    have hlen := r.length
    refine tail_any (ops := [.ref a, .ref s4.heap.objs.size]) ht.typeIs (PyProof.Rows.slot_tuple_getitem.lookup) ?_ (by with_unfolding_all rfl)
    refine HT.getItem_tuple_rev ht (Heap.IsSliceOf.new _ vl vu vs) pl pu ps ?_ (by rw [List.size_toArray]; omega)
    refine ⟨.ref _, _, I5.laid (t' := s4.toks) (o := .tup xs.reverse) (fun b ob q => Heap.get?_push_of_some _ q) (Nat.le_refl _) ?_, rfl, q _ (I5.hok.fresh (Nat.le_refl _))⟩
    exact ⟨by rw [List.length_reverse]; exact hz, _, r.reverse, ⟨_, Heap.get?_push_size _ rfl, rfl, 0, by rfl⟩⟩
end
end L2

set_option maxRecDepth 100000
set_option maxHeartbeats 1000000
/-! VG: displays, calls, methods. -/
namespace MV
open PySem PySem.Spec PyProof.Rows L2
section
variable {T : Tb} {L : Lk} {P : Prog} {orc : Orc} {k : Nat}
theorem es_nil : EsOk T L P orc k .nil := by
  intro X W c xs h
  unfold cks at h
  split at h
  · refine pa_nil.imp fun σ H Q ⟨F, φ, ρ, hh, hr, er, g⟩ => ?_
    rw [q_nil] at g
    exact G.ok g hr .nil
  · cases h
theorem es_cons {e es : E} (ha : EvOk T L P orc k e) (hb : EsOk T L P orc k es) : EsOk T L P orc k (.cons e es) := by
  intro X W c xs h
  unfold cks at h
  split at h
  · obtain ⟨h1, h⟩ := and_ h
    obtain ⟨h2, h3⟩ := and_ h
    refine (pa_cons (ha X W c _ h2) (hb X W c _ h3) (sEach _ _ _ h1)).imp fun σ H Q ⟨F, φ, ρ, hh, hr, er, g⟩ => ?_
    rw [q_cons] at g
    refine ⟨F, φ, ρ, hh, hr, er, G.bind g fun x h1 φ1 H1 v e1 t1 hr1 rx g1 => ?_⟩
    refine ⟨F, φ1, ρ, h1, hr1, er.mono t1, G.bind g1 fun ds h2 φ2 H2 vs e2 t2 hr2 rs g2 => ?_⟩
    exact G.ok g2 hr2 (.cons (rx.mono t2) rs)
  · cases h
theorem es_star {e es : E} (ha : EvOk T L P orc k e) (hb : EsOk T L P orc k es) : EsOk T L P orc k (.star e es) := by
  intro X W c xs h
  unfold cks at h
  split at h
  · obtain ⟨h2, h3⟩ := and_ h
    refine (StX.pa_star (ha X W c _ h2) (hb X W c _ h3)).imp fun σ H Q ⟨F, φ, ρ, hh, hr, er, g⟩ => ?_
    rw [q_star] at g
    refine ⟨F, φ, ρ, hh, hr, er, G.bind g fun x h1 φ1 H1 v e1 t1 hr1 rx g1 => ?_⟩
    split at g1
    · rename_i l e3
      obtain ⟨a, vs, ev, hq, rs⟩ := seqOf_ok hr1 rx e3
      refine ⟨a, vs, ev, by rw [c.fa.hK]; exact hq.symm, ?_⟩
      refine ⟨F, φ1, ρ, h1, hr1, er.mono t1, G.bind g1 fun ds h2 φ2 H2 ws e2 t2 hr2 rw' g2 => ?_⟩
      exact G.ok g2 hr2 ((rs.mono t2).append rw')
    · exact (G.no_ g1).elim
  · cases h
theorem ks_nil : KsOk T L P orc k .nil := by
  intro X W c kws ns h
  unfold ckK at h
  split at h
  · refine ⟨⟨fun pos pins s σ H Q I ⟨F, φ, ρ, hh, hr, er, g⟩ => pk_nil.run pos pins s σ H Q I ?_⟩, fun pos => ⟨rfl, rfl, rfl⟩⟩
    rw [q_nil] at g
    exact G.ok g hr .nil
  · cases h
theorem ks_cons {e es : E} (ha : EvOk T L P orc k e) (hb : KsOk T L P orc k es) : KsOk T L P orc k (.cons e es) := by
  intro X W c kws ns h
  unfold ckK at h
  split at h
  · rename_i nm x kp xs n ns
    obtain ⟨h1, h⟩ := and_ h
    obtain ⟨h2, h3⟩ := and_ h
    have h1 := of_decide_eq_true h1
    subst h1
    obtain ⟨hp, hq⟩ := hb X W c _ _ h3
    refine ⟨⟨fun pos pins s σ H Q I ⟨F, φ, ρ, hh, hr, er, g⟩ => (pk_cons (ha X W c _ h2) hp).run pos pins s σ H Q I ?_⟩, fun pos => ?_⟩
    · rw [q_cons] at g
      refine ⟨F, φ, ρ, hh, hr, er, G.bind g fun x h1 φ1 H1 v e1 t1 hr1 rx g1 => ?_⟩
      refine ⟨F, φ1, ρ, h1, hr1, er.mono t1, G.bind g1 fun ds h2 φ2 H2 vs e2 t2 hr2 rs g2 => ?_⟩
      exact G.ok g2 hr2 (.cons (rx.mono t2) rs)
    · obtain ⟨q1, q2, q3⟩ := hq pos
      refine ⟨?_, ?_, ?_⟩
      · show (true && (backToKw pos (keywordEach xs X.env)).all (·.1.isSome)) = true
        rw [q1] <;> rfl
      · show n :: (backToKw pos (keywordEach xs X.env)).filterMap (·.1) = n :: ns
        rw [q2]
      · show (false || (backToKw pos (keywordEach xs X.env)).any (·.1.isNone)) = false
        rw [q3] <;> rfl
  · cases h
theorem ev_tup {es : E} (he : EsOk T L P orc k es) : EvOk T L P orc k (.tup es) := by
  intro X W c x h
  unfold ck at h
  split at h
  · refine (pe_tup (he X W c _ h)).imp fun σ H Q ⟨F, φ, ρ, hh, hr, er, g⟩ => ?_
    rw [q_tup] at g
    exact ⟨F, φ, ρ, hh, hr, er, G.bind g fun x h1 φ1 H1 v e1 t1 hr1 rx g1 => mkT_ok hr1 rx g1⟩
  · cases h
theorem ev_lst {m : Bool} {es : E} (he : EsOk T L P orc k es) : EvOk T L P orc k (.lst m es) := by
  intro X W c x h
  unfold ck at h
  split at h
  · refine (pe_lst (he X W c _ h)).imp fun σ H Q ⟨F, φ, ρ, hh, hr, er, g⟩ => ?_
    rw [q_lst] at g
    exact ⟨F, φ, ρ, hh, hr, er, G.bind g fun x h1 φ1 H1 v e1 t1 hr1 rx g1 => mkL_ok hr1 rx g1⟩
  · cases h
theorem ev_dct : EvOk T L P orc k .dct := by
  intro X W c x h
  unfold ck at h
  split at h
  · refine pe_dnewK.imp fun σ H Q ⟨F, φ, ρ, hh, hr, er, g⟩ => ?_
    rw [q_dct] at g
    intro p hp
    have t : XT φ H (φ ++ [p]) (upd H p (.dK [])) := .grow hp
    refine G.ok' g t (hr.grow hp (.dct upd_same rfl .nil)) (.ref ?_)
    rw [← hr.len, List.getElem?_append_right (Nat.le_refl _), Nat.sub_self]
    rfl
  · cases h
theorem ev_ix {a i : E} (ha : EvOk T L P orc k a) (hb : EvOk T L P orc k i) : EvOk T L P orc k (.ix a i) := by
  intro X W c x h
  unfold ck at h
  split at h
  · obtain ⟨h1, h⟩ := and_ h
    obtain ⟨h2, h3⟩ := and_ h
    refine (pe_ix (item_ok c.fa.hK c.hu (c.fa.wd X c.same)) (ha X W c _ h2) (hb X W c _ h3) (plIx _ h1)).imp fun σ H Q ⟨F, φ, ρ, hh, hr, er, g⟩ => ?_
    rw [q_ix] at g
    refine ⟨F, φ, ρ, hh, hr, er, G.bind g fun x h1 φ1 H1 v e1 t1 hr1 rx g1 => ?_⟩
    refine ⟨F, φ1, ρ, h1, hr1, er.mono t1, G.bind g1 fun y h2 φ2 H2 u e2 t2 hr2 ry g2 => ?_⟩
    exact ⟨F, φ2, h2, x, y, _, hr2, rx.mono t2, ry, g2⟩
  · cases h
/-- a slice's part -/
theorem po_ok {lo : E} (hlo : EvOk T L P orc k lo) (hz : lo.isNil = true → lo = .nil) {X : Cx} {W : WX} (c : CX1 T L P orc k X W) {l : Option Expr} (h : (match l with
      | none => lo.isNil
      | some l => !lo.isNil && ck T X.N lo X.env.scope l) = true) :
    PO X l (fun σ H Q => ∃ F φ ρ h, HR L F φ h H ∧ ER L F φ H ρ σ ∧ GE L F φ H (ev P orc lo ρ h) (fun v H1 => ∃ o, (match o with
      | none => lo.isNil = true
      | some i => lo.isNil = false ∧ v = .int i) ∧ Q o H1) fun c d H' => W c d σ H') := by
  cases l with
  | none =>
    have h : lo.isNil = true := h
    refine ⟨fun pins s σ H Q I ⟨F, φ, ρ, hh, hr, er, g⟩ => po_none.run pins s σ H Q I ?_⟩
    rw [hz h] at g
    obtain ⟨o, e, q⟩ := GE.one (d := D.non) (v := V.non) g hr .non
    cases o with
    | none => exact q
    | some i => cases e.1
  | some x =>
    obtain ⟨h1, h2⟩ := and_ (show (!lo.isNil && ck T X.N lo X.env.scope x) = true from h)
    refine ⟨fun pins s σ H Q I ⟨F, φ, ρ, hh, hr, er, g⟩ => (po_some (hlo X W c _ h2)).run pins s σ H Q I ⟨F, φ, ρ, hh, hr, er, G.imp g fun v H1 q => ?_⟩⟩
    obtain ⟨o, e, q⟩ := q
    cases o with
    | none => rw [show lo.isNil = true from e] at h1; cases h1
    | some i => exact ⟨i, e.2, q⟩
theorem ev_sl {m : Bool} {a lo hi : E} (ha : EvOk T L P orc k a) (hl : EvOk T L P orc k lo) (hh : EvOk T L P orc k hi) : EvOk T L P orc k (.sl m a lo hi) := by
  intro X W c x h
  have hz : ∀ e : E, e.isNil = true → e = .nil := fun e z => by cases e <;> first | rfl | cases z
  unfold ck at h
  split at h
  · obtain ⟨h1, h⟩ := and_ h
    obtain ⟨h2, h3⟩ := and_ h
    refine (pe_slice (slice_ok c.fa.hK m) (ha X W c _ h1) (po_ok hl (hz lo) c h2) (po_ok hh (hz hi) c h3)).imp fun σ H Q ⟨F, φ, ρ, hh, hr, er, g⟩ => ?_
    rw [q_sl] at g
    refine ⟨F, φ, ρ, hh, hr, er, G.bind g fun x h1 φ1 H1 v e1 t1 hr1 rx g1 => ?_⟩
    have part : ∀ {n : Bool} {d : D} {w : V} {φ : List Addr} {H : Hp} {o : Option Int}, Rel L F φ H d w → partD n d = some o → (match o with
      | none => n = true
      | some i => n = false ∧ w = .int i) := fun {n d w φ H o} r e => by
      cases n with
      | true =>
        cases e
        rfl
      | false =>
        cases r with
        | int i =>
          cases e
          exact ⟨rfl, rfl⟩
        | _ => cases e
    refine ⟨F, φ1, ρ, h1, hr1, er.mono t1, G.bind g1 fun l h2 φ2 H2 vl e2 t2 hr2 rl g2 => ?_⟩
    split at g2
    · rename_i ol el
      refine ⟨ol, part rl el, ?_⟩
      refine ⟨F, φ2, ρ, h2, hr2, (er.mono t1).mono t2, G.bind g2 fun u h3 φ3 H3 vu e3 t3 hr3 ru g3 => ?_⟩
      split at g3
      · rename_i ou eu
        exact ⟨ou, part ru eu, F, φ3, h3, x, _, hr3, (rx.mono t2).mono t3, g3⟩
      · exact (G.no_ g3).elim
    · exact (G.no_ g2).elim
  · cases h
theorem ev_rev {m : Bool} {a : E} (ha : EvOk T L P orc k a) : EvOk T L P orc k (.rev m a) := by
  intro X W c x h
  unfold ck at h
  split at h
  · refine (pe_revA (ha X W c _ h)).imp fun σ H Q ⟨F, φ, ρ, hh, hr, er, g⟩ => ?_
    rw [q_rev] at g
    refine ⟨F, φ, ρ, hh, hr, er, G.bind g fun x h1 φ1 H1 v e1 t1 hr1 rx g1 => ?_⟩
    unfold revD at g1
    split at g1
    · cases rx with
      | tup q rs => exact ⟨_, _, rfl, .inr ⟨by rw [c.fa.hK]; exact q, fun p hp => G.ok' g1 (.fresh hp) (hr1.fresh hp) (.tup (.inl (.inl upd_same)) (rs.mono (.fresh hp)).reverse)⟩⟩
    · cases rx with
      | wtup e1 e2 e3 e4 e5 e6 rs => exact ⟨_, _, rfl, .inr ⟨by rw [c.fa.hK]; exact .inr ⟨_, _, _, e1, e2, e4, e5, e6⟩, fun p hp => G.ok' g1 (.fresh hp) (hr1.fresh hp) (.tup (.inl (.inl upd_same)) (rs.mono (.fresh hp)).reverse)⟩⟩
    · split at g1
      · rename_i l e
        obtain ⟨a, vs, ev, hq, rs⟩ := listOf_ok hr1 rx e
        exact ⟨a, vs, ev, .inl ⟨sqK c.fa.hK hq, fun p hp => (mkL_ok hr1 rs.reverse g1).2 p hp⟩⟩
      · exact (G.no_ g1).elim
  · cases h
/-! ### calls -/
theorem evs_len : ∀ {args : List Expr} {es : E} {N : List Str} {sc : Scope} {ρ : Env} {h h1 : HH} {ds : List D}, cks T N es sc args = true → nsAll args = true → evs P orc es ρ h = .ok ds h1 → ds.length = args.length
  | [], es, N, sc, ρ, h, h1, ds, hc, hn, e => by
    cases es <;> first | (unfold cks at hc; cases hc) | skip
    rw [q_nil] at e
    cases e
    rfl
  | x :: xs, es, N, sc, ρ, h, h1, ds, hc, hn, e => by
    obtain ⟨n1, n2⟩ := and_ (show (nsB x && nsAll xs) = true from hn)
    cases es <;> first | (unfold cks at hc; cases hc; done) | skip
    · rename_i a b
      unfold cks at hc
      dsimp only at hc
      obtain ⟨_, hc⟩ := and_ hc
      obtain ⟨_, hc⟩ := and_ hc
      rw [q_cons] at e
      cases ea : ev P orc a ρ h with
      | ok d h2 =>
        rw [ea] at e
        have e : ((evs P orc b ρ h2).bind fun ds h2 => R.ok (d :: ds) h2) = .ok ds h1 := e
        cases eb : evs P orc b ρ h2 with
        | ok r h3 =>
          rw [eb] at e
          cases e
          rw [List.length_cons, List.length_cons, evs_len hc n2 eb]
        | exc _ _ _ _ =>
          rw [eb] at e
          cases e
        | no =>
          rw [eb] at e
          cases e
      | exc _ _ _ _ =>
        rw [ea] at e
        cases e
      | no =>
        rw [ea] at e
        cases e
    · rename_i a b
      unfold cks at hc
      cases x <;> first | cases hc | cases n1
theorem kvs_len : ∀ {kws : List Keyword} {ns : List Str} {es : E} {N : List Str} {sc : Scope} {ρ : Env} {h h1 : HH} {ds : List D}, ckK T N es sc kws ns = true → evs P orc es ρ h = .ok ds h1 → ds.length = ns.length
  | kws, ns, .nil, N, sc, ρ, h, h1, ds, hc, e => by
    unfold ckK at hc
    split at hc
    · rw [q_nil] at e
      cases e
      rfl
    · cases hc
  | kws, ns, .cons a b, N, sc, ρ, h, h1, ds, hc, e => by
    unfold ckK at hc
    split at hc
    · obtain ⟨_, hc⟩ := and_ hc
      obtain ⟨_, hc⟩ := and_ hc
      rw [q_cons] at e
      cases ea : ev P orc a ρ h with
      | ok d h2 =>
        rw [ea] at e
        have e : ((evs P orc b ρ h2).bind fun ds h2 => R.ok (d :: ds) h2) = .ok ds h1 := e
        cases eb : evs P orc b ρ h2 with
        | ok r h3 =>
          rw [eb] at e
          cases e
          rw [List.length_cons, List.length_cons, kvs_len hc eb]
        | exc _ _ _ _ =>
          rw [eb] at e
          cases e
        | no =>
          rw [eb] at e
          cases e
      | exc _ _ _ _ =>
        rw [ea] at e
        cases e
      | no =>
        rw [ea] at e
        cases e
    · cases hc
theorem callA {X : Cx} {W : WX} {pos : Pos} {f : Addr} {n j : Nat} {args : List Expr} {pins : List (Addr × Obj)} {s : Shared} {σ : L2.St} {H : Hp} {Q : VK} {F : Fm} {φ : List Addr} {ρ : Env} {h : HH} {es : E} {ad : Bool} {first : List Value} {fs : List V} {fd : List D}
    (he : EsOk T L P orc k es) (c : CX1 T L P orc k X W) (hk : PySem.W.keepIn X.K (.ref f) = true) (cv : CallV L P orc X W f n [] j) (hn : nsAll args = true) (h1 : cks T X.N es X.env.scope args = true)
    (I : Inv X pins σ H s) (hr : HR L F φ h H) (er : ER L F φ H ρ σ) (rf : Rels L F φ H fd fs) (vf : Vals fs first) (hl : args.length + fs.length = n)
    (g : GE L F φ H ((evs P orc es ρ h).bind fun ds h1 => callJ P orc ad j (fd ++ ds) h1) Q fun c d H' => W c d σ H') :
    wpAny (model X.prog X.w) X.A (callWith pos (.ref f) first (backTo pos (starEach args X.env)) (backToKw pos (keywordEach [] X.env))) (EP X pins σ Q) X.xe s := by
  have pa := he X W c args h1
  have key : GEs L F φ H (evs P orc es ρ h) (fun vs H1 => ∃ φ1 h1 ds, HR L F φ1 h1 H1 ∧ XT φ H φ1 H1 ∧ Rels L F φ1 H1 ds vs ∧ ds.length = args.length ∧ GE L F φ1 H1 (callJ P orc ad j (fd ++ ds) h1) Q fun c d H' => W c d σ H') (fun c d H' => W c d σ H') :=
    G.bind g fun ds h2 φ1 H1 vs e1 t1 hr1 rs g1 => ⟨φ1, h2, ds, hr1, t1, rs, evs_len h1 hn e1, g1⟩
  have fin : ∀ {us : List Value} {s1 : Shared} {vs : List V} {H1 : Hp}, Inv X pins σ H1 s1 → Vals vs us → (∃ φ1 h1 ds, HR L F φ1 h1 H1 ∧ XT φ H φ1 H1 ∧ Rels L F φ1 H1 ds vs ∧ ds.length = args.length ∧ GE L F φ1 H1 (callJ P orc ad j (fd ++ ds) h1) Q fun c d H' => W c d σ H') →
      wpAny (model X.prog X.w) X.A (call (.ref f) (first ++ us)) (EP X pins σ Q) X.xe s1 := fun {us s1 vs H1} I1 rv ⟨φ1, h2, ds, hr1, t1, rs, el, g1⟩ => by
    refine cv ad pins s1 σ H1 (fs ++ vs) [] (first ++ us) [] Q F φ1 h2 (fd ++ ds) I1 (vf.append rv) .nil ?_ rfl hr1 ?_ g1
    · rw [List.length_append, ← rs.length, el]
      omega
    · rw [List.append_nil]
      exact (rf.mono t1).append rs
  cases args with
  | nil =>
    have e0 : es = .nil := by
      cases es <;> first | rfl | (unfold cks at h1; cases h1)
    subst e0
    refine PySem.W.callWith_K0 I.kIn hk ?_
    rw [q_nil] at key
    exact fin I .nil (G.ok (b := ([] : List V)) key hr .nil)
  | cons e rest =>
    obtain ⟨n1, n2⟩ := and_ (show (nsB e && nsAll rest) = true from hn)
    refine PySem.W.callWith_K (h₀ := X.base) I.ok.mod.kin hk (thn (pa.run pos pins s σ H _ I ⟨F, φ, ρ, h, hr, er, key⟩) fun us s1 ⟨vs, H1, I1, r1, q1⟩ => ⟨I1.kIn, fin I1 r1 q1⟩) (sEach _ _ _ n1) (nsPlain _ _ _ n2)
theorem ev_call {ad : Bool} {j : Nat} {es : E} (he : EsOk T L P orc k es) : EvOk T L P orc k (.call ad j es) := by
  intro X W c x h
  unfold ck at h
  split at h
  · split at h
    · rename_i f p args pos _ g n e0
      obtain ⟨h1, h⟩ := and_ h
      obtain ⟨h2, h⟩ := and_ h
      obtain ⟨h3, h⟩ := and_ h
      obtain ⟨h4, h5⟩ := and_ h
      have h1 := of_decide_eq_true h1
      subst h1
      obtain ⟨g1, g2⟩ := glB_ h2
      obtain ⟨fa, m1, m2, m3⟩ := c.fa.call X W c.same c.tk j f n [] e0
      refine ⟨fun pins s σ H Q I ⟨F, φ, ρ, hh, hr, er, g⟩ => ?_⟩
      rw [q_call] at g
      exact wpAny_Call_Name_kw (ld_glob I g1 m1 (callA (fd := []) (fs := []) he c m2 m3 h3 h4 I hr er .nil .nil (of_decide_eq_true h5) g) g2)
    · cases h
  · cases h
theorem ev_callk {ad : Bool} {j : Nat} {es ks : E} (he : EsOk T L P orc k es) (hks : KsOk T L P orc k ks) : EvOk T L P orc k (.callk ad j es ks) := by
  intro X W c x h
  unfold ck at h
  split at h
  · split at h
    · rename_i f p args kws pos _ g n names e0
      obtain ⟨h1, h⟩ := and_ h
      obtain ⟨h2, h⟩ := and_ h
      obtain ⟨h3, h⟩ := and_ h
      obtain ⟨h4, h⟩ := and_ h
      obtain ⟨h5, h6⟩ := and_ h
      have h1 := of_decide_eq_true h1
      have h6 := of_decide_eq_true h6
      subst h1
      obtain ⟨g1, g2⟩ := glB_ h2
      obtain ⟨fa, m1, m2, m3⟩ := c.fa.call X W c.same c.tk j f n names e0
      obtain ⟨pk, pf⟩ := hks X W c kws names h5
      obtain ⟨k1, k2, k3⟩ := pf pos
      refine ⟨fun pins s σ H Q I ⟨F, φ, ρ, hh, hr, er, g⟩ => ?_⟩
      rw [q_callk] at g
      refine wpAny_Call_Name_kw (ld_glob I g1 m1 ?_ g2)
      -- behind the arguments
      have fin : ∀ {us : List Value} {s1 : Shared} {vs : List V} {H1 : Hp} {φ1 : List Addr} {h1 : HH} {ds : List D}, Inv X pins σ H1 s1 → Vals vs us → HR L F φ1 h1 H1 → ER L F φ1 H1 ρ σ → Rels L F φ1 H1 ds vs → ds.length = args.length →
          GE L F φ1 H1 ((evs P orc ks ρ h1).bind fun es h2 => callJ P orc ad j (ds ++ es) h2) Q (fun c d H' => W c d σ H') →
          wpAny (model X.prog X.w) X.A (evalAll ((backToKw pos (keywordEach kws X.env)).map (·.2))) (fun zs s₂ => X.K.In s₂.heap ∧ wpAny (model X.prog X.w) X.A (call (.ref fa) ([] ++ us) (((backToKw pos (keywordEach kws X.env)).filterMap (·.1)).zip zs)) (EP X pins σ Q) X.xe s₂) X.xe s1 := fun {us s1 vs H1 φ1 h1 ds} I1 rv hr1 er1 rs el g1 => by
        refine thn (pk.run pos pins s1 σ H1 (fun zs H2 => zs.length = names.length ∧ ∃ φ2 h2 es, HR L F φ2 h2 H2 ∧ XT φ1 H1 φ2 H2 ∧ Rels L F φ2 H2 es zs ∧ GE L F φ2 H2 (callJ P orc ad j (ds ++ es) h2) Q fun c d H' => W c d σ H') I1 ⟨F, φ1, ρ, h1, hr1, er1, G.bind g1 fun es h2 φ2 H2 zs e2 t2 hr2 rz g2 => ⟨by rw [← rz.length]; exact kvs_len h5 e2, φ2, h2, es, hr2, t2, rz, g2⟩⟩) fun zs s2 ⟨ws, H2, I2, rz, hz, q⟩ => ⟨I2.kIn, ?_⟩
        rw [k2]
        obtain ⟨φ2, h2, es', hr2, t2, rzs, g2⟩ := q
        refine m3 ad pins s2 σ H2 vs ws us zs Q F φ2 h2 (ds ++ es') I2 rv rz ?_ hz hr2 ((rs.mono t2).append rzs) g2
        rw [← rs.length, el, h6]
      cases args with
      | nil =>
        have e0 : es = .nil := by
          cases es <;> first | rfl | (unfold cks at h4; cases h4)
        subst e0
        rw [q_nil] at g
        exact PySem.W.callWith_KW0 (h₀ := X.base) I.ok.mod.kin m2 k1 (fin (vs := []) (ds := []) I .nil hr er .nil rfl g) (by show (false || _) = false; rw [k3] <;> rfl)
      | cons e rest =>
        obtain ⟨n1, n2⟩ := and_ (show (nsB e && nsAll rest) = true from h3)
        refine PySem.W.callWith_KW (h₀ := X.base) I.ok.mod.kin m2 k1 (thn ((he X W c _ h4).run pos pins s σ H (fun vs H1 => ∃ φ1 h1 ds, HR L F φ1 h1 H1 ∧ XT φ H φ1 H1 ∧ Rels L F φ1 H1 ds vs ∧ ds.length = (e :: rest).length ∧ GE L F φ1 H1 ((evs P orc ks ρ h1).bind fun es h2 => callJ P orc ad j (ds ++ es) h2) Q fun c d H' => W c d σ H') I
          ⟨F, φ, ρ, hh, hr, er, G.bind g fun ds h2 φ1 H1 vs e1 t1 hr1 rs g1 => ⟨φ1, h2, ds, hr1, t1, rs, evs_len h4 h3 e1, g1⟩⟩) fun us s1 ⟨vs, H1, I1, r1, φ1, h2, ds, hr1, t1, rs, el, g1⟩ => fin I1 r1 hr1 (er.mono t1) rs el g1) ?_ (sEach _ _ _ n1)
        rw [k3, sEach _ _ _ n1]
        show ((false || (backTo pos (starEach rest X.env)).any (·.1)) || false) = false
        rw [nsPlain _ _ _ n2] <;> rfl
    · cases h
  · cases h
end
end MV

set_option maxRecDepth 100000
set_option maxHeartbeats 1000000
/-! VGk: a call with keywords, its first values at hand. -/
namespace MV
open PySem PySem.Spec PyProof.Rows L2
section
variable {T : Tb} {L : Lk} {P : Prog} {orc : Orc} {k : Nat}
theorem callAK {X : Cx} {W : WX} {pos : Pos} {f : Addr} {n j : Nat} {names : List Str} {args : List Expr} {kws : List Keyword} {pins : List (Addr × Obj)} {s : Shared} {σ : L2.St} {H : Hp} {Q : VK} {F : Fm} {φ : List Addr} {ρ : Env} {h : HH} {es ks : E} {ad : Bool} {first : List Value} {fs : List V} {fd : List D}
    (he : EsOk T L P orc k es) (hks : KsOk T L P orc k ks) (c : CX1 T L P orc k X W) (hk : PySem.W.keepIn X.K (.ref f) = true) (cv : CallV L P orc X W f n names j) (hn : nsAll args = true) (h1 : cks T X.N es X.env.scope args = true) (h5 : ckK T X.N ks X.env.scope kws names = true)
    (I : Inv X pins σ H s) (hr : HR L F φ h H) (er : ER L F φ H ρ σ) (rf : Rels L F φ H fd fs) (vf : Vals fs first) (hl : args.length + fs.length = n)
    (g : GE L F φ H ((evs P orc es ρ h).bind fun ds h1 => (evs P orc ks ρ h1).bind fun es h2 => callJ P orc ad j (fd ++ (ds ++ es)) h2) Q fun c d H' => W c d σ H') :
    wpAny (model X.prog X.w) X.A (callWith pos (.ref f) first (backTo pos (starEach args X.env)) (backToKw pos (keywordEach kws X.env))) (EP X pins σ Q) X.xe s := by
  obtain ⟨pk, pf⟩ := hks X W c kws names h5
  obtain ⟨k1, k2, k3⟩ := pf pos
  have fin : ∀ {us : List Value} {s1 : Shared} {vs : List V} {H1 : Hp} {φ1 : List Addr} {h1 : HH} {ds : List D}, Inv X pins σ H1 s1 → Vals vs us → HR L F φ1 h1 H1 → ER L F φ1 H1 ρ σ → Rels L F φ1 H1 fd fs → Rels L F φ1 H1 ds vs → ds.length = args.length →
      GE L F φ1 H1 ((evs P orc ks ρ h1).bind fun es h2 => callJ P orc ad j (fd ++ (ds ++ es)) h2) Q (fun c d H' => W c d σ H') →
      wpAny (model X.prog X.w) X.A (evalAll ((backToKw pos (keywordEach kws X.env)).map (·.2))) (fun zs s₂ => X.K.In s₂.heap ∧ wpAny (model X.prog X.w) X.A (call (.ref f) (first ++ us) (((backToKw pos (keywordEach kws X.env)).filterMap (·.1)).zip zs)) (EP X pins σ Q) X.xe s₂) X.xe s1 := fun {us s1 vs H1 φ1 h1 ds} I1 rv hr1 er1 rf1 rs el g1 => by
    refine thn (pk.run pos pins s1 σ H1 (fun zs H2 => zs.length = names.length ∧ ∃ φ2 h2 es, HR L F φ2 h2 H2 ∧ XT φ1 H1 φ2 H2 ∧ Rels L F φ2 H2 es zs ∧ GE L F φ2 H2 (callJ P orc ad j (fd ++ (ds ++ es)) h2) Q fun c d H' => W c d σ H') I1 ⟨F, φ1, ρ, h1, hr1, er1, G.bind g1 fun es h2 φ2 H2 zs e2 t2 hr2 rz g2 => ⟨by rw [← rz.length]; exact kvs_len h5 e2, φ2, h2, es, hr2, t2, rz, g2⟩⟩) fun zs s2 ⟨ws, H2, I2, rz, hz, q⟩ => ⟨I2.kIn, ?_⟩
    rw [k2]
    obtain ⟨φ2, h2, es', hr2, t2, rzs, g2⟩ := q
    refine cv ad pins s2 σ H2 (fs ++ vs) ws (first ++ us) zs Q F φ2 h2 (fd ++ (ds ++ es')) I2 (vf.append rv) rz ?_ hz hr2 ?_ g2
    · rw [List.length_append, ← rs.length, el]
      omega
    · rw [← List.append_assoc]
      exact ((rf1.mono t2).append (rs.mono t2)).append rzs
  cases args with
  | nil =>
    have e0 : es = .nil := by
      cases es <;> first | rfl | (unfold cks at h1; cases h1)
    subst e0
    rw [q_nil] at g
    exact PySem.W.callWith_KW0 (h₀ := X.base) I.ok.mod.kin hk k1 (fin (vs := []) (ds := []) I .nil hr er rf .nil rfl g) (by show (false || _) = false; rw [k3] <;> rfl)
  | cons e rest =>
    obtain ⟨n1, n2⟩ := and_ (show (nsB e && nsAll rest) = true from hn)
    refine PySem.W.callWith_KW (h₀ := X.base) I.ok.mod.kin hk k1 (thn ((he X W c _ h1).run pos pins s σ H (fun vs H1 => ∃ φ1 h1 ds, HR L F φ1 h1 H1 ∧ XT φ H φ1 H1 ∧ Rels L F φ1 H1 ds vs ∧ ds.length = (e :: rest).length ∧ GE L F φ1 H1 ((evs P orc ks ρ h1).bind fun es h2 => callJ P orc ad j (fd ++ (ds ++ es)) h2) Q fun c d H' => W c d σ H') I
      ⟨F, φ, ρ, h, hr, er, G.bind g fun ds h2 φ1 H1 vs e1 t1 hr1 rs g1 => ⟨φ1, h2, ds, hr1, t1, rs, evs_len h1 hn e1, g1⟩⟩) fun us s1 ⟨vs, H1, I1, r1, φ1, h2, ds, hr1, t1, rs, el, g1⟩ => fin I1 r1 hr1 (er.mono t1) (rf.mono t1) rs el g1) ?_ (sEach _ _ _ n1)
    rw [k3, sEach _ _ _ n1]
    show ((false || (backTo pos (starEach rest X.env)).any (·.1)) || false) = false
    rw [nsPlain _ _ _ n2] <;> rfl
end
end MV

set_option maxRecDepth 100000
set_option maxHeartbeats 1000000
/-! VH: methods, attributes, built-ins. -/
namespace MV
open PySem PySem.Spec PyProof.Rows L2
section
variable {T : Tb} {L : Lk} {P : Prog} {orc : Orc} {k : Nat}
/-- own instances -/
theorem insOf_ok {F : Fm} {φ : List Addr} {H : Hp} {h : HH} {d : D} {v : V} {c : Nat} {ks : List Nat} {vs : List D} (x : HR L F φ h H) (r : Rel L F φ H d v) (e : insOf d h = some (c, ks, vs)) :
    ∃ a dx fs, v = .ref a ∧ H a = some (.ins (L.cl c) dx fs) ∧ fs.map (·.1) = ks.map L.nm ∧ Rels L F φ H vs (fs.map (·.2)) := by
  cases r with
  | obj q n f kk r =>
    cases e
    exact ⟨_, _, _, rfl, q, kk, r⟩
  | @ref n a q =>
    obtain ⟨o, e1, ro⟩ := x.ro q
    have e : (match h[n]? with
      | some (.ins c ks vs) => some (c, ks, vs)
      | _ => none) = some (c, ks, vs) := e
    rw [e1] at e
    cases ro with
    | ins q2 kk r =>
      cases e
      exact ⟨_, _, _, rfl, q2, kk, r⟩
    | _ => cases e
  | _ => cases e
theorem lookNo {nm : Nat → Str} (inj : ∀ i j, nm i = nm j → i = j) {k : Nat} : ∀ {fs : List (Str × V)} {ks : List Nat}, fs.map (·.1) = ks.map nm → ks.contains k = false → fs.lookup (nm k) = none
  | [], _, _, _ => rfl
  | (f, v) :: fs, [], e, _ => by cases e
  | (f, v) :: fs, i :: ks, e, hc => by
    injection e with e1 e2
    have e1 : f = nm i := e1
    rw [List.contains_cons] at hc
    obtain ⟨h1, h2⟩ := Bool.or_eq_false_iff.mp hc
    have ne : (nm k == f) = false := by
      rw [beq_eq_false_iff_ne, e1]
      intro z
      rw [inj _ _ z] at h1
      simp at h1
    rw [List.lookup_cons, ne]
    exact lookNo inj e2 h2
theorem lookF_ok {nm : Nat → Str} (inj : ∀ i j, nm i = nm j → i = j) {F : Fm} {φ : List Addr} {H : Hp} {k : Nat} {d : D} : ∀ {fs : List (Str × V)} {ks : List Nat} {ds : List D}, fs.map (·.1) = ks.map nm → Rels L F φ H ds (fs.map (·.2)) → lookF ks ds k = some d → ∃ v, fs.lookup (nm k) = some v ∧ Rel L F φ H d v
  | [], ks, ds, e, r, q => by
    cases r
    unfold lookF at q
    split at q
    · rename_i h1 h2
      cases h2
    · cases q
  | (f, v) :: fs, [], ds, e, r, q => by cases e
  | (f, v) :: fs, i :: ks, ds, e, r, q => by
    injection e with e1 e2
    have e1 : f = nm i := e1
    cases r with
    | cons r1 rs =>
      unfold lookF at q
      rw [List.lookup_cons]
      by_cases hi : i = k
      · subst hi
        rw [if_pos (by simp)] at q
        cases q
        exact ⟨v, by rw [e1]; simp, r1⟩
      · rw [if_neg (by simpa using hi)] at q
        have ne : (nm k == f) = false := by
          rw [beq_eq_false_iff_ne, e1]
          exact fun z => hi (inj _ _ z).symm
        rw [ne]
        exact lookF_ok inj e2 rs q
theorem getT_mem : ∀ {alts : List (Nat × Nat)} {c j : Nat}, getT alts c = some j → (c, j) ∈ alts
  | [], c, j, e => by cases e
  | (a, b) :: r, c, j, e => by
    unfold getT at e
    split at e
    · rename_i h
      cases e
      rw [beq_iff_eq] at h
      subst h
      exact List.mem_cons_self ..
    · exact List.mem_cons_of_mem _ (getT_mem e)
theorem ev_meth {ad : Bool} {mi : Nat} {o es : E} {alts : List (Nat × Nat)} (ho : EvOk T L P orc k o) (he : EsOk T L P orc k es) : EvOk T L P orc k (.meth ad mi o alts es) := by
  intro X W c x h
  unfold ck at h
  split at h
  · rename_i x m apos args cpos
    obtain ⟨h1, h⟩ := and_ h
    obtain ⟨h2, h⟩ := and_ h
    obtain ⟨h3, h⟩ := and_ h
    obtain ⟨h4, h⟩ := and_ h
    obtain ⟨h5, h⟩ := and_ h
    obtain ⟨h6, h⟩ := and_ h
    obtain ⟨h7, h8⟩ := and_ h
    have hm := c.fa.nm mi m (of_decide_eq_true h1)
    refine ⟨fun pins s σ H Q I ⟨F, φ, ρ, hh, hr, er, g⟩ => ?_⟩
    rw [q_meth] at g
    have hform : methodCallForm (args.length + ([] : List Keyword).length) (backTo cpos (starEach args X.env)) (backToKw cpos (keywordEach [] X.env)) = true := by
      unfold methodCallForm
      rw [nsFew _ _ _ h4]
      have : args.length < 20 := of_decide_eq_true h5
      show (true && true && decide (args.length + 0 + 0 < 30)) = true
      rw [decide_eq_true (by omega)]
      rfl
    refine PySem.W.methodCall_KW (pl := plainOf x X.env) (thn ((ho X W c _ h7).run pins s σ H (fun v H1 => ∃ φ1 h1 d, HR L F φ1 h1 H1 ∧ XT φ H φ1 H1 ∧ Rel L F φ1 H1 d v ∧ GE L F φ1 H1 (match methJ alts mi (insOf d h1) with
      | some j => (evs P orc es ρ h1).bind fun ds h2 => callJ P orc ad j (d :: ds) h2
      | none => .no) Q fun c d H' => W c d σ H') I ⟨F, φ, ρ, hh, hr, er, G.bind g fun d h1 φ1 H1 v e1 t1 hr1 rx g1 => ⟨φ1, h1, d, hr1, t1, rx, g1⟩⟩) fun u s1 ⟨v, H1, I1, rv, φ1, h1, d, hr1, t1, rx, g1⟩ => ?_) ?_
    · split at g1
      · rename_i j ej
        unfold methJ at ej
        split at ej
        · rename_i cl ks vs ei
          split at ej
          · cases ej
          · rename_i hc
            obtain ⟨a, dx, fs, ev, hH, e1, e2⟩ := insOf_ok hr1 rx ei
            subst ev
            have e3 := List.all_eq_true.mp h6 _ (getT_mem ej)
            dsimp only at e3
            split at e3
            · rename_i cl' m' n esn
              obtain ⟨a1, a2⟩ := and_ e3
              obtain ⟨a2, a3⟩ := and_ a2
              have a1 := of_decide_eq_true a1
              have a2 := of_decide_eq_true a2
              have a3 := of_decide_eq_true a3
              subst a1 a2
              obtain ⟨f1, fa, f2, f3⟩ := c.fa.meth X W c.same c.tk j cl m' n [] esn
              obtain rfl : u = Value.ref a := rv
              refine getmeth_ok I1 hH f1 f2 (by rw [← hm]; exact lookNo c.fa.inj e1 (by simpa using hc)) ?_
              exact callA (fd := [d]) (fs := [.ref a]) he c f2.kp f3 h4 h8 I1 hr1 (er.mono t1) (.cons rx .nil) (.cons rfl .nil) a3 g1
            · cases e3
        · cases ej
      · exact (G.no_ g1).elim
    · rw [arm_eval_Call, abBase _ _ _ _ h2]
      have : ∀ ov, methodCall x m apos cpos X.env ov (args.length + ([] : List Keyword).length) (backTo cpos (starEach args X.env)) (backToKw cpos (keywordEach [] X.env)) = _ := fun ov => mcall_line hform h3
      simp only [this]
  · cases h
theorem ev_att {o : E} {kk : Nat} {alts : List (Nat × Nat)} (ho : EvOk T L P orc k o) : EvOk T L P orc k (.att o kk alts) := by
  intro X W c x h
  unfold ck at h
  split at h
  · rename_i x f pos
    obtain ⟨h1, h⟩ := and_ h
    obtain ⟨h2, h⟩ := and_ h
    obtain ⟨h6, h7⟩ := and_ h
    have hm := c.fa.nm kk f (of_decide_eq_true h1)
    clear h1
    refine ⟨fun pins s σ H Q I ⟨F, φ, ρ, hh, hr, er, g⟩ => ?_⟩
    rw [q_att] at g
    refine attr_of (abBase _ _ _ _ h2) (thn ((ho X W c _ h7).run pins s σ H (fun v H1 => ∃ φ1 h1 d, HR L F φ1 h1 H1 ∧ XT φ H φ1 H1 ∧ Rel L F φ1 H1 d v ∧ GE L F φ1 H1 (match propJ alts (insOf d h1) with
      | some j => (callJ P orc false j [d] h1).pur
      | none => R.of (fieldD P.fld kk (insOf d h1)) h1) Q fun c d H' => W c d σ H') I ⟨F, φ, ρ, hh, hr, er, G.bind g fun d h1 φ1 H1 v e1 t1 hr1 rx g1 => ⟨φ1, h1, d, hr1, t1, rx, g1⟩⟩) fun u s1 ⟨v, H1, I1, rv, φ1, h1, d, hr1, t1, rx, g1⟩ => ?_)
    split at g1
    · rename_i j ej
      unfold propJ at ej
      split at ej
      · rename_i cl ks vs ei
        obtain ⟨a, dx, fs, ev, hH, e1, e2⟩ := insOf_ok hr1 rx ei
        subst ev
        have e3 := List.all_eq_true.mp h6 _ (getT_mem ej)
        dsimp only at e3
        split at e3
        · rename_i cl' f' esn
          obtain ⟨a1, a2⟩ := and_ e3
          have a1 := of_decide_eq_true a1
          have a2 := of_decide_eq_true a2
          subst a1 a2
          obtain rfl : u = Value.ref a := rv
          exact c.fa.prop X c.same j cl f' esn pins s1 σ H1 a dx fs Q F φ1 h1 d _ I1 hH hr1 rx g1
        · cases e3
      · cases ej
    · obtain ⟨dv, ed, g2⟩ := of_some g1
      unfold fieldD at ed
      split at ed
      · rename_i cl ks vs ei
        split at ed
        · rename_i hc
          obtain ⟨a, dx, fs, ev, hH, e1, e2⟩ := insOf_ok hr1 rx ei
          subst ev
          obtain ⟨f1, f2⟩ := c.fa.fld cl kk hc
          rw [hm] at f2
          obtain ⟨w, l1, l2⟩ := lookF_ok c.fa.inj e1 e2 ed
          rw [hm] at l1
          obtain rfl : u = Value.ref a := rv
          exact getattr_ok I1 hH f1 f2 l1 fun u' s2 I2 ru => ⟨w, H1, I2, ru, GE.one g2 hr1 l2⟩
        · cases ed
      · cases ed
  · cases h
/-! ### built-ins -/
theorem blt1 {b : Blt} {es : E} {f : List D → HH → R D} {m : Bool} (hf : ∀ ds h, bltD m b ds h = f ds h) {X : Cx} {W : WX} {x : Expr} {tt : TA → TE} (ht : ∀ t σ H Q, tt t σ H Q = tCB (rdL L f) t σ H Q) (hp : PE X x (tt (rdA L W (evs P orc es)))) : PE X x (rdE L W (ev P orc (.blt m b es))) := by
  refine hp.imp fun σ H Q ⟨F, φ, ρ, hh, hr, er, g⟩ => ?_
  rw [ht]
  rw [q_blt] at g
  refine ⟨F, φ, ρ, hh, hr, er, G.bind g fun ds h1 φ1 H1 vs e1 t1 hr1 rs g1 => ?_⟩
  rw [hf] at g1
  exact ⟨F, φ1, h1, ds, _, hr1, rs, g1⟩
theorem ev_blt {m : Bool} {b : Blt} {es : E} (he : EsOk T L P orc k es) : EvOk T L P orc k (.blt m b es) := by
  intro X W c x h
  unfold ck at h
  split at h
  · rename_i f p e rest pos
    obtain ⟨h1, h⟩ := and_ h
    obtain ⟨h2, h⟩ := and_ h
    obtain ⟨h3, h4⟩ := and_ h
    have h1 := of_decide_eq_true h1
    subst h1
    obtain ⟨g1, g2⟩ := glB_ h2
    obtain ⟨n1, n2⟩ := and_ (show (nsB e && nsAll rest) = true from h3)
    have pa := he X W c _ h4
    have hs := sEach e rest X.env n1
    have hn := nsPlain pos X.env rest n2
    have bf := c.fa.bf
    cases b with
    | len => exact blt1 (f := lenD) (fun _ _ => rfl) (fun _ _ _ _ => rfl) (pe_callB (len_ok c.fa.hK) g1 (bf _ (by decide)) boot_len pa (by decide) g2 hs hn)
    | abs => exact blt1 (f := absD) (fun _ _ => rfl) (fun _ _ _ _ => rfl) (pe_callB abs_ok g1 (bf _ (by decide)) boot_abs pa (by decide) g2 hs hn)
    | int => exact blt1 (f := intD) (fun _ _ => rfl) (fun _ _ _ _ => rfl) (pe_callTy int_ok g1 (bf _ (by decide)) boot_int pa (by decide) g2 hs hn)
    | list => exact blt1 (f := listD m) (fun _ _ => rfl) (fun _ _ _ _ => rfl) (pe_callTy (list_ok c.fa.hK m) g1 (bf _ (by decide)) boot_list pa (by decide) g2 hs hn)
    | tuple => exact blt1 (f := tupleD) (fun _ _ => rfl) (fun _ _ _ _ => rfl) (pe_callTy (tuple_ok c.fa.hK) g1 (bf _ (by decide)) boot_tuple pa (by decide) g2 hs hn)
    | sum => exact blt1 (f := sumD) (fun _ _ => rfl) (fun _ _ _ _ => rfl) (pe_callB (sum_ok c.fa.hK c.calm) g1 (bf _ (by decide)) boot_sum pa (by decide) g2 hs hn)
    | any => exact blt1 (f := anyD) (fun _ _ => rfl) (fun _ _ _ _ => rfl) (pe_callB (any_ok c.fa.hK c.calm) g1 (bf _ (by decide)) boot_any pa (by decide) g2 hs hn)
    | all => exact blt1 (f := allD) (fun _ _ => rfl) (fun _ _ _ _ => rfl) (pe_callB (all_ok c.fa.hK c.calm) g1 (bf _ (by decide)) boot_all pa (by decide) g2 hs hn)
    | min => exact blt1 (f := minD) (fun _ _ => rfl) (fun _ _ _ _ => rfl) (pe_callB (min_ok c.fa.hK c.calm) g1 (bf _ (by decide)) boot_min pa (by decide) g2 hs hn)
    | max => exact blt1 (f := maxD) (fun _ _ => rfl) (fun _ _ _ _ => rfl) (pe_callB (max_ok c.fa.hK c.calm) g1 (bf _ (by decide)) boot_max pa (by decide) g2 hs hn)
    | sorted => exact blt1 (f := sortedD m) (fun _ _ => rfl) (fun _ _ _ _ => rfl) (pe_callB (sorted_ok c.fa.hK c.hu m) g1 (bf _ (by decide)) boot_sorted pa (by decide) g2 hs hn)
  · cases h
/-! ### isinstance -/
theorem tyOf_ok {pg : Program} {w : World} {K : PySem.W.Frag} {mg : Str → Option Value} {base : Heap} (fa : Facts T L P orc k pg w K mg base) {F : Fm} {φ : List Addr} {H : Hp} {h : HH} {d : D} {v : V} {t : TyV} (x : HR L F φ h H) (r : Rel L F φ H d v) (e : tyOfD P.nc d h = some t) :
    TyX K H v (tvV L t) ∧ ∀ c, t = .own c → c < P.nc := by
  have tup : ∀ {a : Addr} {vs : List V}, SqT L.K H a vs → TyX K H (.ref a) (.type "tuple") := fun {a vs} q => by
    rcases q with (q | ⟨o, q⟩) | ⟨o, _, _, q1, q2, _⟩
    · exact .base (.tup q)
    · exact .fTuple q
    · exact .kTuple (by rw [fa.hK]; exact q1) q2
  have own : ∀ {a dx : Addr} {fs : List (Str × V)} {c : Nat}, H a = some (.ins (L.cl c) dx fs) → ownV P.nc c = some t → TyX K H (.ref a) (tvV L t) ∧ ∀ c, t = .own c → c < P.nc := fun {a dx fs c} q e => by
    unfold ownV at e
    split at e
    · rename_i hb
      cases e
      have hb : c < P.nc := Nat.le_of_ble_eq_true hb
      have i := fa.isc c hb
      exact ⟨.base (.ins q i.cl i.ha i.hn i.ht i.hm), fun c' z => by cases z; exact hb⟩
    · cases e
  cases r with
  | non => cases e; exact ⟨.base .non, fun _ z => by cases z⟩
  | bl b => cases e; exact ⟨.base (.bl _), fun _ z => by cases z⟩
  | int b => cases e; exact ⟨.base (.int _), fun _ z => by cases z⟩
  | str b => cases e; exact ⟨.base (.str _), fun _ z => by cases z⟩
  | cls _ => cases e
  | lam _ _ _ _ _ => cases e
  | wd _ => cases e
  | tup q r => cases e; exact ⟨tup q, fun _ z => by cases z⟩
  | wtup e1 e2 e3 e4 e5 e6 r => cases e; exact ⟨tup (.inr ⟨_, _, _, e1, e2, e4, e5, e6⟩), fun _ z => by cases z⟩
  | lst q n f r => cases e; exact ⟨.base (.lst q), fun _ z => by cases z⟩
  | borK e1 e2 e3 e4 e5 e6 r => cases e; exact ⟨.kList (by rw [fa.hK]; exact e1) e2, fun _ z => by cases z⟩
  | bor q n f r =>
    cases e
    rcases q with q | ⟨o, q⟩
    · exact ⟨.base (.lst q), fun _ z => by cases z⟩
    · exact ⟨.base (.frz q), fun _ z => by cases z⟩
  | dct q n f kk r => cases e; exact ⟨.base (.dK q), fun _ z => by cases z⟩
  | obj q n f kk r => exact own q e
  | @ref n a q =>
    obtain ⟨o, e1, ro⟩ := x.ro q
    have e : (match h[n]? with
      | some o => tyOfO P.nc o
      | none => none) = some t := e
    rw [e1] at e
    cases ro with
    | lst q2 r => cases e; exact ⟨.base (.lst q2), fun _ z => by cases z⟩
    | dct q2 kk r => cases e; exact ⟨.base (.dK q2), fun _ z => by cases z⟩
    | ins q2 kk r => exact own q2 e
theorem tyV_rel (L : Lk) (u : Ty) : RelV (tyVV L u) (tyV' L u) ∧ ClsV (tyVV L u) (tyV' L u) := by
  cases u <;> exact ⟨rfl, by constructor⟩
theorem prMap (L : Lk) : ∀ ts : List Ty, Paired ClsV (ts.map (tyVV L)) (ts.map (tyV' L))
  | [] => .nil
  | u :: us => .cons (tyV_rel L u).2 (prMap L us)
/-- a type's name as an expression -/
theorem ty_name {X : Cx} {W : WX} (c : CX1 T L P orc k X W) {u : Ty} {x : Str} {p : Pos} (h1 : tyName T.cn u = x) (hu : ∀ i, u = .cls i → ∃ x, T.cn[i]? = some x) (h2 : glB X.env.scope x = true) : PE X (.Name x p) (tC (tyVV L u)) := by
  obtain ⟨g1, g2⟩ := glB_ h2
  subst h1
  cases u with
  | int => exact pe_bltn (x := "int") g1 (c.fa.bf _ (by decide)) boot_int rfl
  | bool => exact pe_bltn (x := "bool") g1 (c.fa.bf _ (by decide)) boot_bool rfl
  | str => exact pe_bltn (x := "str") g1 (c.fa.bf _ (by decide)) boot_str rfl
  | list => exact pe_bltn (x := "list") g1 (c.fa.bf _ (by decide)) boot_list rfl
  | tuple => exact pe_bltn (x := "tuple") g1 (c.fa.bf _ (by decide)) boot_tuple rfl
  | dict => exact pe_bltn (x := "dict") g1 (c.fa.bf _ (by decide)) boot_dict rfl
  | cls i =>
    obtain ⟨x, hx⟩ := hu i rfl
    have e : tyName T.cn (.cls i) = x := by
      show T.cn.getD i "?" = x
      rw [List.getD_eq_getElem?_getD, hx] <;> rfl
    rw [e] at g1 g2 ⊢
    exact pe_glob g1 (c.fa.ncl i x hx) rfl g2
theorem tys_ok {X : Cx} {W : WX} (c : CX1 T L P orc k X W) : ∀ {us : List Ty} {xs : List Expr}, ckTys T us xs = true → (xs.all fun z => match z with
        | .Name n _ => glB X.env.scope n
        | _ => false) = true → PA X xs (fun _ H Q => Q (us.map (tyVV L)) H) ∧ nsAll xs = true
  | [], [], _, _ => ⟨pa_nil, rfl⟩
  | [], _ :: _, h, _ => by
    unfold ckTys at h
    cases h
  | u :: us, [], h, _ => by
    unfold ckTys at h
    cases h
  | u :: us, x :: xs, h, g => by
    cases x with
    | Name n p =>
      unfold ckTys at h
      obtain ⟨h1, h2⟩ := and_ h
      obtain ⟨h3, h1⟩ := and_ h1
      rw [List.all_cons] at g
      obtain ⟨g1, g2⟩ := and_ g
      obtain ⟨q1, q2⟩ := tys_ok c h2 g2
      refine ⟨(pa_cons (ty_name c (of_decide_eq_true h3) (fun i e => ?_) g1) q1 (sEach _ _ _ rfl)).imp fun σ H Q q => q, q2⟩
      subst e
      dsimp only at h1
      exact Option.isSome_iff_exists.mp h1
    | _ =>
      unfold ckTys at h
      cases h
theorem tys_cls : ∀ {us : List Ty} {xs : List Expr}, ckTys T us xs = true → ∀ u ∈ us, ∀ i, u = .cls i → ∃ x, T.cn[i]? = some x
  | [], _, _, u, hu, _, _ => by cases hu
  | v :: us, [], h, _, _, _, _ => by
    unfold ckTys at h
    cases h
  | v :: us, x :: xs, h, u, hu, i, e => by
    cases x with
    | Name n p =>
      unfold ckTys at h
      obtain ⟨h1, h2⟩ := and_ h
      obtain ⟨h3, h1⟩ := and_ h1
      rcases List.mem_cons.mp hu with z | z
      · subst z
        subst e
        exact Option.isSome_iff_exists.mp h1
      · exact tys_cls h2 u z i e
    | _ =>
      unfold ckTys at h
      cases h
theorem ev_isi {a : E} {ts : List Ty} (ha : EvOk T L P orc k a) : EvOk T L P orc k (.isi a ts) := by
  intro X W c x h
  unfold ck at h
  split at h
  · rename_i f p y t pos
    obtain ⟨h1, h⟩ := and_ h
    obtain ⟨h2, h⟩ := and_ h
    obtain ⟨h3, h⟩ := and_ h
    obtain ⟨h4, h5⟩ := and_ h
    have h1 := of_decide_eq_true h1
    subst h1
    obtain ⟨g1, g2⟩ := glB_ h2
    have hy := ha X W c _ h4
    -- the answers
    have kitA : ∀ (tv : TyV), (∀ c, tv = .own c → c < P.nc) → ∀ us : List Ty, (∀ u ∈ us, ∀ i, u = .cls i → ∃ x, T.cn[i]? = some x) → PySem.W.kitAny X.K (tvV L tv) (us.map (tyV' L)) = some (us.any (tyIs tv)) := fun tv ht us => by
      induction us with
      | nil => intro _; rfl
      | cons u us ih =>
        intro hu
        refine kitAny_cons (c.fa.kit tv u ht (hu u (List.mem_cons_self ..))) (r := (u :: us).any (tyIs tv)) (fun e => ?_) (fun e => ?_)
        · rw [ih (fun u hm => hu u (List.mem_cons_of_mem _ hm)), List.any_cons, e] <;> rfl
        · rw [List.any_cons, e] <;> rfl
    have allC : ∀ {us : List Ty} {xs : List Expr}, ckTys T us xs = true → ∀ u ∈ us, ∀ i, u = .cls i → ∃ x, T.cn[i]? = some x := tys_cls
    split at h5
    · rename_i l kk tp
      obtain ⟨h50, h5⟩ := and_ h5
      obtain ⟨h5, h6⟩ := and_ h5
      obtain ⟨q1, q2⟩ := tys_ok c h5 h6
      refine (pe_callB call_isiT g1 (c.fa.bf _ (by decide)) boot_isinstance (pa_cons hy (pa_cons (pe_tup q1) pa_nil (sEach _ _ _ rfl)) (sEach _ _ _ h3)) (by decide) g2 (sEach _ _ _ h3) (nsPlain _ _ _ rfl)).imp fun σ H Q ⟨F, φ, ρ, hh, hr, er, g⟩ => ?_
      rw [q_isi] at g
      refine ⟨F, φ, ρ, hh, hr, er, G.bind g fun d h1 φ1 H1 v e1 t1 hr1 rx g1 => ⟨?_, fun tp hp => ?_⟩⟩
      · rw [List.length_map, sizeLine_eq]
        have := Nat.le_of_ble_eq_true h50
        omega
      · have t2 : XT φ1 H1 φ1 (upd H1 tp (.tup (ts.map (tyVV L)))) := XT.fresh hp
        have hr2 : HR L F φ1 h1 (upd H1 tp (.tup (ts.map (tyVV L)))) := hr1.fresh hp
        obtain ⟨b, e, q⟩ := mapbl hr2 (G.mono t2 g1)
        unfold isiD at e
        cases et : tyOfD P.nc d h1 with
        | none =>
          rw [et] at e
          cases e
        | some tv =>
          rw [et] at e
          cases (show some (ts.any (tyIs tv)) = some b from e)
          obtain ⟨z1, z2⟩ := tyOf_ok c.fa hr2 (rx.mono t2) et
          refine ⟨v, tp, _, tvV L tv, ts.map (tyV' L), _, rfl, upd_same, ?_, z1, kitA tv z2 ts (allC h5), q⟩
          exact prMap L ts
    · rename_i n tp
      obtain ⟨h5, h6⟩ := and_ h5
      cases ts with
      | nil =>
        unfold ckTys at h5
        cases h5
      | cons u us =>
        unfold ckTys at h5
        obtain ⟨h7, h8⟩ := and_ h5
        obtain ⟨h9, h7⟩ := and_ h7
        have e0 : us = [] := by
          cases us with
          | nil => rfl
          | cons _ _ =>
            unfold ckTys at h8
            cases h8
        subst e0
        have hu : ∀ i, u = .cls i → ∃ x, T.cn[i]? = some x := fun i e => by
          subst e
          exact Option.isSome_iff_exists.mp h7
        refine (pe_callB call_isi g1 (c.fa.bf _ (by decide)) boot_isinstance (pa_cons hy (pa_cons (ty_name c (of_decide_eq_true h9) hu h6) pa_nil (sEach _ _ _ rfl)) (sEach _ _ _ h3)) (by decide) g2 (sEach _ _ _ h3) (nsPlain _ _ _ rfl)).imp fun σ H Q ⟨F, φ, ρ, hh, hr, er, g⟩ => ?_
        rw [q_isi] at g
        refine ⟨F, φ, ρ, hh, hr, er, G.bind g fun d h1 φ1 H1 v e1 t1 hr1 rx g1 => ?_⟩
        obtain ⟨b, e, q⟩ := mapbl hr1 g1
        unfold isiD at e
        cases et : tyOfD P.nc d h1 with
        | none =>
          rw [et] at e
          cases e
        | some tv =>
          rw [et] at e
          cases (show some ([u].any (tyIs tv)) = some b from e)
          obtain ⟨z1, z2⟩ := tyOf_ok c.fa hr1 rx et
          refine ⟨v, tyVV L u, tvV L tv, tyV' L u, _, rfl, (tyV_rel L u).2, z1, c.fa.kit tv u z2 hu, ?_⟩
          rw [List.any_cons, List.any_nil, Bool.or_false] at q
          exact q
    · cases h5
  · cases h
/-! ### methods of lists -/
theorem isRcv_ok {F : Fm} {φ : List Addr} {H : Hp} {h : HH} {d : D} {v : V} (x : HR L F φ h H) (r : Rel L F φ H d v) (e : (listOf d h).isSome = true) : tyV L.K "list" v H := by
  obtain ⟨l, e⟩ := Option.isSome_iff_exists.mp e
  obtain ⟨a, vs, ev, q, _⟩ := listOf_ok x r e
  subst ev
  exact .inl ⟨rfl, vs, q⟩
theorem bm_run {o es : E} {x : Expr} {name : Str} {id TT : String} {apos cpos : Pos} {args : List Expr} {X : Cx} {W : WX} (ho : EvOk T L P orc k o) (he : EsOk T L P orc k es) (c : CX1 T L P orc k X W) (pa : PlainAttrs TT) (slot : Slot TT name id) (hty : typeOf (.builtin id) = pure (.type "method_descriptor"))
    {f : D → List D → HH → R D} {sel : D → HH → Bool} (hm : MtR X id (rdM L f)) (hsel : ∀ {F : Fm} {φ : List Addr} {H : Hp} {h : HH} {d : D} {v : V}, HR L F φ h H → Rel L F φ H d v → sel d h = true → tyV X.K TT v H)
    (h1 : abB x = true) (h2 : (apos.endLine == cpos.line) = true) (h3 : nsAll args = true) (h4 : args.length < 20) (h5 : ck T X.N o X.env.scope x = true) (h6 : cks T X.N es X.env.scope args = true) :
    PE X (.Call (.Attribute x name apos) args [] cpos) (rdE L W (fun ρ h => (ev P orc o ρ h).bind fun x h1 => match sel x h1 with
      | true => (evs P orc es ρ h1).bind fun ds h2 => f x ds h2
      | false => .no)) := by
  cases args with
  | nil =>
    refine (pe_bm0 pa slot hty hm (ho X W c _ h5) (abBase _ _ _ _ h1) h2).imp fun σ H Q ⟨F, φ, ρ, hh, hr, er, g⟩ => ?_
    refine ⟨F, φ, ρ, hh, hr, er, G.bind g fun d h1 φ1 H1 v e1 t1 hr1 rx g1 => ?_⟩
    split at g1
    · rename_i es1
      refine ⟨hsel hr1 rx es1, ?_⟩
      have e0 : es = .nil := by
        cases es <;> first | rfl | (unfold cks at h6; cases h6)
      subst e0
      rw [q_nil] at g1
      exact ⟨F, φ1, h1, d, [], _, hr1, rx, .nil, g1⟩
    · exact (G.no_ g1).elim
  | cons e rest =>
    obtain ⟨n1, n2⟩ := and_ (show (nsB e && nsAll rest) = true from h3)
    refine (pe_bm pa slot hty hm (ho X W c _ h5) (he X W c _ h6) (abBase _ _ _ _ h1) ?_ h2 (sEach _ _ _ n1) (nsPlain _ _ _ n2)).imp fun σ H Q ⟨F, φ, ρ, hh, hr, er, g⟩ => ?_
    · rw [nsFew _ _ _ h3]
      show (true && true && decide ((e :: rest).length + 0 + 0 < 30)) = true
      rw [decide_eq_true (by omega)] <;> rfl
    · refine ⟨F, φ, ρ, hh, hr, er, G.bind g fun d h1 φ1 H1 v e1 t1 hr1 rx g1 => ?_⟩
      split at g1
      · rename_i es1
        refine ⟨hsel hr1 rx es1, ?_⟩
        refine ⟨F, φ1, ρ, h1, hr1, er.mono t1, G.bind g1 fun ds h2 φ2 H2 vs e2 t2 hr2 rs g2 => ?_⟩
        exact ⟨F, φ2, h2, d, ds, _, hr2, rx.mono t2, rs, g2⟩
      · exact (G.no_ g1).elim
theorem ev_bm {b : BM} {o es : E} (ho : EvOk T L P orc k o) (he : EsOk T L P orc k es) : EvOk T L P orc k (.bm b o es) := by
  intro X W c x h
  unfold ck at h
  split at h
  · rename_i x m apos args cpos
    obtain ⟨h1, h⟩ := and_ h
    obtain ⟨h2, h⟩ := and_ h
    obtain ⟨h3, h⟩ := and_ h
    obtain ⟨h4, h⟩ := and_ h
    obtain ⟨h5, h⟩ := and_ h
    obtain ⟨h6, h7⟩ := and_ h
    have h1 := of_decide_eq_true h1
    have h5 := of_decide_eq_true h5
    subst h1
    have sl : ∀ {F : Fm} {φ : List Addr} {H : Hp} {h : HH} {d : D} {v : V}, HR L F φ h H → Rel L F φ H d v → (listOf d h).isSome = true → tyV X.K "list" v H := fun x r e => by
      rw [c.fa.hK]
      exact isRcv_ok x r e
    have fin : ∀ {f : D → List D → HH → R D} {sel : D → HH → Bool}, (∀ d h, isRcv b d h = sel d h) → (∀ d ds h, bmD b d ds h = f d ds h) → ∀ {y : Expr}, PE X y (rdE L W (fun ρ h => (ev P orc o ρ h).bind fun x h1 => match sel x h1 with
      | true => (evs P orc es ρ h1).bind fun ds h2 => f x ds h2
      | false => .no)) → PE X y (rdE L W (ev P orc (.bm b o es))) := fun {f sel} e1 e2 {y} p => by
      refine p.imp fun σ H Q ⟨F, φ, ρ, hh, hr, er, g⟩ => ⟨F, φ, ρ, hh, hr, er, ?_⟩
      rw [q_bm] at g
      simp only [e1, e2] at g
      exact g
    cases b with
    | append => exact fin (fun _ _ => rfl) (fun _ _ _ => rfl) (bm_run (f := appendD) (sel := fun d h => (listOf d h).isSome) ho he c F.plainAttrs_list F.slot_list_append F.type_list_append append_ok sl h2 h3 h4 h5 h6 h7)
    | pop => exact fin (fun _ _ => rfl) (fun _ _ _ => rfl) (bm_run (f := popD) (sel := fun d h => (listOf d h).isSome) ho he c F.plainAttrs_list F.slot_list_pop F.type_list_pop pop_ok sl h2 h3 h4 h5 h6 h7)
    | insert => exact fin (fun _ _ => rfl) (fun _ _ _ => rfl) (bm_run (f := insertD) (sel := fun d h => (listOf d h).isSome) ho he c F.plainAttrs_list F.slot_list_insert F.type_list_insert insert_ok sl h2 h3 h4 h5 h6 h7)
    | clear => exact fin (fun _ _ => rfl) (fun _ _ _ => rfl) (bm_run (f := clearD) (sel := fun d h => (listOf d h).isSome) ho he c F.plainAttrs_list F.slot_list_clear F.type_list_clear clear_ok sl h2 h3 h4 h5 h6 h7)
    | reverse => exact fin (fun _ _ => rfl) (fun _ _ _ => rfl) (bm_run (f := reverseD) (sel := fun d h => (listOf d h).isSome) ho he c F.plainAttrs_list F.slot_list_reverse F.type_list_reverse reverse_ok sl h2 h3 h4 h5 h6 h7)
    | index =>
      have pL := bm_run (f := lindexD) (sel := fun d h => (listOf d h).isSome) (cpos := cpos) (apos := apos) ho he c F.plainAttrs_list F.slot_list_index F.type_list_index (lindex_ok c.fa.hK c.hu) sl h2 h3 h4 h5 h6 h7
      have pT := bm_run (f := tindexD) (sel := fun d _ => match d with
        | .wtup _ => true
        | _ => false) (cpos := cpos) (apos := apos) ho he c F.plainAttrs_tuple F.slot_tuple_index F.type_tuple_index (tindex_ok c.fa.hK c.hu) (fun {F φ H h d v} x r e => by
          cases r with
          | wtup e1 e2 e3 e4 e5 e6 r => exact .inr (.inl ⟨rfl, _, by rw [c.fa.hK]; exact e1, e2, e3⟩)
          | _ => cases e) h2 h3 h4 h5 h6 h7
      refine (pL.or pT).imp fun σ H Q ⟨F, φ, ρ, hh, hr, er, g⟩ => ?_
      rw [q_bm] at g
      cases eo : ev P orc o ρ hh with
      | ok d h1 =>
        rw [eo] at g
        cases d with
        | wtup l =>
          refine .inr ⟨F, φ, ρ, hh, hr, er, ?_⟩
          simp only [eo]
          exact g
        | _ =>
          refine .inl ⟨F, φ, ρ, hh, hr, er, ?_⟩
          simp only [eo]
          exact g
      | exc _ _ _ _ =>
        refine .inl ⟨F, φ, ρ, hh, hr, er, ?_⟩
        rw [eo] at g
        simp only [eo]
        exact g
      | no =>
        rw [eo] at g
        exact (G.no_ g).elim
  · cases h
end
end MV

set_option maxRecDepth 100000
set_option maxHeartbeats 1000000
/-! VHk: methods with keywords. -/
namespace MV
open PySem PySem.Spec PyProof.Rows L2
section
variable {T : Tb} {L : Lk} {P : Prog} {orc : Orc} {k : Nat}
theorem ev_methk {ad : Bool} {mi : Nat} {o es ks : E} {alts : List (Nat × Nat)} (ho : EvOk T L P orc k o) (he : EsOk T L P orc k es) (hks : KsOk T L P orc k ks) : EvOk T L P orc k (.methk ad mi o alts es ks) := by
  intro X W c x h
  unfold ck at h
  split at h
  · rename_i x m apos args kws cpos
    obtain ⟨h1, h⟩ := and_ h
    obtain ⟨h2, h⟩ := and_ h
    obtain ⟨h3, h⟩ := and_ h
    obtain ⟨h4, h⟩ := and_ h
    obtain ⟨h5, h⟩ := and_ h
    obtain ⟨hkw, h⟩ := and_ h
    obtain ⟨h6, h⟩ := and_ h
    obtain ⟨h7, h8⟩ := and_ h
    have hm := c.fa.nm mi m (of_decide_eq_true h1)
    refine ⟨fun pins s σ H Q I ⟨F, φ, ρ, hh, hr, er, g⟩ => ?_⟩
    rw [q_methk] at g
    have hform : methodCallForm (args.length + kws.length) (backTo cpos (starEach args X.env)) (backToKw cpos (keywordEach kws X.env)) = true := by
      unfold methodCallForm
      rw [nsFew _ _ _ h4, kwAll _ _ _ hkw]
      have : args.length + kws.length < 20 := of_decide_eq_true h5
      show (true && true && decide (_ < 30)) = true
      rw [decide_eq_true (by split <;> omega)]
      rfl
    refine PySem.W.methodCall_KW (pl := plainOf x X.env) (thn ((ho X W c _ h7).run pins s σ H (fun v H1 => ∃ φ1 h1 d, HR L F φ1 h1 H1 ∧ XT φ H φ1 H1 ∧ Rel L F φ1 H1 d v ∧ GE L F φ1 H1 (match methJ alts mi (insOf d h1) with
      | some j => (evs P orc es ρ h1).bind fun ds h2 => (evs P orc ks ρ h2).bind fun es h3 => callJ P orc ad j ([d] ++ (ds ++ es)) h3
      | none => .no) Q fun c d H' => W c d σ H') I ⟨F, φ, ρ, hh, hr, er, G.bind g fun d h1 φ1 H1 v e1 t1 hr1 rx g1 => ⟨φ1, h1, d, hr1, t1, rx, g1⟩⟩) fun u s1 ⟨v, H1, I1, rv, φ1, h1, d, hr1, t1, rx, g1⟩ => ?_) ?_
    · split at g1
      · rename_i j ej
        unfold methJ at ej
        split at ej
        · rename_i cl kks vs ei
          split at ej
          · cases ej
          · rename_i hc
            obtain ⟨a, dx, fs, ev, hH, e1, e2⟩ := insOf_ok hr1 rx ei
            subst ev
            have e3 := List.all_eq_true.mp h6 _ (getT_mem ej)
            dsimp only at e3
            split at e3
            · rename_i cl' m' n names esn
              obtain ⟨a1, a2⟩ := and_ e3
              obtain ⟨a2, a3⟩ := and_ a2
              obtain ⟨a3, a4⟩ := and_ a3
              have a1 := of_decide_eq_true a1
              have a2 := of_decide_eq_true a2
              have a3 := of_decide_eq_true a3
              subst a1 a2
              obtain ⟨f1, fa, f2, f3⟩ := c.fa.meth X W c.same c.tk j cl m' n names esn
              obtain rfl : u = Value.ref a := rv
              refine getmeth_ok I1 hH f1 f2 (by rw [← hm]; exact lookNo c.fa.inj e1 (by simpa using hc)) ?_
              exact callAK (fd := [d]) (fs := [.ref a]) he hks c f2.kp f3 h4 h8 a4 I1 hr1 (er.mono t1) (.cons rx .nil) (.cons rfl .nil) a3 g1
            · cases e3
        · cases ej
      · exact (G.no_ g1).elim
    · rw [arm_eval_Call, abBase _ _ _ _ h2]
      have : ∀ ov, methodCall x m apos cpos X.env ov (args.length + kws.length) (backTo cpos (starEach args X.env)) (backToKw cpos (keywordEach kws X.env)) = _ := fun ov => mcall_line hform h3
      simp only [this]
  · cases h
end
end MV

set_option maxRecDepth 100000
set_option maxHeartbeats 1000000
/-! VHz: classes as values, class methods, calls of classes at hand. -/
namespace MV
open PySem PySem.Spec PyProof.Rows L2
section
variable {T : Tb} {L : Lk} {P : Prog} {orc : Orc} {k : Nat}
theorem ev_kn {c : Nat} : EvOk T L P orc k (.kn c) := by
  intro X W cx x h
  unfold ck at h
  split at h
  · rename_i y p
    obtain ⟨h1, h2⟩ := and_ h
    obtain ⟨g1, g2⟩ := glB_ h2
    have h1 := of_decide_eq_true h1
    have e1 := cx.fa.ncl c y h1
    refine (pe_glob (v := .ref (L.cl c)) g1 e1 rfl g2).imp fun σ H Q ⟨F, φ, ρ, hh, hr, er, g⟩ => ?_
    rw [q_kn] at g
    exact GE.one g hr (.cls c)
  · cases h
theorem clsJ_ {alts : List (Nat × Nat)} {d : D} {j : Nat} (e : clsJ alts d = some j) : ∃ c, d = .cls c ∧ getT alts c = some j := by
  unfold clsJ at e
  split at e
  · exact ⟨_, rfl, e⟩
  · cases e
theorem callAM {X : Cx} {W : WX} {pos : Pos} {f C q : Addr} {n j : Nat} {names : List Str} {args : List Expr} {kws : List Keyword} {pins : List (Addr × Obj)} {s : Shared} {σ : L2.St} {H : Hp} {Q : VK} {F : Fm} {φ : List Addr} {ρ : Env} {h : HH} {es ks : E} {ad : Bool} {fd : D}
    (he : EsOk T L P orc k es) (hks : KsOk T L P orc k ks) (c : CX1 T L P orc k X W) (hf : PySem.W.fnIn X.K f = true) (cv : CallM L P orc X W f C n names j) (hn : nsAll args = true) (h1 : cks T X.N es X.env.scope args = true) (h5 : ckK T X.N ks X.env.scope kws names = true)
    (I : Inv X ((q, PySem.W.methodObj (.ref f) (.ref C)) :: pins) σ H s) (hr : HR L F φ h H) (er : ER L F φ H ρ σ) (rf : Rel L F φ H fd (.ref C)) (hl : args.length + 1 = n)
    (g : GE L F φ H ((evs P orc es ρ h).bind fun ds h1 => (evs P orc ks ρ h1).bind fun es h2 => callJ P orc ad j ([fd] ++ (ds ++ es)) h2) Q fun c d H' => W c d σ H') :
    wpAny (model X.prog X.w) X.A (callWith pos (.ref q) [] (backTo pos (starEach args X.env)) (backToKw pos (keywordEach kws X.env))) (EP X pins σ Q) X.xe s := by
  obtain ⟨pk, pf⟩ := hks X W c kws names h5
  obtain ⟨k1, k2, k3⟩ := pf pos
  have fin : ∀ {us : List Value} {s1 : Shared} {vs : List V} {H1 : Hp} {φ1 : List Addr} {h1 : HH} {ds : List D}, Inv X ((q, PySem.W.methodObj (.ref f) (.ref C)) :: pins) σ H1 s1 → Vals vs us → HR L F φ1 h1 H1 → ER L F φ1 H1 ρ σ → Rel L F φ1 H1 fd (.ref C) → Rels L F φ1 H1 ds vs → ds.length = args.length →
      GE L F φ1 H1 ((evs P orc ks ρ h1).bind fun es h2 => callJ P orc ad j ([fd] ++ (ds ++ es)) h2) Q (fun c d H' => W c d σ H') →
      wpAny (model X.prog X.w) X.A (evalAll ((backToKw pos (keywordEach kws X.env)).map (·.2))) (fun zs s₂ => PySem.W.MethP X.K q f (.ref C) s₂.heap ∧ wpAny (model X.prog X.w) X.A (call (.ref q) ([] ++ us) (((backToKw pos (keywordEach kws X.env)).filterMap (·.1)).zip zs)) (EP X pins σ Q) X.xe s₂) X.xe s1 := fun {us s1 vs H1 φ1 h1 ds} I1 rv hr1 er1 rf1 rs el g1 => by
    refine thn (pk.run pos _ s1 σ H1 (fun zs H2 => zs.length = names.length ∧ ∃ φ2 h2 es, HR L F φ2 h2 H2 ∧ XT φ1 H1 φ2 H2 ∧ Rels L F φ2 H2 es zs ∧ GE L F φ2 H2 (callJ P orc ad j ([fd] ++ (ds ++ es)) h2) Q fun c d H' => W c d σ H') I1 ⟨F, φ1, ρ, h1, hr1, er1, G.bind g1 fun es h2 φ2 H2 zs e2 t2 hr2 rz g2 => ⟨by rw [← rz.length]; exact kvs_len h5 e2, φ2, h2, es, hr2, t2, rz, g2⟩⟩) fun zs s2 ⟨ws, H2, I2, rz, hz, q⟩ => ⟨⟨ClX.pin_at I2, I2.kIn⟩, ?_⟩
    rw [k2]
    obtain ⟨φ2, h2, es', hr2, t2, rzs, g2⟩ := q
    refine cv ad pins s2 σ H2 _ vs ws us zs Q F φ2 h2 ([fd] ++ (ds ++ es')) I2 rv rz ?_ hz hr2 ?_ g2
    · rw [← rs.length, el]
      exact hl
    · exact .cons (rf1.mono t2) ((rs.mono t2).append rzs)
  cases args with
  | nil =>
    have e0 : es = .nil := by
      cases es <;> first | rfl | (unfold cks at h1; cases h1)
    subst e0
    rw [q_nil] at g
    exact PySem.W.callWith_of (P := PySem.W.MethP X.K q f (.ref C)) (by show (false || _) = false; rw [k3] <;> rfl) (PySem.W.keeps_M hf) (evalArgs_kw2_nil k1 (fin (vs := []) (ds := []) I .nil hr er rf .nil rfl g))
  | cons e rest =>
    obtain ⟨n1, n2⟩ := and_ (show (nsB e && nsAll rest) = true from hn)
    refine PySem.W.callWith_of (P := PySem.W.MethP X.K q f (.ref C)) ?_ (PySem.W.keeps_M hf) (evalArgs_kw2 k1 (thn ((he X W c _ h1).run pos _ s σ H (fun vs H1 => ∃ φ1 h1 ds, HR L F φ1 h1 H1 ∧ XT φ H φ1 H1 ∧ Rels L F φ1 H1 ds vs ∧ ds.length = (e :: rest).length ∧ GE L F φ1 H1 ((evs P orc ks ρ h1).bind fun es h2 => callJ P orc ad j ([fd] ++ (ds ++ es)) h2) Q fun c d H' => W c d σ H') I
      ⟨F, φ, ρ, h, hr, er, G.bind g fun ds h2 φ1 H1 vs e1 t1 hr1 rs g1 => ⟨φ1, h2, ds, hr1, t1, rs, evs_len h1 hn e1, g1⟩⟩) fun us s1 ⟨vs, H1, I1, r1, φ1, h2, ds, hr1, t1, rs, el, g1⟩ => fin I1 r1 hr1 (er.mono t1) (rf.mono t1) rs el g1) (sEach _ _ _ n1))
    rw [k3, sEach _ _ _ n1]
    show ((false || (backTo pos (starEach rest X.env)).any (·.1)) || false) = false
    rw [nsPlain _ _ _ n2] <;> rfl
theorem cls_ref {F : Fm} {φ : List Addr} {H : Hp} {c : Nat} {v : V} (r : Rel L F φ H (.cls c) v) : v = .ref (L.cl c) := by
  cases r
  rfl
theorem ev_cmeth {ad : Bool} {mi : Nat} {o es ks : E} {alts : List (Nat × Nat)} (ho : EvOk T L P orc k o) (he : EsOk T L P orc k es) (hks : KsOk T L P orc k ks) : EvOk T L P orc k (.cmeth ad mi o alts es ks) := by
  intro X W c x h
  unfold ck at h
  split at h
  · rename_i x m apos args kws cpos
    obtain ⟨h1, h⟩ := and_ h
    obtain ⟨h2, h⟩ := and_ h
    obtain ⟨h3, h⟩ := and_ h
    obtain ⟨h4, h⟩ := and_ h
    obtain ⟨h5, h⟩ := and_ h
    obtain ⟨hkw, h⟩ := and_ h
    obtain ⟨h6, h⟩ := and_ h
    obtain ⟨h7, h8⟩ := and_ h
    refine ⟨fun pins s σ H Q I ⟨F, φ, ρ, hh, hr, er, g⟩ => ?_⟩
    rw [q_cmeth] at g
    have hform : methodCallForm (args.length + kws.length) (backTo cpos (starEach args X.env)) (backToKw cpos (keywordEach kws X.env)) = true := by
      unfold methodCallForm
      rw [nsFew _ _ _ h4, kwAll _ _ _ hkw]
      have : args.length + kws.length < 20 := of_decide_eq_true h5
      show (true && true && decide (_ < 30)) = true
      rw [decide_eq_true (by split <;> omega)]
      rfl
    refine PySem.W.methodCall_KW (pl := plainOf x X.env) (thn ((ho X W c _ h7).run pins s σ H (fun v H1 => ∃ φ1 h1 d, HR L F φ1 h1 H1 ∧ XT φ H φ1 H1 ∧ Rel L F φ1 H1 d v ∧ GE L F φ1 H1 (match clsJ alts d with
      | some j => (evs P orc es ρ h1).bind fun ds h2 => (evs P orc ks ρ h2).bind fun es h3 => callJ P orc ad j ([d] ++ (ds ++ es)) h3
      | none => .no) Q fun c d H' => W c d σ H') I ⟨F, φ, ρ, hh, hr, er, G.bind g fun d h1 φ1 H1 v e1 t1 hr1 rx g1 => ⟨φ1, h1, d, hr1, t1, rx, g1⟩⟩) fun u s1 ⟨v, H1, I1, rv, φ1, h1, d, hr1, t1, rx, g1⟩ => ?_) ?_
    · split at g1
      · rename_i j ej
        obtain ⟨cl, rfl, ej⟩ := clsJ_ ej
        have e3 := List.all_eq_true.mp h6 _ (getT_mem ej)
        dsimp only at e3
        split at e3
        · rename_i cl' m' n names esn
          obtain ⟨a1, a2⟩ := and_ e3
          obtain ⟨a2, a3⟩ := and_ a2
          obtain ⟨a3, a4⟩ := and_ a3
          have a1 := of_decide_eq_true a1
          have a2 := of_decide_eq_true a2
          have a3 := of_decide_eq_true a3
          subst a1 a2
          obtain ⟨mc, p, f, f1, f2, f3⟩ := c.fa.cmet X W c.same c.tk j cl m' n names esn
          obtain rfl := cls_ref rx
          obtain rfl : u = Value.ref (L.cl cl) := rv
          refine ClX.getmethcm_ok I1 f1 f2 fun s2 I2 => ?_
          exact callAM he hks c f2.fi f3 h4 h8 a4 I2 hr1 (er.mono t1) rx a3 g1
        · cases e3
      · exact (G.no_ g1).elim
    · rw [arm_eval_Call, abBase _ _ _ _ h2]
      have : ∀ ov, methodCall x m apos cpos X.env ov (args.length + kws.length) (backTo cpos (starEach args X.env)) (backToKw cpos (keywordEach kws X.env)) = _ := fun ov => mcall_line hform h3
      simp only [this]
  · cases h
theorem ev_ccall {ad : Bool} {o es ks : E} {alts : List (Nat × Nat)} (ho : EvOk T L P orc k o) (he : EsOk T L P orc k es) (hks : KsOk T L P orc k ks) : EvOk T L P orc k (.ccall ad o alts es ks) := by
  intro X W c x h
  unfold ck at h
  split at h
  · rename_i f q args kws cpos
    obtain ⟨h4, h⟩ := and_ h
    obtain ⟨h6, h⟩ := and_ h
    obtain ⟨h7, h8⟩ := and_ h
    refine ⟨fun pins s σ H Q I ⟨F, φ, ρ, hh, hr, er, g⟩ => ?_⟩
    rw [q_ccall] at g
    refine wpAny_Call_Name_kw (thn ((ho X W c _ h7).run pins s σ H (fun v H1 => ∃ φ1 h1 d, HR L F φ1 h1 H1 ∧ XT φ H φ1 H1 ∧ Rel L F φ1 H1 d v ∧ GE L F φ1 H1 (match clsJ alts d with
      | some j => (evs P orc es ρ h1).bind fun ds h2 => (evs P orc ks ρ h2).bind fun es h3 => callJ P orc ad j (ds ++ es) h3
      | none => .no) Q fun c d H' => W c d σ H') I ⟨F, φ, ρ, hh, hr, er, G.bind g fun d h1 φ1 H1 v e1 t1 hr1 rx g1 => ⟨φ1, h1, d, hr1, t1, rx, g1⟩⟩) fun u s1 ⟨v, H1, I1, rv, φ1, h1, d, hr1, t1, rx, g1⟩ => ?_)
    split at g1
    · rename_i j ej
      obtain ⟨cl, rfl, ej⟩ := clsJ_ ej
      have e3 := List.all_eq_true.mp h6 _ (getT_mem ej)
      dsimp only at e3
      split at e3
      · rename_i g' n names esn
        obtain ⟨a1, a2⟩ := and_ e3
        obtain ⟨a2, a3⟩ := and_ a2
        have a1 := of_decide_eq_true a1
        have a2 := of_decide_eq_true a2
        obtain ⟨fa, m1, m2, m3⟩ := c.fa.call X W c.same c.tk j g' n names esn
        have m4 := c.fa.ncl cl g' a1
        rw [m1] at m4
        obtain rfl : fa = L.cl cl := by
          injection m4 with m4
          injection m4
        obtain rfl := cls_ref rx
        obtain rfl : u = Value.ref (L.cl cl) := rv
        exact callAK (fd := []) (fs := []) he hks c m2 m3 h4 h8 a3 I1 hr1 (er.mono t1) .nil .nil a2 g1
      · cases e3
    · exact (G.no_ g1).elim
  · cases h
end
end MV

set_option maxRecDepth 100000
set_option maxHeartbeats 1000000
/-! VHo: own operators of two instances of one class. -/
namespace MV
open PySem PySem.Spec PyProof.Rows L2
section
variable {prog : Program} {w : World} {A : Around} {E : Value → Shared → Prop} {s : Shared} {K : PySem.W.Frag} {x C f : Addr} {ox : Obj} {od : Option Obj} {b : Value}
theorem call_objNe {Q : Value → Shared → Prop} (X : K.In s.heap) (I : PySem.W.InstAt s.heap x ox C od) (hm : PySem.W.mroIn K C (.type "object") = some true) (hu : A.units + 1 < cLine)
    (hs : PySem.W.findIn K (.ref C) "__eq__" = some (some (.ref f))) (hf : PySem.W.isFn K (.ref f) = true)
    (h : wpAny (model prog w) A.in1 (call (.ref f) [.ref x, b]) (fun v s' => ∃ k, v = .bool k ∧ Q (.bool (!k)) s') E s) :
    wpAny (model prog w) A (call (.builtin "object.__ne__") [.ref x, b]) Q E s := by
  refine wpAny_call (codeAny_call_builtin F.cmp_object.ne.plain F.cmpEntry_ne (PySem.W.check_slot F.cmpKind_ne F.cmpSplit_ne (I.type.andThen (PySem.W.looks_mroIn X hm)) (F.cmpArgs_ne _ _) ?_))
  unfold Builtin.«object.__ne__»
  have two : wpAny (model prog w) A.in1 (callSpecialIfBound? (.ref x) "__eq__" [b]) (fun r s' => ∃ k, r = some (.bool k) ∧ Q (.bool (!k)) s') E s :=
    PySem.W.ifBound_K X I hs hf (wpAny_mono h (fun v s' z => by
      obtain ⟨k, e, q⟩ := z
      exact ⟨k, by rw [e], q⟩) fun _ _ e => e)
  repeat (first | with_reducible refine wpAny_cRoomFor (A := A.in1) hu ?_ | (with_reducible refine wpAny_bind (m := callSpecialIfBound? _ _ _) (wpAny_mono two (fun r s1 z => ?_) fun _ _ e => e); obtain ⟨k, e, q⟩ := z; subst e) | wp_step)
  exact q
theorem ifBound_objNe {M : Model} {args : List Value} {Q : Option Value → Shared → Prop} (X : K.In s.heap) (I : PySem.W.InstAt s.heap x ox C od) (hs : PySem.W.findIn K (.ref C) "__ne__" = some (some (.builtin "object.__ne__")))
    (h : wpAny M A (call (.builtin "object.__ne__") (.ref x :: args)) (fun v => Q (some v)) E s) : wpAny M A (callSpecialIfBound? (.ref x) "__ne__" args) Q E s := by
  simp only [callSpecialIfBound?, bindSpecialIfBound?]
  refine wpAny_holding (wpAny_bind (wpAny_bind (wpAny_bind (I.type.here ((PySem.W.looks_findIn X hs).here ?_)))))
  refine wpAny_bind (wpAny_askSetting (wpAny_ite ?_))
  have fin : wpAny M A (call (.builtin "object.__ne__") ([.ref x] ++ args) >>= fun v => pure (some v)) Q E s := wpAny_bind (wpAny_mono h (fun v s' h' => wpAny_pure h') fun _ _ h' => h')
  split
  · exact wpAny_bind (wpAny_of_eq (F.cmp_object.ne.bind _) (wpAny_pure (by exact fin)))
  · exact wpAny_tryCatch (wpAny_bind (wpAny_of_eq (F.cmp_object.ne.bind _) (wpAny_pure (by exact fin))))
theorem ne_K {Q : Value → Shared → Prop} (hu : A.units + 1 < cLine) (X : K.In s.heap) (I : PySem.W.InstAt s.heap x ox C od) (hb : PySem.W.Looks (model prog w) s.heap (typeOf b) (.ref C)) (hm : PySem.W.mroIn K C (.type "object") = some true)
    (hn : PySem.W.findIn K (.ref C) "__ne__" = some (some (.builtin "object.__ne__"))) (hs : PySem.W.findIn K (.ref C) "__eq__" = some (some (.ref f))) (hf : PySem.W.isFn K (.ref f) = true)
    (h : wpAny (model prog w) A.in1 (call (.ref f) [.ref x, b]) (fun v s' => ∃ k, v = .bool k ∧ Q (.bool (!k)) s') E s) : wpAny (model prog w) A (richCompare .NotEq (.ref x) b) Q E s := by
  have one : wpAny (model prog w) A (tryCompare (.ref x) "__ne__" b) (fun r s' => ∃ v, r = some v ∧ Q v s') E s := by
    unfold tryCompare
    refine wpAny_bind (ifBound_objNe X I hn (wpAny_mono (call_objNe (Q := fun v s' => ∃ k, v = .bool k ∧ Q v s') X I hm hu hs hf (wpAny_mono h (fun v s' z => by
      obtain ⟨k, e, q⟩ := z
      exact ⟨k, e, !k, rfl, q⟩) fun _ _ e => e)) (fun v s' z => ?_) fun _ _ e => e))
    obtain ⟨k, e, q⟩ := z
    subst e
    exact wpAny_pure ⟨_, rfl, q⟩
  unfold richCompare
  simp only [oneThing_ref, cmpInfo_NotEq]
  refine wpAny_holding (wpAny_bind (wpAny_cRoomFor (Nat.lt_of_succ_lt hu) ?_))
  refine wpAny_bind (I.type.here (wpAny_bind (hb.here ?_)))
  split
  · rename_i q
    simp at q
  · refine wpAny_bind (wpAny_pure ?_)
    simp only [Bool.false_eq_true, if_false]
    refine wpAny_bind (wpAny_mono one (fun r s' z => ?_) fun _ _ e => e)
    obtain ⟨v, rfl, hq⟩ := z
    exact wpAny_pure hq
end
section
variable {T : Tb} {L : Lk} {P : Prog} {orc : Orc} {k : Nat}
theorem ownJ_some {alts : List (Nat × Nat)} {o1 o2 : Option (Nat × List Nat × List D)} {j : Nat} (h : ownJ P alts o1 o2 = some j) : ∃ c ks vs ks' vs', o1 = some (c, ks, vs) ∧ o2 = some (c, ks', vs') ∧ c < P.nc ∧ getT alts c = some j ∧ fnJ P.sh P.fns j = true := by
  unfold ownJ at h
  split at h
  · rename_i c ks vs e ks' vs'
    split at h
    · rename_i hc
      obtain ⟨h1, h2⟩ := and_ hc
      obtain rfl := Nat.eq_of_beq_eq_true h1
      split at h
      · rename_i j' ej
        split at h
        · rename_i hf
          cases h
          exact ⟨_, _, _, _, _, rfl, rfl, Nat.le_of_ble_eq_true h2, ej, hf⟩
        · cases h
      · cases h
    · cases h
  · cases h
theorem ev_bino {op : Operator} {a b : E} {alts : List (Nat × Nat)} (ha : EvOk T L P orc k a) (hb : EvOk T L P orc k b) : EvOk T L P orc k (.bino op a b alts) := by
  intro X W c x h
  unfold ck at h
  split at h
  · rename_i x o y p
    obtain ⟨h1, h⟩ := and_ h
    obtain ⟨h2, h⟩ := and_ h
    obtain ⟨h3, h4⟩ := and_ h
    have h1 := of_decide_eq_true h1
    subst h1
    refine ⟨fun pins s σ H Q I ⟨F, φ, ρ, hh, hr, er, g⟩ => ?_⟩
    rw [q_bino] at g
    refine wpAny_BinOp (binT (R := fun v u H2 => ∃ φ2 h2 dx dy, HR L F φ2 h2 H2 ∧ Rel L F φ2 H2 dx v ∧ Rel L F φ2 H2 dy u ∧ GE L F φ2 H2 (match ownJ P alts (insOf dx h2) (insOf dy h2) with
      | some j => callJ P orc false j [dx, dy] h2
      | none => .no) Q fun c d H' => W c d σ H') (ha X W c _ h2) (hb X W c _ h3) I ⟨F, φ, ρ, hh, hr, er, G.bind g fun dx h1 φ1 H1 v e1 t1 hr1 rx g1 => ⟨F, φ1, ρ, h1, hr1, er.mono t1, G.bind g1 fun dy h2 φ2 H2 u e2 t2 hr2 ry g2 => ⟨φ2, h2, dx, dy, hr2, rx.mono t2, ry, g2⟩⟩⟩ fun v u s2 vx vy H2 I2 rv ru ⟨φ2, h2, dx, dy, hr2, rx, ry, g2⟩ => ?_)
    split at g2
    · rename_i j ej
      obtain ⟨cl, ks, vs, ks', vs', e1, e2, lc, ej, hf⟩ := ownJ_some ej
      obtain ⟨a1, d1, fs1, ev1, hH1, _, _⟩ := insOf_ok hr2 rx e1
      obtain ⟨a2, d2, fs2, ev2, hH2, _, _⟩ := insOf_ok hr2 ry e2
      subst ev1 ev2
      have e3 := List.all_eq_true.mp h4 _ (getT_mem ej)
      dsimp only at e3
      split at e3
      · rename_i cl' m' n esn
        obtain ⟨a1', a2'⟩ := and_ e3
        obtain ⟨a2', a3'⟩ := and_ a2'
        have a1' := of_decide_eq_true a1'
        have a2' := of_decide_eq_true a2'
        have a3' := of_decide_eq_true a3'
        subst a1' a2' a3'
        obtain ⟨f1, fa, f2, f3⟩ := c.fa.meth X W c.same c.tk j cl _ 2 [] esn
        have ic := c.fa.isc cl lc
        obtain rfl : v = Value.ref a1 := rv
        obtain rfl : u = Value.ref a2 := ru
        obtain ⟨mA, J, _⟩ := ins_get I2.hok hH1
        obtain ⟨mB, J', _⟩ := ins_get I2.hok hH2
        obtain ⟨od, J, _⟩ := J.look
        obtain ⟨od', J', _⟩ := J'.look
        obtain ⟨m, hF⟩ := I2.fr
        refine PySem.W.binop_K hF I2.ok.mod.kin J J'.type ic.sf f2.at_ f2.fn (wpAny_mono (f3 false pins s2 σ H2 [.ref a1, .ref a2] [] [.ref a1, .ref a2] [] Q F φ2 h2 [dx, dy] I2 (.cons rfl (.cons rfl .nil)) .nil rfl rfl hr2 (.cons rx (.cons ry .nil)) g2) (fun r s' z => ?_) fun _ _ e => e)
        obtain ⟨z', H', I', rz, qz⟩ := z
        exact SlX.cmpback rz ⟨z', H', I', rz, qz⟩
      · cases e3
    · exact (G.no_ g2).elim
  · cases h
theorem eqR_ok {ne : Bool} {j : Nat} {ds : List D} {X : Cx} {F : Fm} {φ : List Addr} {h : HH} {H : Hp} {Q : Bool → Hp → Prop} {E : XK} (g : GB L F φ H ((callJ P orc false j ds h).bind fun d h3 => eqR ne d h3) Q E) :
    GE L F φ H (callJ P orc false j ds h) (fun v H' => ∃ k, v = .bl k ∧ Q (k != ne) H') E := G.bind g fun d h1 φ1 H1 v e1 t1 hr1 rx g1 => by
  unfold eqR at g1
  split at g1
  · rename_i k
    cases rx
    exact ⟨k, rfl, G.ok g1 hr1 rfl⟩
  · exact (G.no_ g1).elim
/-- the own == and != of two instances -/
theorem own_cmp {ne : Bool} {alts : List (Nat × Nat)} {X : Cx} {W : WX} (c : CX1 T L P orc k X W) (h4 : (alts.all fun p => match T.sn[p.2]? with
      | some (.meth c, m', n, []) => decide (p.1 = c) && (decide (m' = ("__eq__" : Str)) && decide (n = 2))
      | _ => false) = true) {pins : List (Addr × Obj)} {s : Shared} {σ : L2.St} {H : Hp} {F : Fm} {φ : List Addr} {h : HH} {dx dy : D} {vx vy : V} {v u : Value} {Q : Bool → Hp → Prop} (I : L2.Inv X pins σ H s) (rv : RelV vx v) (ru : RelV vy u) (hr : HR L F φ h H) (rx : Rel L F φ H dx vx) (ry : Rel L F φ H dy vy) {j : Nat}
      (ej : ownJ P alts (insOf dx h) (insOf dy h) = some j) (g : GB L F φ H ((callJ P orc false j [dx, dy] h).bind fun d h3 => eqR ne d h3) Q fun c d H' => W c d σ H') :
    wpAny (model X.prog X.w) X.A (compareOp (cs' ne .NotEq .Eq) v u) (EP X pins σ fun z H' => ∃ k, z = .bl k ∧ Q k H') X.xe s := by
  obtain ⟨cl, ks, vs, ks', vs', e1, e2, lc, ej, hf⟩ := ownJ_some ej
  obtain ⟨a1, d1, fs1, ev1, hH1, _, _⟩ := insOf_ok hr rx e1
  obtain ⟨a2, d2, fs2, ev2, hH2, _, _⟩ := insOf_ok hr ry e2
  subst ev1 ev2
  have e3 := List.all_eq_true.mp h4 _ (getT_mem ej)
  dsimp only at e3
  split at e3
  · rename_i cl' m' n esn
    obtain ⟨a1', a2'⟩ := and_ e3
    obtain ⟨a2', a3'⟩ := and_ a2'
    have a1' := of_decide_eq_true a1'
    have a2' := of_decide_eq_true a2'
    have a3' := of_decide_eq_true a3'
    subst a1' a2' a3'
    obtain ⟨fa, f2, f3, f4⟩ := c.fa.mein X W c.same c.tk j cl _ 2 [] esn
    have ic := c.fa.isc cl lc
    obtain rfl : v = Value.ref a1 := rv
    obtain rfl : u = Value.ref a2 := ru
    obtain ⟨mA, J, _⟩ := ins_get I.hok hH1
    obtain ⟨mB, J', _⟩ := ins_get I.hok hH2
    obtain ⟨od, J, _⟩ := J.look
    obtain ⟨od', J', _⟩ := J'.look
    obtain ⟨m, hF⟩ := I.fr
    have g' := eqR_ok (X := X) g
    cases ne with
    | false =>
      show wpAny (model X.prog X.w) X.A (richCompare .Eq (.ref a1) (.ref a2)) _ X.xe s
      refine PySem.W.cmp_K (op := .Eq) (tb := .ref (L.cl cl)) (by have := c.hu; omega) hF I.ok.mod.kin J J'.type (by simp [PySem.W.notFirst]) f2.at_ f2.fn (wpAny_mono (f3 false pins s σ H [.ref a1, .ref a2] [] [.ref a1, .ref a2] [] _ F φ h [dx, dy] I (.cons rfl (.cons rfl .nil)) .nil rfl rfl hr (.cons rx (.cons ry .nil)) g') (fun r s' z => ?_) fun _ _ e => e)
      obtain ⟨z', H', I', rz, kk, ez, qz⟩ := z
      exact SlX.cmpback rz ⟨z', H', I', rz, kk, ez, by simpa using qz⟩
    | true =>
      show wpAny (model X.prog X.w) X.A (richCompare .NotEq (.ref a1) (.ref a2)) _ X.xe s
      refine ne_K (by have := c.hu; omega) I.kIn J J'.type ic.hm ic.ne f2.at_ f2.fn (wpAny_mono (f4 hf false pins s σ H [.ref a1, .ref a2] [] [.ref a1, .ref a2] [] _ F φ h [dx, dy] I (.cons rfl (.cons rfl .nil)) .nil rfl rfl hr (.cons rx (.cons ry .nil)) g') (fun r s' z => ?_) fun _ _ e => e)
      obtain ⟨z', H', I', rz, kk, ez, qz⟩ := z
      subst ez
      cases rz
      exact ⟨kk, rfl, .bl (!kk), H', I', rfl, !kk, rfl, by simpa using qz⟩
  · cases e3
theorem ck_cmpo {ne : Bool} {a b : E} {alts : List (Nat × Nat)} {N : List Str} {sc : Scope} {x : Expr} (h : ck T N (.cmpo ne a b alts) sc x = true) : ∃ x' y' p, x = .Compare x' [cs' ne .NotEq .Eq] [y'] p ∧ ck T N a sc x' = true ∧ ck T N b sc y' = true ∧ behindInMarks (cs' ne .NotEq .Eq) y' = false ∧ (alts.all fun p => match T.sn[p.2]? with
      | some (.meth c, m', n, []) => decide (p.1 = c) && (decide (m' = ("__eq__" : Str)) && decide (n = 2))
      | _ => false) = true := by
  unfold ck at h
  split at h
  · rename_i x o y p
    obtain ⟨h1, h⟩ := and_ h
    obtain ⟨h2, h⟩ := and_ h
    obtain ⟨h3, h⟩ := and_ h
    obtain ⟨h4, h5⟩ := and_ h
    have h1 := of_decide_eq_true h1
    subst h1
    exact ⟨x, y, p, rfl, h2, h3, by simpa using h4, h5⟩
  · cases h
theorem ev_cmpo {ne : Bool} {a b : E} {alts : List (Nat × Nat)} (ha : EvOk T L P orc k a) (hb : EvOk T L P orc k b) : EvOk T L P orc k (.cmpo ne a b alts) := by
  intro X W c x h
  obtain ⟨x, y, p, rfl, h2, h3, hm, h4⟩ := ck_cmpo h
  refine ⟨fun pins s σ H Q I ⟨F, φ, ρ, hh, hr, er, g⟩ => ?_⟩
  rw [q_cmpo] at g
  refine wpAny_Compare1 (binT (R := fun v u H2 => ∃ φ2 h2 dx dy j, HR L F φ2 h2 H2 ∧ Rel L F φ2 H2 dx v ∧ Rel L F φ2 H2 dy u ∧ ownJ P alts (insOf dx h2) (insOf dy h2) = some j ∧ GB L F φ2 H2 ((callJ P orc false j [dx, dy] h2).bind fun d h3 => eqR ne d h3) (fun k H' => Q (.bl k) H') fun c d H' => W c d σ H') (ha X W c _ h2) (hb X W c _ h3) I ⟨F, φ, ρ, hh, hr, er, G.bind g fun dx h1 φ1 H1 v e1 t1 hr1 rx g1 => ⟨F, φ1, ρ, h1, hr1, er.mono t1, G.bind g1 fun dy h2 φ2 H2 u e2 t2 hr2 ry g2 => ?_⟩⟩ fun v u s2 vx vy H2 I2 rv ru ⟨φ2, h2, dx, dy, j, hr2, rx, ry, ej, g2⟩ => ?_) hm
  · split at g2
    · rename_i j ej
      refine ⟨φ2, h2, dx, dy, j, hr2, rx.mono t2, ry, ej, ?_⟩
      have as : ((callJ P orc false j [dx, dy] h2).bind fun d h3 => (eqR ne d h3).bind fun k h4 => R.ok (D.bl k) h4) = ((callJ P orc false j [dx, dy] h2).bind fun d h3 => eqR ne d h3).bind fun k h4 => R.ok (D.bl k) h4 := by
        cases callJ P orc false j [dx, dy] h2 <;> rfl
      rw [as] at g2
      exact G.bind g2 fun k h4 φ4 H4 b e4 t4 hr4 eb g4 => by
        have eb : k = b := eb
        subst eb
        exact G.ok g4 hr4 (.bl k)
    · exact (G.no_ g2).elim
  · exact wpAny_mono (own_cmp c h4 I2 rv ru hr2 rx ry ej g2) (fun r s' z => by
      obtain ⟨z', H', I', rz, k, ez, q⟩ := z
      subst ez
      exact ⟨_, H', I', rz, q⟩) fun _ _ e => e
theorem ts_cmpo {ne : Bool} {a b : E} {alts : List (Nat × Nat)} (ha : EvOk T L P orc k a) (hb : EvOk T L P orc k b) : TsOk T L P orc k (.cmpo ne a b alts) := by
  intro X W c x h
  obtain ⟨x, y, p, rfl, h2, h3, hm, h4⟩ := ck_cmpo h
  refine ⟨fun pins s σ H Q I ⟨F, φ, ρ, hh, hr, er, g⟩ => ?_⟩
  rw [t_cmpoQ] at g
  refine wpAny_isTrue_Compare1 (thn ((ha X W c _ h2).run pins s σ H (fun v H1 => ∃ φ1 h1 dx, HR L F φ1 h1 H1 ∧ ER L F φ1 H1 ρ σ ∧ Rel L F φ1 H1 dx v ∧ GB L F φ1 H1 ((ev P orc b ρ h1).bind fun dy h2 => match ownJ P alts (insOf dx h2) (insOf dy h2) with
    | some j => (callJ P orc false j [dx, dy] h2).bind fun d h3 => eqR ne d h3
    | none => .no) Q fun c d H' => W c d σ H') I ⟨F, φ, ρ, hh, hr, er, G.bind g fun dx h1 φ1 H1 v e1 t1 hr1 rx g1 => ⟨φ1, h1, dx, hr1, er.mono t1, rx, g1⟩⟩) fun v s1 ⟨vx, H1, I1, rv, φ1, h1, dx, hr1, er1, rx, g1⟩ => thn ((hb X W c _ h3).run pins s1 σ H1 (fun u H2 => ∃ φ2 h2 dy, HR L F φ2 h2 H2 ∧ Rel L F φ2 H2 dx vx ∧ Rel L F φ2 H2 dy u ∧ GB L F φ2 H2 (match ownJ P alts (insOf dx h2) (insOf dy h2) with
    | some j => (callJ P orc false j [dx, dy] h2).bind fun d h3 => eqR ne d h3
    | none => .no) Q fun c d H' => W c d σ H') I1 ⟨F, φ1, ρ, h1, hr1, er1, G.bind g1 fun dy h2 φ2 H2 u e2 t2 hr2 ry g2 => ⟨φ2, h2, dy, hr2, rx.mono t2, ry, g2⟩⟩) fun u s2 ⟨vy, H2, I2, ru, φ2, h2, dy, hr2, rx2, ry, g2⟩ => ?_) hm
  split at g2
  · rename_i j ej
    refine thn (own_cmp c h4 I2 rv ru hr2 rx2 ry ej g2) fun r s3 ⟨z, H3, I3, rz, k, ez, q⟩ => ?_
    subst ez
    cases rz
    exact wpAny_truthy_bool ⟨H3, I3, q⟩
  · exact (G.no_ g2).elim
end
end MV

set_option maxRecDepth 100000
set_option maxHeartbeats 1000000
/-! VHs: a, *rest = e. -/
namespace MV
open PySem PySem.Spec PyProof.Rows L2
/-- the walk from the i-th place on -/
theorem walks_from {prog : Program} {w : World} {A : Around} {I : Addr} {fp wr : List Addr} {G : Array GenState → Array GenState → Prop} {n : Nat} {P : Nat → Value → Prop} {St : Nat → Shared → Prop} (W : WalksS prog w A I fp wr G n P St) (i : Nat) (hi : i ≤ n) :
    WalksS prog w A I fp wr G (n - i) (fun k => P (i + k)) (fun k => St (i + k)) where
  sub := W.sub
  grefl := W.grefl
  gtrans := W.gtrans
  frame := fun k s h' tk st ht hf => W.frame (i + k) s h' tk st ht hf
  item := fun k s Q E hk st hQ => W.item (i + k) s Q E (by omega) st fun v s' a b c => hQ v s' a b c
  done := fun s Q E st hQ => W.done s Q E (by rw [show i + (n - i) = n by omega] at st; exact st) hQ
  self := fun k s Q E st hQ => W.self (i + k) s Q E st hQ
section
variable {prog : Program} {w : World} {A : Around} {E : Value → Shared → Prop} {s : Shared}
theorem items_eq {acc items : Array Value} {i : Nat} (hi : i ≤ items.size) (h : ItemsOf (fun k v => items[i + k]? = some v) acc (items.size - i)) : acc.toList = items.toList.drop i := by
  obtain ⟨h1, h2⟩ := h
  apply List.ext_getElem?
  intro k
  rw [List.getElem?_drop, Array.getElem?_toList, Array.getElem?_toList]
  cases e : acc[k]? with
  | some v => exact (h2 k v e).symm
  | none =>
    have : items.size - i ≤ k := by
      rw [← h1]
      exact Array.getElem?_eq_none_iff.mp e
    exact (Array.getElem?_eq_none_iff.mpr (by omega)).symm
theorem unpackStar_tuple {t : Addr} {items : Array Value} {i : Nat} {Q : List Value → Shared → Prop} (hh : A.handled = none) (ht : s.heap.IsTuple t items) (hi : i ≤ items.size) (hz : items.size ≤ sizeLine)
    (hQ : ∀ (h' : Heap) (tk : Nat), (∀ b o, s.heap.get? b = some o → h'.get? b = some o) → Q (items.toList.take i ++ [.ref h'.objs.size]) { s with heap := h'.push { cls := .type "list", data := .seq (items.toList.drop i).toArray }, toks := tk }) :
    wpAny (model prog w) A (unpackItems (.ref t) (i + 1) (some i)) Q E s := by
  have hlt : t ≠ s.heap.objs.size := by obtain ⟨o, ho, _⟩ := ht; exact Nat.ne_of_lt (Heap.lt_size ho)
  unfold unpackItems
  refine wpAny_bind ?_
  unfold notIterableAtAll
  refine wpAny_bind (wpAny_specialOf ht.typeIs F.slot_tuple_iter.lookup ?_)
  refine wpAny_pure ?_
  simp only [Bool.false_eq_true, if_false]
  refine wpAny_bind (wpAny_holding (wpAny_pyIter_tuple ht ?_))
  refine wpAny_bind (wpAny_holding (wpAny_draw_tuple hlt i 0 _ _ ⟨_, Heap.get?_push_size _ rfl, rfl, rfl⟩ (ht.push _) (by omega) fun h₁ hit₁ hs₁ => ?_))
  have hall : List.take i (List.drop 0 items.toList) = items.toList.take i := by rw [List.drop_zero]
  rw [hall]
  rw [if_neg (by simp; omega)]
  have ht₁ : h₁.IsTuple t items := (ht.push _).extBut hs₁.extBut hlt
  rw [Nat.zero_add] at hit₁
  have kp1 : ∀ b o, s.heap.get? b = some o → h₁.get? b = some o := fun b o e => hs₁.extBut b o (Nat.ne_of_lt (Heap.lt_size e)) (Heap.get?_push_of_some _ e)
  have hlt2 : s.heap.objs.size < h₁.objs.size := by
    obtain ⟨o, ho, _⟩ := hit₁
    exact Heap.lt_size ho
  have W := walks_from ((Walks.tuple (prog := prog) (w := w) (A := A.in1) hh s.heap.objs.size t hlt items).toS) i hi
  refine wpAny_bind (wpAny_holding (wpAny_collect_iter (n := items.size - i) (.inr (.inr (.inr rfl))) W (fun _ _ st => st.1.typeIs) (by simpa using ⟨hit₁, ht₁⟩) (fun b hb => ?_) (List.mem_cons_self ..) (fun s' acc hm ha => ?_) (by omega)))
  · rcases List.mem_cons.mp hb with e | hb
    · rw [e]
      exact hlt2
    · rw [List.mem_singleton.mp hb]
      obtain ⟨o, ho, _⟩ := ht₁
      exact Heap.lt_size ho
  · have ea := items_eq hi ha
    rw [ea]
    have e0 : i + 1 - 1 - i = 0 := by omega
    rw [e0, if_neg (Nat.not_lt_zero _)]
    have e1 : (items.toList.drop i).length - 0 = (items.toList.drop i).length := Nat.sub_zero _
    rw [e1, List.take_length, List.drop_length]
    refine wpAny_bind (wpAny_newObj_type (wpAny_pure ?_) (by
      first
        | (unfold sizeOk; simp; omega)
        | skip))
    rw [List.append_nil]
    have es : s' = { s with heap := s'.heap, toks := s'.toks } := by
      obtain ⟨h, g, d, t', os⟩ := s'
      obtain ⟨_, m2, m3, m4, _⟩ := hm
      simp only at m2 m3 m4 ⊢
      rw [m2, m3, m4]
    have q := hQ s'.heap s'.toks fun b o e => hm.heap b o (fun z => by
      rw [List.mem_singleton] at z
      rw [z] at e
      exact absurd (Heap.lt_size e) (Nat.lt_irrefl _)) (kp1 b o e)
    have e3 : s'.gens = s.gens := hm.gens
    have e4 : s'.drawn = s.drawn := hm.drawn
    have e5 : s'.os = s.os := hm.os
    rw [e3, e4, e5]
    exact q
end
section
variable {X : Cx}
/-- targets, the last one starred: the first i items, a list of the others -/
def gStar (K : PySem.W.Frag) (i : Nat) (t : TGs) : TG := fun v σ H Q => ∃ a xs, v = .ref a ∧ SqT K H a xs ∧ i ≤ xs.length ∧ ∀ p, H p = none → t (xs.take i ++ [.ref p]) σ (upd H p (.lst (xs.drop i))) Q
theorem pg_star {es es' : List Expr} {k i : Nat} {t : TGs} {pos : Pos} (hc : X.calm = true) (h : PGs X es' t) (hmap : (assignEach es X.env).map (·.2) = (assignEach es' X.env).map (·.2))
    (hn : (assignEach es X.env).length = i + 1) (hst : (assignEach es X.env).findIdx? (·.1) = some i) : PG X (.Tuple es k pos) (gStar X.K i t) := by
  refine ⟨fun pins s σ H v u Q I r hw => ?_⟩
  obtain ⟨a, xs, e1, hq, hl, hw⟩ := hw
  subst e1
  cases r
  obtain ⟨its, rv, ht, hz⟩ := I.tuple hq
  rw [arm_assign_Tuple]
  refine wpAny_bind (wpAny_standAt ?_)
  unfold unpack
  rw [hn, hst]
  have el : its.length = xs.length := rv.length.symm
  refine wpAny_bind (wpAny_holding (unpackStar_tuple (items := its.toArray) (I.ok.hd hc) ht (by simp; omega) (by simpa [el] using hz) fun h' tk kp => ?_))
  have I1 : Inv X pins σ H { s with heap := h', toks := tk } := I.kept (t' := tk) kp
  have hp : H h'.objs.size = none := I1.hok.fresh (Nat.le_refl _)
  have I2 := I1.laid (t' := tk) (o := .lst (xs.drop i)) (h' := h'.push { cls := .type "list", data := .seq (its.toArray.toList.drop i).toArray }) (fun b ob q => Heap.get?_push_of_some _ q) (Nat.le_refl _) ⟨by rw [List.length_drop]; omega, its.drop i, _, rv.drop i, by simpa using Heap.get?_push_size _ rfl⟩
  rw [hmap]
  refine h.run pins _ σ _ (xs.take i ++ [.ref h'.objs.size]) (its.toArray.toList.take i ++ [.ref h'.objs.size]) Q I2 ?_ (hw _ hp)
  exact (rv.take i).append (.cons rfl .nil)
end
end MV

set_option maxRecDepth 100000
set_option maxHeartbeats 1000000
/-! VI: targets, iterators, comprehensions. -/
namespace MV
open PySem PySem.Spec PyProof.Rows L2
/-! ### frames -/
end MV
namespace L2
open PySem PySem.Spec PyProof.Rows
theorem PG.imp {X : Cx} {e : Expr} {t t' : TG} (p : PG X e t) (q : ∀ v σ H Q, t' v σ H Q → t v σ H Q) : PG X e t' := ⟨fun pins s σ H v u Q I r h => p.run pins s σ H v u Q I r (q v σ H Q h)⟩
theorem PGs.imp {X : Cx} {e : List Expr} {t t' : TGs} (p : PGs X e t) (q : ∀ v σ H Q, t' v σ H Q → t v σ H Q) : PGs X e t' := ⟨fun pins s σ H v u Q I r h => p.run pins s σ H v u Q I r (q v σ H Q h)⟩
theorem PG.or {X : Cx} {e : Expr} {t t' : TG} (p : PG X e t) (q : PG X e t') : PG X e (fun v σ H Q => t v σ H Q ∨ t' v σ H Q) := ⟨fun pins s σ H v u Q I r h => h.elim (p.run pins s σ H v u Q I r) (q.run pins s σ H v u Q I r)⟩
theorem PI.imp {X : Cx} {tg e : Expr} {t t' : TI} (p : PI X tg e t) (q : ∀ σ H R, t' σ H R → t σ H R) : PI X tg e t' := ⟨fun pins s σ H R I h => p.run pins s σ H R I (q σ H R h)⟩
theorem PI.or {X : Cx} {tg e : Expr} {t t' : TI} (p : PI X tg e t) (q : PI X tg e t') : PI X tg e (fun σ H R => t σ H R ∨ t' σ H R) := ⟨fun pins s σ H R I h => h.elim (p.run pins s σ H R I) (q.run pins s σ H R I)⟩
end L2
namespace MV
open PySem PySem.Spec PyProof.Rows L2
section
variable {L : Lk} {F F' : Fm} {φ ψ : List Addr} {H : Hp} {h : HH}
mutual
theorem Rel.re (hn : ∀ a o, H a = some o → a ∉ φ → ¬ F.no a → a ∉ ψ ∧ ¬ F'.no a) (hb : ∀ a, F.bo a → a ∉ φ → F'.bo a ∧ a ∉ ψ) (hφ : ∀ (n : Nat) (a : Addr), φ[n]? = some a → ψ[n]? = some a) (hx : ∀ (a : Addr) (f : Heap → Prop), H a = some (.ext f) → a ∉ φ → a ∉ ψ) : ∀ {d : D} {v : V}, Rel L F φ H d v → Rel L F' ψ H d v
  | _, _, .non => .non
  | _, _, .bl b => .bl b
  | _, _, .int i => .int i
  | _, _, .str s => .str s
  | _, _, .cls c => .cls c
  | _, _, .wd c => .wd c
  | _, _, .tup e r => .tup e (Rels.re hn hb hφ hx r)
  | _, _, .wtup e1 e2 e3 e4 e5 e6 r => .wtup e1 e2 e3 e4 e5 e6 (Rels.re hn hb hφ hx r)
  | _, _, .borK e1 e2 e3 e4 e5 e6 r => .borK e1 e2 e3 e4 e5 e6 (Rels.re hn hb hφ hx r)
  | _, _, .lst e n f r => .lst e (hn _ _ e n f).1 (hn _ _ e n f).2 (Rels.re hn hb hφ hx r)
  | _, _, .bor e n b r => .bor e (hb _ b n).2 (hb _ b n).1 (Rels.re hn hb hφ hx r)
  | _, _, .dct e n f k r => .dct e (hn _ _ e n f).1 (hn _ _ e n f).2 k (Rels.re hn hb hφ hx r)
  | _, _, .obj e n f k r => .obj e (hn _ _ e n f).1 (hn _ _ e n f).2 k (Rels.re hn hb hφ hx r)
  | _, _, .ref e => .ref (hφ _ _ e)
  | _, _, .lam e n e2 n2 d => .lam e (hx _ _ e n) e2 (hx _ _ e2 n2) d
theorem Rels.re (hn : ∀ a o, H a = some o → a ∉ φ → ¬ F.no a → a ∉ ψ ∧ ¬ F'.no a) (hb : ∀ a, F.bo a → a ∉ φ → F'.bo a ∧ a ∉ ψ) (hφ : ∀ (n : Nat) (a : Addr), φ[n]? = some a → ψ[n]? = some a) (hx : ∀ (a : Addr) (f : Heap → Prop), H a = some (.ext f) → a ∉ φ → a ∉ ψ) : ∀ {ds : List D} {vs : List V}, Rels L F φ H ds vs → Rels L F' ψ H ds vs
  | _, _, .nil => .nil
  | _, _, .cons r t => .cons (Rel.re hn hb hφ hx r) (Rels.re hn hb hφ hx t)
end
theorem RO.re {a : Addr} {o : O} (hn : ∀ a o, H a = some o → a ∉ φ → ¬ F.no a → a ∉ ψ ∧ ¬ F'.no a) (hb : ∀ a, F.bo a → a ∉ φ → F'.bo a ∧ a ∉ ψ) (hφ : ∀ (n : Nat) (a : Addr), φ[n]? = some a → ψ[n]? = some a) (hx : ∀ (a : Addr) (f : Heap → Prop), H a = some (.ext f) → a ∉ φ → a ∉ ψ) (r : RO L F φ H a o) : RO L F' ψ H a o := by
  cases r with
  | lst q r => exact .lst q (r.re hn hb hφ hx)
  | dct q k r => exact .dct q k (r.re hn hb hφ hx)
  | ins q k r => exact .ins q k (r.re hn hb hφ hx)
/-- one more thing may not be told -/
def Fm.plus (F : Fm) (p : Addr) : Fm := ⟨fun a => F.no a ∨ a = p, F.bo⟩
theorem HR.guard {p : Addr} {o : HO} (x : HR L F φ h H) (e : H p = none) : HR L (F.plus p) φ h (upd H p o) := by
  have y : HR L F φ h (upd H p o) := x.fresh e
  refine ⟨x.len, x.nod, fun n a w q z => ?_, fun a m => ?_, fun a m => ?_, fun a m => .inl (x.bn a m), y.tab⟩
  · have r := x.at_ n a w q z
    obtain ⟨u, hu, _⟩ := r.has
    refine (RO.frame (F' := F.plus p) (fun a o q m => m.elim id fun z => ?_) (fun _ z => z) r).mono (.fresh e) (upd_ne (ne_of_none hu e))
    rw [z, e] at q
    cases q
  · rintro (z | z)
    · exact x.own a m z
    · rw [z] at m
      exact x.nin e m
  · rcases m with z | z
    · exact y.trk a z
    · rw [z]
      exact ⟨_, upd_same⟩
theorem HR.unguard {p : Addr} (x : HR L (F.plus p) φ h H) (bn : ∀ a, F.bo a → F.no a) : HR L F φ h H :=
  ⟨x.len, x.nod, fun n a o q w => RO.frame (F := F.plus p) (F' := F) (fun _ _ _ m => Or.inl m) (fun _ z => z) (x.at_ n a o q w), fun a m z => x.own a m (.inl z), fun a m => x.trk a (.inl m), bn, x.tab⟩
/-- the list that was built becomes ours -/
theorem HR.take {p : Addr} {vs : List V} {l : List D} (x : HR L (F.plus p) φ h H) (bn : ∀ a, F.bo a → F.no a) (nb : ¬ F.bo p) (nn : ¬ F.no p) (hp : H p = some (.lst vs)) (r : Rels L (F.plus p) φ H l vs) : HR L F (φ ++ [p]) (h ++ [.lst l]) H := by
  have np : p ∉ φ := fun m => x.own p m (.inr rfl)
  have h1 : ∀ a o, H a = some o → a ∉ φ → ¬ (F.plus p).no a → a ∉ φ ++ [p] ∧ ¬ F.no a := fun a o _ n f => ⟨fun z => by
    rcases List.mem_append.mp z with z | z
    · exact n z
    · exact f (.inr (List.mem_singleton.mp z)), fun z => f (.inl z)⟩
  have h2 : ∀ a, (F.plus p).bo a → a ∉ φ → F.bo a ∧ a ∉ φ ++ [p] := fun a b n => ⟨b, fun z => by
    rcases List.mem_append.mp z with z | z
    · exact n z
    · rw [List.mem_singleton.mp z] at b
      exact nb b⟩
  have h3 : ∀ (n : Nat) (a : Addr), φ[n]? = some a → (φ ++ [p])[n]? = some a := fun n a e => by
    rw [List.getElem?_append_left (List.getElem?_eq_some_iff.mp e).1]
    exact e
  have h4 : ∀ (a : Addr) (f : Heap → Prop), H a = some (.ext f) → a ∉ φ → a ∉ φ ++ [p] := fun a f e n z => by
    rcases List.mem_append.mp z with z | z
    · exact n z
    · rw [List.mem_singleton.mp z, hp] at e
      cases e
  refine ⟨by simp [x.len], ?_, fun n a o q z => ?_, fun a m => ?_, fun a m => x.trk a (.inl m), bn, x.tab⟩
  · rw [List.nodup_append]
    refine ⟨x.nod, by simp, fun a ha b hb => ?_⟩
    rw [List.mem_singleton.mp hb]
    rintro rfl
    exact np ha
  · by_cases hn : n < φ.length
    · rw [List.getElem?_append_left hn] at q
      rw [List.getElem?_append_left (by rw [← x.len]; exact hn)] at z
      exact (x.at_ n a o q z).re h1 h2 h3 h4
    · have l := (List.getElem?_eq_some_iff.mp q).1
      rw [List.length_append, List.length_singleton] at l
      have en : n = φ.length := by omega
      subst en
      rw [List.getElem?_append_right (Nat.le_refl _), Nat.sub_self] at q
      have q' : p = a := Option.some.inj q
      subst q'
      rw [x.len, List.getElem?_append_right (Nat.le_refl _), Nat.sub_self] at z
      have z' : O.lst _ = o := Option.some.inj z
      subst z'
      exact .lst hp (r.re h1 h2 h3 h4)
  · rcases List.mem_append.mp m with m | m
    · exact fun z => x.own a m (.inl z)
    · rw [List.mem_singleton.mp m]
      exact nn
theorem XT.poke {φ' : List Addr} {H' : Hp} {p : Addr} {o : HO} (t : XT φ H φ' H') (e : H p = none) : XT φ H φ' (upd H' p o) := by
  have ne : ∀ {a : Addr} {u : HO}, H a = some u → a ≠ p := fun {a u} q => ne_of_none q e
  refine ⟨t.pre, fun a u q nt n => by rw [upd_ne (ne q)]; exact t.keep a u q nt n, fun a xs q => by rw [upd_ne (ne q)]; exact t.tup a xs q, fun a u w q => by rw [upd_ne (ne q)]; exact t.frz a u w q, fun a u q => by rw [upd_ne (ne q)]; exact t.trk a u q⟩
end
/-! ### targets -/
/-- only these slots changed -/
def SlotsIn (vs : List Nat) (σ σ' : L2.St) : Prop := σ'.length = σ.length ∧ ∀ j, j ∉ vs → σ'[j]? = σ[j]?
theorem SlotsIn.refl (vs : List Nat) (σ : L2.St) : SlotsIn vs σ σ := ⟨rfl, fun _ _ => rfl⟩
theorem SlotsIn.trans {vs ws : List Nat} {σ σ1 σ2 : L2.St} (a : SlotsIn vs σ σ1) (b : SlotsIn ws σ1 σ2) : SlotsIn (vs ++ ws) σ σ2 :=
  ⟨b.1.trans a.1, fun j hj => by
    rw [List.mem_append, not_or] at hj
    rw [b.2 j hj.2, a.2 j hj.1]⟩
theorem wipe_in {σ : L2.St} {j : Nat} : ∀ {vs : List Nat}, j ∈ vs → j < σ.length → (L2.wipe σ vs)[j]? = some none
  | [], h, _ => by cases h
  | v :: vs, h, hl => by
    unfold L2.wipe
    by_cases hv : v = j
    · subst hv
      rw [List.getElem?_set_self (by rw [wipe_length]; exact hl)]
    · rw [List.getElem?_set_ne hv]
      exact wipe_in ((List.mem_cons.mp h).resolve_left (Ne.symm hv)) hl
theorem SlotsIn.wipe {vs ws : List Nat} {σ σ' : L2.St} (a : SlotsIn vs σ σ') (hw : ∀ i ∈ vs, i ∈ ws) : L2.wipe σ' ws = L2.wipe σ ws := by
  refine List.ext_getElem? fun j => ?_
  by_cases hj : j ∈ ws
  · by_cases hl : j < σ.length
    · rw [wipe_in hj hl, wipe_in hj (by rw [a.1]; exact hl)]
    · rw [List.getElem?_eq_none (by rw [wipe_length, a.1]; omega), List.getElem?_eq_none (by rw [wipe_length]; omega)]
  · rw [wipe_out hj, wipe_out hj]
    exact a.2 j fun z => hj (hw j z)
def GT (L : Lk) (F : Fm) (φ : List Addr) (H : Hp) (vs : List Nat) (σ : L2.St) (r : R Env) (Q : L2.St → Hp → Prop) : Prop := match r with
  | .ok ρ' h' => ∀ φ' H' σ', XT φ H φ' H' → HR L F φ' h' H' → ER L F φ' H' ρ' σ' → SlotsIn vs σ σ' → Q σ' H'
  | _ => False
def rdG (L : Lk) (vs : List Nat) (f : D → Env → HH → R Env) : TG := fun v σ H Q => ∃ F φ ρ h d, HR L F φ h H ∧ ER L F φ H ρ σ ∧ Rel L F φ H d v ∧ GT L F φ H vs σ (f d ρ h) Q
def rdGs (L : Lk) (vs : List Nat) (f : List D → Env → HH → R Env) : TGs := fun ws σ H Q => ∃ F φ ρ h ds, HR L F φ h H ∧ ER L F φ H ρ σ ∧ Rels L F φ H ds ws ∧ GT L F φ H vs σ (f ds ρ h) Q
section
variable (T : Tb) (L : Lk) (P : Prog) (orc : Orc) (k : Nat)
def TgOk (e : E) : Prop := ∀ X W, CX1 T L P orc k X W → ∀ x, ckG T X.N e X.fn X.env.scope x = true → PG X x (rdG L (tgSlots e) (asg P orc e))
def TgsOk (e : E) : Prop := ∀ X W, CX1 T L P orc k X W → ∀ xs, ckGs T X.N e X.fn X.env.scope xs = true → nsAll xs = true → PGs X xs (rdGs L (tgSlots e) (asgs P orc e)) ∧ (assignEach xs X.env).findIdx? (·.1) = none ∧ (assignEach xs X.env).length = xs.length ∧ ∀ F φ H ρ h ds σ Q, GT L F φ H (tgSlots e) σ (asgs P orc e ds ρ h) Q → ds.length = xs.length
end
section
variable {T : Tb} {L : Lk} {P : Prog} {orc : Orc} {k : Nat}
theorem tg_n {i : Nat} : TgOk T L P orc k (.t_n i) := by
  intro X W c x h
  unfold ckG at h
  split at h
  · rename_i y p
    obtain ⟨h1, h2⟩ := and_ h
    have h1 := of_decide_eq_true h1
    have hx : Loc X.env.scope y ∧ (X.fn y = true ∨ X.env.scope.names.lookup y = some .local) := by
      rcases Bool.or_eq_true_iff.mp h2 with z | z
      · exact ⟨.inl (locB_ z), .inr (locB_ z)⟩
      · obtain ⟨z1, z2⟩ := and_ z
        exact ⟨stoB_ z2, .inl z1⟩
    refine (pg_name c.nd h1 hx.1 hx.2).imp fun v σ H Q ⟨F, φ, ρ, hh, d, hr, er, rd, g⟩ => ?_
    rw [q_t_n] at g
    exact g φ H _ (.refl φ H) hr (er.set rd) ⟨by simp, fun j hj => List.getElem?_set_ne (fun z => hj (by
      show j ∈ [i]
      rw [z]
      exact List.mem_singleton.mpr rfl))⟩
  · cases h
theorem tgs_nil : TgsOk T L P orc k .nil := by
  intro X W c xs h hn
  unfold ckGs at h
  split at h
  · refine ⟨pgs_nil.imp fun v σ H Q ⟨F, φ, ρ, hh, ds, hr, er, rd, g⟩ => ?_, rfl, rfl, fun F φ H ρ h ds σ Q g => ?_⟩
    · rw [gq_nil] at g
      split at g
      · cases rd
        exact ⟨rfl, g φ H _ (.refl φ H) hr er (.refl _ _)⟩
      · exact g.elim
    · rw [gq_nil] at g
      split at g
      · rfl
      · exact g.elim
  · cases h
theorem aEach (x : Expr) (xs : List Expr) (env : PySem.Env) (h : nsB x = true) : assignEach (x :: xs) env = (false, assign x env) :: assignEach xs env := by
  cases x <;> first | rfl | cases h
theorem tgs_cons {e es : E} (ha : TgOk T L P orc k e) (hb : TgsOk T L P orc k es) : TgsOk T L P orc k (.cons e es) := by
  intro X W c xs h hn
  unfold ckGs at h
  split at h
  · rename_i x ys
    obtain ⟨h1, h2⟩ := and_ h
    obtain ⟨n1, n2⟩ := and_ (show (nsB x && nsAll ys) = true from hn)
    obtain ⟨p1, p2, p3, p4⟩ := hb X W c _ h2 n2
    refine ⟨(pgs_cons (ha X W c _ h1) p1 (by rw [aEach _ _ _ n1] <;> rfl)).imp fun v σ H Q ⟨F, φ, ρ, hh, ds, hr, er, rd, g⟩ => ?_, ?_, ?_, fun F φ H ρ h ds σ Q g => ?_⟩
    · rw [gq_cons] at g
      split at g
      · rename_i d r
        cases rd with
        | cons rd rds =>
          refine ⟨_, _, rfl, F, φ, ρ, hh, d, hr, er, rd, ?_⟩
          cases ea : asg P orc e d ρ hh with
          | ok ρ1 h1 =>
            rw [ea] at g
            have g : GT L F φ H (tgSlots (.cons e es)) σ (asgs P orc es r ρ1 h1) Q := g
            intro φ1 H1 σ1 t1 hr1 er1 s1
            refine ⟨F, φ1, ρ1, h1, r, hr1, er1, rds.mono t1, ?_⟩
            cases eb : asgs P orc es r ρ1 h1 with
            | ok ρ2 h2 =>
              rw [eb] at g
              exact fun φ2 H2 σ2 t2 hr2 er2 s2 => g φ2 H2 σ2 (t1.trans t2) hr2 er2 (s1.trans s2)
            | exc _ _ _ _ =>
              rw [eb] at g
              exact g
            | no =>
              rw [eb] at g
              exact g
          | exc _ _ _ _ =>
            rw [ea] at g
            exact g
          | no =>
            rw [ea] at g
            exact g
      · exact g.elim
    · rw [aEach _ _ _ n1, List.findIdx?_cons]
      show Option.map _ ((assignEach ys X.env).findIdx? (·.1)) = none
      rw [p2] <;> rfl
    · rw [aEach _ _ _ n1, List.length_cons, List.length_cons, p3]
    · rw [gq_cons] at g
      split at g
      · rename_i d r
        cases ea : asg P orc e d ρ h with
        | ok ρ1 h1 =>
          rw [ea] at g
          have g : GT L F φ H (tgSlots (.cons e es)) σ (asgs P orc es r ρ1 h1) Q := g
          have : GT L F φ H (tgSlots es) σ (asgs P orc es r ρ1 h1) (fun _ _ => True) := by
            cases eb : asgs P orc es r ρ1 h1 with
            | ok ρ2 h2 => exact fun _ _ _ _ _ _ _ => trivial
            | exc _ _ _ _ =>
              rw [eb] at g
              exact g
            | no =>
              rw [eb] at g
              exact g
          rw [List.length_cons, List.length_cons, p4 F φ H ρ1 h1 r σ _ this]
        | exc _ _ _ _ =>
          rw [ea] at g
          exact g.elim
        | no =>
          rw [ea] at g
          exact g.elim
      · exact g.elim
  · cases h
theorem tg_t {es : E} (he : TgsOk T L P orc k es) : TgOk T L P orc k (.t_t es) := by
  intro X W c x h
  unfold ckG at h
  split at h
  · rename_i l kk pos
    obtain ⟨h1, h2⟩ := and_ h
    obtain ⟨p1, p2, p3, p4⟩ := he X W c _ h2 h1
    refine ((pg_tup (n := l.length) c.calm p1 p3 p2).or (pg_lst (n := l.length) c.calm p1 p3 p2)).imp fun v σ H Q ⟨F, φ, ρ, hh, d, hr, er, rd, g⟩ => ?_
    rw [q_t_t] at g
    split at g
    · rename_i ds e
      obtain ⟨a, vs, ev, hq, rs⟩ := seqOf_ok hr rd e
      have hl := p4 F φ H ρ hh ds σ Q g
      have el : vs.length = l.length := by rw [← rs.length]; exact hl
      rcases hq with hq | hq
      · exact .inr ⟨a, vs, ev, by rw [c.fa.hK]; exact hq, el, F, φ, ρ, hh, ds, hr, er, rs, g⟩
      · exact .inl ⟨a, vs, ev, by rw [c.fa.hK]; exact hq, el, F, φ, ρ, hh, ds, hr, er, rs, g⟩
    · exact g.elim
  · cases h
theorem starD_ok {F : Fm} {φ : List Addr} {H : Hp} {d : D} {v : V} {n : Nat} {ds : List D} (r : Rel L F φ H d v) (e : starD n d = some ds) :
    ∃ a vs l, v = .ref a ∧ SqT L.K H a vs ∧ Rels L F φ H l vs ∧ n ≤ vs.length ∧ ds = l.take n ++ [.lst (l.drop n)] := by
  unfold starD at e
  cases r with
  | tup q r =>
    dsimp only [tupOf] at e
    split at e
    · rename_i hb
      cases e
      exact ⟨_, _, _, rfl, q, r, by rw [← r.length]; exact Nat.le_of_ble_eq_true hb, rfl⟩
    · cases e
  | wtup e1 e2 e3 e4 e5 e6 r =>
    dsimp only [tupOf] at e
    split at e
    · rename_i hb
      cases e
      exact ⟨_, _, _, rfl, .inr ⟨_, _, _, e1, e2, e4, e5, e6⟩, r, by rw [← r.length]; exact Nat.le_of_ble_eq_true hb, rfl⟩
    · cases e
  | _ => cases e
theorem unstar_ok (env : PySem.Env) : ∀ {l l' : List Expr}, unstar l = some l' → nsAll l' = true → (assignEach l env).map (·.2) = (assignEach l' env).map (·.2) ∧ (assignEach l env).length = l'.length ∧ ∃ i, l'.length = i + 1 ∧ (assignEach l env).findIdx? (·.1) = some i := fun {l l'} h hn => by
  fun_induction unstar l generalizing l' with
  | case1 => cases h
  | case2 e p =>
    cases h
    obtain ⟨n1, _⟩ := and_ (show (nsB e && nsAll []) = true from hn)
    rw [aEach e [] env n1]
    exact ⟨rfl, rfl, 0, rfl, rfl⟩
  | case3 x xs hx l1 e1 n1 ih =>
    cases h
    obtain ⟨_, n2⟩ := and_ (show (nsB x && nsAll l1) = true from hn)
    obtain ⟨h1, h2, i, h3, h4⟩ := ih e1 n2
    rw [aEach x xs env n1, aEach x l1 env n1]
    refine ⟨by rw [List.map_cons, List.map_cons, h1], by rw [List.length_cons, List.length_cons, h2], i + 1, by rw [List.length_cons, h3], ?_⟩
    rw [List.findIdx?_cons]
    simp [h4]
  | case4 => cases h
  | case5 => cases h
theorem tg_x {n : Nat} {es : E} (he : TgsOk T L P orc k es) : TgOk T L P orc k (.t_x n es) := by
  intro X W c x h
  unfold ckG at h
  split at h
  · rename_i l kk pos
    split at h
    · rename_i l' eu
      obtain ⟨h1, h⟩ := and_ h
      obtain ⟨h2, h3⟩ := and_ h
      have h2 := of_decide_eq_true h2
      obtain ⟨p1, p2, p3, p4⟩ := he X W c _ h3 h1
      obtain ⟨u1, u2, i, u3, u4⟩ := unstar_ok X.env eu h1
      obtain rfl : i = n := by omega
      refine (pg_star (i := i) c.calm p1 u1 (by rw [u2, h2]) u4).imp fun v σ H Q ⟨F, φ, ρ, hh, d, hr, er, rd, g⟩ => ?_
      rw [q_t_x] at g
      split at g
      · rename_i ds e
        obtain ⟨a, vs, l1, ev, hq, rs, hn, ed⟩ := starD_ok rd e
        subst ed
        refine ⟨a, vs, ev, by rw [c.fa.hK]; exact hq, hn, fun p hp => ?_⟩
        have t : XT φ H φ (upd H p (.lst (vs.drop i))) := .fresh hp
        have hr1 : HR L F φ hh (upd H p (.lst (vs.drop i))) := hr.fresh hp
        refine ⟨F, φ, ρ, hh, _, hr1, er.mono t, ((rs.take i).mono t).append (.cons (.lst upd_same (hr.nin hp) (hr.nF hp) ((rs.drop i).mono t)) .nil), ?_⟩
        cases ea : asgs P orc es (l1.take i ++ [.lst (l1.drop i)]) ρ hh with
        | ok ρ' h' =>
          rw [ea] at g
          exact fun φ' H' σ' t' hr' er' sl => g φ' H' σ' (t.trans t') hr' er' sl
        | exc _ _ _ _ =>
          rw [ea] at g
          exact g.elim
        | no =>
          rw [ea] at g
          exact g.elim
      · exact g.elim
    · cases h
  · cases h
theorem tg_s {o i : E} (ho : EvOk T L P orc k o) (hi : EvOk T L P orc k i) : TgOk T L P orc k (.t_s o i) := by
  intro X W c x h
  unfold ckG at h
  split at h
  · rename_i x y pos
    obtain ⟨h1, h⟩ := and_ h
    obtain ⟨h2, h3⟩ := and_ h
    refine (pg_sub (ho X W c _ h2) (hi X W c _ h3) (set_ok (L := L) c.hu) (fun v => ?_)).imp fun v σ H Q ⟨F, φ, ρ, hh, d, hr, er, rd, g⟩ => ?_
    · cases y <;> first | rfl | cases h1
    · rw [q_t_s] at g
      refine ⟨F, φ, ρ, hh, hr, er, ?_⟩
      cases eo : ev P orc o ρ hh with
      | ok dx h1 =>
        rw [eo] at g
        intro φ1 H1 vo t1 hr1 ro
        refine ⟨F, φ1, ρ, h1, hr1, er.mono t1, ?_⟩
        have g : GT L F φ H (tgSlots (.t_s o i)) σ ((ev P orc i ρ h1).bind fun y h2 => match setD dx y d h2 with
          | some h3 => R.ok ρ h3
          | none => R.no) Q := g
        cases ei : ev P orc i ρ h1 with
        | ok dy h2 =>
          rw [ei] at g
          have g : GT L F φ H (tgSlots (.t_s o i)) σ (match setD dx dy d h2 with
            | some h3 => R.ok ρ h3
            | none => R.no) Q := g
          intro φ2 H2 vi t2 hr2 ri
          split at g
          · rename_i h3 es
            refine ⟨F, φ2, h2, dx, dy, d, h3, hr2, ro.mono t2, ri, (rd.mono t1).mono t2, es, fun φ3 H3 t3 hr3 => ?_⟩
            exact g φ3 H3 σ ((t1.trans t2).trans t3) hr3 (((er.mono t1).mono t2).mono t3) (.refl _ _)
          · exact g.elim
        | exc _ _ _ _ =>
          rw [ei] at g
          exact g.elim
        | no =>
          rw [ei] at g
          exact g.elim
      | exc _ _ _ _ =>
        rw [eo] at g
        exact g.elim
      | no =>
        rw [eo] at g
        exact g.elim
  · cases h
end
end MV

set_option maxRecDepth 100000
set_option maxHeartbeats 2000000
/-! VIe: enumerate of a tuple. -/
namespace MV
open PySem PySem.Spec PyProof.Rows L2
theorem two_leE {a b : V} : [a, b].length ≤ sizeLine := by
  rw [sizeLine_eq]
  show 2 ≤ _
  decide
/-- enumerate(v): an iterator of v, then the enumerate -/
theorem en_meets {v : Value} {o : Obj} {Hv : Heap → Prop} (B : Begins v o Hv) :
    Meets (Builtin.«enumerate.__new__» ⟨[.type "enumerate", v], []⟩) (fun _ R s => Hv s.heap ∧ R (.ok (.ret (.ref (s.heap.push o).objs.size))) { s with heap := (s.heap.push o).push { cls := .type "enumerate", data := .fields #[.none, .bool false, .ref s.heap.objs.size, rawInt 0, .none, .none] } }) :=
  .of_wp fun prog w A R st want => by
    obtain ⟨hp, gs, dr, tk, os⟩ := st
    obtain ⟨w1, w2⟩ := want
    have hsub := sub_enumerate
    have start : ∀ {A' : Around} {E : Value → Shared → Prop} {Q : Value → Shared → Prop}, Q (.ref hp.objs.size) ⟨hp.push o, gs, dr, tk, os⟩ → wpAny (model prog w) A' (pyIter v) Q E ⟨hp, gs, dr, tk, os⟩ := fun q => B.iter prog w _ _ ⟨hp, gs, dr, tk, os⟩ _ w1 q
    wp_walk using start
    refine wpAny_stack_any fun sk => wpAny_pure ?_
    split
    · rename_i c _ _ _ _ _
      cases (c == Value.type "enumerate") <;> (wp_walk using start; exact ⟨_, rfl, w2⟩)
    · wp_walk using start
      exact ⟨_, rfl, w2⟩
theorem en_begin {prog : Program} {w : World} {A : Around} {E : Value → Shared → Prop} {s : Shared} {v : Value} {o : Obj} {Hv : Heap → Prop} {Q : Value → Shared → Prop} (B : Begins v o Hv) (h1 : Hv s.heap)
    (hq : ∀ h', IsEnum h' (s.heap.objs.size + 1) s.heap.objs.size 0 .none → h'.get? s.heap.objs.size = some o → (∀ b u, s.heap.get? b = some u → h'.get? b = some u) → Q (.ref (s.heap.objs.size + 1)) { s with heap := h' }) :
    wpAny (model prog w) A (call (.type "enumerate") [v]) Q E s := by
  refine callType_new F.called_enumerate (by decide) (F.typeCall_enumerate_1 _) (F.newCall_enumerate_1 _) (fun obj => F.args_object_init_2 obj _) F.entry_enumerate_new (en_meets B) ⟨h1, ?_⟩
  have sz : (s.heap.push o).objs.size = s.heap.objs.size + 1 := by rw [Heap.size_push]
  show _ ∧ _
  rw [sz]
  have got : IsEnum ((s.heap.push o).push { cls := .type "enumerate", data := .fields #[.none, .bool false, .ref s.heap.objs.size, rawInt 0, .none, .none] }) (s.heap.objs.size + 1) s.heap.objs.size 0 .none := by
    have z := Heap.get?_push_size (s.heap.push o) (o := { cls := .type "enumerate", data := .fields #[.none, .bool false, .ref s.heap.objs.size, rawInt 0, .none, .none] }) rfl
    rwa [sz] at z
  exact ⟨⟨_, got, rfl⟩, hq _ got (Heap.get?_push_of_some _ (Heap.get?_push_size _ B.free)) fun b u x => Heap.get?_push_of_some _ (Heap.get?_push_of_some _ x)⟩
/-- the tuple at a, each item in a new pair -/
def IteT (K : PySem.W.Frag) (a : Addr) : It :=
  ⟨fun i H => ∃ (xs : List V) (x : V), SqT K H a xs ∧ xs[i]? = some x, fun i H v H' => ∃ T x, v = .ref T ∧ H T = none ∧ H' = upd H T (.tup [.int (i : Nat), x]) ∧ ∀ xs, SqT K H a xs → xs[i]? = some x, fun i H => ∃ xs : List V, SqT K H a xs ∧ xs.length ≤ i⟩
theorem turn_enT {P : Program} {w : World} {K : PySem.W.Frag} {elts : List Expr} {kk : Nat} {tpos : Pos} (a e it : Addr) :
    Turn P w K (.Tuple elts kk tpos) (IteT K a) [e, it] e (fun i h => (∃ old, IsEnum h e it ((i : Nat) : Int) old) ∧ h.IsTupleIter it a i ∧ e ≠ it ∧ a ≠ it) where
  mem := List.mem_cons_self
  obj := fun i h st b hb => by
    obtain ⟨⟨old, en⟩, ⟨o, g, _, d⟩, _⟩ := st
    rcases (show b = e ∨ b = it by simpa using hb) with z | z
    · exact ⟨_, z ▸ en, fun v q => (by cases q)⟩
    · exact ⟨o, z ▸ g, fun v q => by rw [d] at q; cases q⟩
  keep := fun i h h' st k => let ⟨⟨old, en⟩, ti, n1, n2⟩ := st; ⟨⟨old, k e (by simp) _ en⟩, ti.at fun o q => k it (by simp) o q, n1, n2⟩
  item := by
    intro X hP hw hK hc i pins s σ H E I hf st hg
    subst hP hw hK
    obtain ⟨⟨old, en⟩, ti, n1, n2⟩ := st
    obtain ⟨xs, x, sq, hx⟩ := hg
    obtain ⟨its, rv, tup, hz⟩ := I.tuple sq
    obtain ⟨u, hu, ru⟩ := rv.get hx
    have le : e < s.heap.objs.size := Heap.lt_size en
    have li : it < s.heap.objs.size := by
      obtain ⟨_, q, _⟩ := ti
      exact Heap.lt_size q
    have tu : s.heap.IsTuple a its.toArray := tup
    have nea : e ≠ a := fun z => by
      obtain ⟨o, q, _, nn, qd⟩ := tu
      rw [← z, en] at q
      cases q
      cases qd
    have D := Draws.tuple (prog := X.prog) (w := X.w) (A := X.A.in1) (I.ok.hd hc) it a n2 its.toArray
    have lt : i < its.toArray.size := by
      have := (List.getElem?_eq_some_iff.mp hu).1
      simpa using this
    refine wpAny_pyNext_enum_itemD D en ⟨ti, tu⟩ lt n1 (by simp [n1, nea]) fun y h' tk hy ho st' hT hsz hk => ?_
    have ey : y = u := by
      have hy : its.toArray[i]? = some y := hy
      rw [List.getElem?_toArray, hu] at hy
      cases hy
      rfl
    subst ey
    refine ⟨_, rfl, wpAny_letOwnedTupleGo_enum (s := { s with heap := h', toks := tk + 1 }) ho fun h2 en2 sb => ?_⟩
    have hT2 : h2.get? s.heap.objs.size = some { cls := .type "tuple", data := .seq #[.int i tk, y] } := (sb.2 _ (Nat.ne_of_gt le)).trans hT
    have new : ObjOk X.prog X.w (upd H s.heap.objs.size (.tup [.int (i : Nat), x])) h2 s.heap.objs.size (.tup [.int (i : Nat), x]) := ⟨two_leE, [.int i tk, y], .cons ⟨_, rfl⟩ (.cons ru .nil), ⟨_, hT2, rfl, _, rfl⟩⟩
    have J : Inv X pins σ (upd H s.heap.objs.size (.tup [.int (i : Nat), x])) { s with heap := h2, toks := tk + 1 } :=
      I.turnedNew (ch := [e, it]) (fun b ob hb q => (sb.2 b (fun z => hb (by simp [z]))).trans (hk b ob (fun z => hb (by simp [z])) (fun z => hb (by simp [z])) q)) hf (Nat.le_refl _) new
    refine ⟨.ref s.heap.objs.size, _, J, rfl, ⟨_, x, rfl, I.hok.fresh (Nat.le_refl _), rfl, fun ys hy => by rw [I.tuple_inj hy sq]; exact hx⟩, ⟨⟨y, ?_⟩, st'.1.at fun o q => (sb.2 it (Ne.symm n1)).trans q, n1, n2⟩, fun b hb => ?_⟩
    · rw [show ((i + 1 : Nat) : Int) = (i : Int) + 1 by omega]
      exact en2
    · have lb : b < s.heap.objs.size := by
        rcases (show b = e ∨ b = it by simpa using hb) with z | z
        · exact z ▸ le
        · exact z ▸ li
      rw [upd_ne (Nat.ne_of_lt lb)]
      exact (hf b hb).1
  done := by
    intro X hP hw hK hc i pins s σ H E I hf st hg
    subst hP hw hK
    obtain ⟨⟨old, en⟩, ti, n1, n2⟩ := st
    obtain ⟨xs, sq, hx⟩ := hg
    obtain ⟨its, rv, tup, hz⟩ := I.tuple sq
    have tu : s.heap.IsTuple a its.toArray := tup
    obtain ⟨f0, f1, f2, f3, f4, f5⟩ := hf it (by simp)
    have nn : its.toArray[i]? = none := by
      have := rv.length
      rw [List.getElem?_toArray, List.getElem?_eq_none]
      omega
    have D : Draws X.prog X.w X.A.in1 it [it, a] i (fun _ _ => False) (fun j h => j = i ∧ h.IsTupleIter it a i ∧ h.IsTuple a its.toArray) := {
      live := fun _ _ st => let ⟨o, ho, _⟩ := st.2.1; ⟨o, ho⟩
      frame := fun _ _ _ st k => ⟨st.1, st.2.1.at fun o q => k it (by simp) o q, st.2.2.at fun o q => k a (by simp) o q⟩
      item := fun j _ _ _ lt st _ => absurd st.1 (Nat.ne_of_lt lt)
      done := fun s2 Q E st hE => wpAny_nextOf_tuple_end (I.ok.hd hc) st.2.1 st.2.2 nn hE }
    exact wpAny_pyNext_enum_endD D en ⟨rfl, ti, tu⟩ fun h' eb => ⟨rfl, I.turned (t' := s.toks) (fun b o hb q => eb b o hb q) f0 f1 f3 f4 f5⟩
  self := fun A i s Q E st h => let ⟨⟨_, en⟩, _⟩ := st; wpAny_pyIter_enum en h
/-- enumerate of a list, of a tuple -/
def iEnA (K : PySem.W.Frag) (ta : TA) : TI := fun σ H R => ta σ H fun vs H1 => ∃ a xs, vs = [.ref a] ∧ ((SqL K H1 a xs ∧ R (Ite K a) H1) ∨ (SqT K H1 a xs ∧ R (IteT K a) H1))
theorem pi_enA {X : Cx} {e : Expr} {ta : TA} {p pos tpos : Pos} {elts : List Expr} {kk : Nat} (hg : Gl X "enumerate") (hm : X.mg "enumerate" = none) (ha : PA X [e] ta) (hs : starEach [e] X.env = [(false, eval e X.env)]) : PI X (.Tuple elts kk tpos) (.Call (.Name "enumerate" p) [e] [] pos) (iEnA X.K ta) := by
  refine ⟨fun pins s σ H R I h => ?_⟩
  refine Call_ (ld_blt I hg hm boot_enumerate (PyProof.Rows.callWith_type1 (thn (ha.run pos pins s σ H _ I h) fun us s1 ⟨vs, H1, I1, r1, a, xs, ev, q⟩ => ?_) hs rfl))
  subst ev
  cases r1 with
  | cons r rr =>
    cases rr
    cases r
    have free2 : ∀ b ∈ [s1.heap.objs.size + 1, s1.heap.objs.size], FpOk X pins H1 b := fun b hb => by
      have z : s1.heap.objs.size ≤ b := by
        rcases (show b = s1.heap.objs.size + 1 ∨ b = s1.heap.objs.size by simpa using hb) with z | z
        · rw [z]
          exact Nat.le_add_right _ _
        · rw [z]
          exact Nat.le_refl _
      exact I1.fpOk z (I1.hok.fresh z)
    rcases q with ⟨sq, q⟩ | ⟨sq, q⟩
    · obtain ⟨its, rv, p', hz⟩ := I1.list sq
      refine call_enumerate_list p'.isList fun h' en it sz k => wpAny_pyIter_enum en ?_
      exact ⟨s1.heap.objs.size + 1, _, _, _, H1, rfl, I1.kept (t' := s1.toks) k, turn_enum a (s1.heap.objs.size + 1) s1.heap.objs.size, ⟨⟨.none, en⟩, it, Nat.succ_ne_self _⟩, free2, q⟩
    · obtain ⟨its, rv, tup, hz⟩ := I1.tuple sq
      have tu : s1.heap.IsTuple a its.toArray := tup
      refine en_begin (begins_tuple a its.toArray) tu fun h' en it k => wpAny_pyIter_enum en ?_
      have na : a ≠ s1.heap.objs.size := fun z => by
        obtain ⟨o, g, _⟩ := tu
        exact absurd (Heap.lt_size g) (by rw [z]; exact Nat.lt_irrefl _)
      exact ⟨s1.heap.objs.size + 1, _, _, _, H1, rfl, I1.kept (t' := s1.toks) k, turn_enT a (s1.heap.objs.size + 1) s1.heap.objs.size, ⟨⟨.none, en⟩, ⟨_, it, rfl, rfl⟩, Nat.succ_ne_self _, na⟩, free2, q⟩
end MV

set_option maxRecDepth 100000
set_option maxHeartbeats 1000000
/-! VZ: zip of a list and a tuple. Each of the two sources is told by how its iterator and its items lie, so that the turn is walked once. -/
namespace MV
open PySem PySem.Spec PyProof.Rows L2
open PySem.Sem (wp)
/-- an iterator at `it` over the items at `l`: its place, and what lies at `l` -/
structure Feed (it l : Addr) where
  pl : Heap → Nat → Prop
  ob : Heap → Array Value → Prop
structure Feed.Ok {it l : Addr} (S : Feed it l) : Prop where
  plK : ∀ {h h' n}, S.pl h n → (∀ o, h.get? it = some o → h'.get? it = some o) → S.pl h' n
  obK : ∀ {h h' a}, S.ob h a → (∀ o, h.get? l = some o → h'.get? l = some o) → S.ob h' a
  lt : ∀ {h n}, S.pl h n → it < h.objs.size
  inc : ∀ {prog : Program} {w : World} {A : Around} {E : Value → Shared → Prop} {s : Shared} {n a x} {Q : Value → Shared → Prop}, S.pl s.heap n → S.ob s.heap a → a[n]? = some x →
    (∀ h', S.pl h' (n + 1) → Heap.SameBut it s.heap h' → Q x { s with heap := h' }) → wpAny (model prog w) A (Builtin.SmallTypes.nextOf (.ref it)) Q E s
  fin : ∀ {prog : Program} {w : World} {A : Around} {E : Value → Shared → Prop} {s : Shared} {n a} {Q : Value → Shared → Prop}, A.handled = none → S.pl s.heap n → S.ob s.heap a → a[n]? = none →
    (∀ h' e, Heap.ExtBut it s.heap h' → (∃ o, h'.get? e = some o ∧ o.cls = .type "StopIteration") → E (.ref e) { s with heap := h' }) → wpAny (model prog w) A (Builtin.SmallTypes.nextOf (.ref it)) Q E s
def feedL (it l : Addr) : Feed it l := ⟨fun h n => h.IsListIter it l n, fun h a => h.IsList l a⟩
def feedT (it l : Addr) : Feed it l := ⟨fun h n => h.IsTupleIter it l n, fun h a => h.IsTuple l a⟩
theorem feedL_ok (it l : Addr) : (feedL it l).Ok where
  plK := fun p k => let ⟨o, e, r⟩ := p; ⟨o, k _ e, r⟩
  obK := fun p k => let ⟨o, e, r⟩ := p; ⟨o, k _ e, r⟩
  lt := fun ⟨_, e, _⟩ => Heap.lt_size e
  inc := fun p q e k => wpAny_nextOf_list_item p q e k
  fin := fun hh p q e k => wpAny_nextOf_list_end hh p q e k
theorem feedT_ok (it l : Addr) : (feedT it l).Ok where
  plK := fun p k => let ⟨o, e, r⟩ := p; ⟨o, k _ e, r⟩
  obK := fun p k => let ⟨o, e, r⟩ := p; ⟨o, k _ e, r⟩
  lt := fun ⟨_, e, _⟩ => Heap.lt_size e
  inc := fun p q e k => RZ.nextOf_tuple_item p q e k
  fin := fun hh p q e k => RZ.nextOf_tuple_end hh p q e k
section
variable {prog : Program} {w : World} {A : Around} {E : Value → Shared → Prop} {s : Shared} {z TI TO u v la lb : Addr} {S1 : Feed u la} {S2 : Feed v lb} {m n : Nat} {as bs : Array Value} {x y p q : Value}
/-- both iterators yield: a new pair -/
theorem two_step (g1 : S1.Ok) (g2 : S2.Ok) {Q : Value → Shared → Prop} (D : ZipApart z TI TO u v la lb) (hz : IsZip s.heap z TI TO .none) (hI : IsPair s.heap TI (.ref u) (.ref v)) (hO : IsPair s.heap TO p q)
    (p1 : S1.pl s.heap m) (p2 : S2.pl s.heap n) (o1 : S1.ob s.heap as) (o2 : S2.ob s.heap bs) (hx : as[m]? = some x) (hy : bs[n]? = some y)
    (K : ∀ h', IsZip h' z TI TO (rawInt s.heap.objs.size) → IsPair h' TO x y → S1.pl h' (m + 1) → S2.pl h' (n + 1) → IsPair h' s.heap.objs.size x y → h'.objs.size = s.heap.objs.size + 1 →
      (∀ c o, c ≠ z → c ≠ TO → c ≠ u → c ≠ v → s.heap.get? c = some o → h'.get? c = some o) → Q (.ref s.heap.objs.size) { s with heap := h' }) :
    wpAny (model prog w) A (Builtin.«zip.__next__» ⟨[.ref z], []⟩) (fun fin s' => ∃ r, fin = .done (.ret r) ∧ Q r s') E s := by
  show wpAny _ _ (field (.ref z) 2 >>= _) _ _ _
  refine wpAny_bind (wpAny_field hz rfl (x := .bool false) rfl ?_)
  show wpAny _ _ (field (.ref z) 3 >>= _) _ _ _
  refine wpAny_bind (wpAny_field hz rfl (x := .ref TI) rfl (wpAny_bind (wpAny_seqItems hI rfl ?_)))
  show wpAny _ _ (Builtin.SmallTypes.ownedTupleIsFree (.ref z) >>= _) _ _ _
  refine wpAny_bind ?_
  unfold Builtin.SmallTypes.ownedTupleIsFree
  refine wpAny_bind (wpAny_field hz rfl (x := .none) rfl (wpAny_pure ?_))
  simp only [if_true]
  refine wpAny_bind (wpAny_rule (wpAny_bind (wpAny_field hz rfl (x := .ref TO) rfl ?_)))
  refine wpAny_bind (wpAny_setField_rec hz (by simp) fun ha za ka => ?_)
  have na : ∀ c o, c ≠ z → s.heap.get? c = some o → ha.get? c = some o := fun c o c1 e => ka.extBut _ _ c1 e
  have za : IsZip ha z TI TO .ellipsis := za
  refine wpAny_bind ?_
  simp only [List.zipIdx_cons, List.zipIdx_nil, List.forIn_cons, List.forIn_nil]
  refine wpAny_bind (wpAny_bind (wpAny_onRaise ?_))
  show wpAny _ _ (Builtin.SmallTypes.nextOf (.ref u) >>= _) _ _ _
  refine wpAny_bind (g1.inc (g1.plK p1 fun o e => na _ _ D.i1z e) (g1.obK o1 fun o e => na _ _ D.l1z e) hx fun hb pb kb => wpAny_pure ?_)
  have nb : ∀ c o, c ≠ z → c ≠ u → s.heap.get? c = some o → hb.get? c = some o := fun c o c1 c2 e => kb.extBut _ _ c2 (na c o c1 e)
  have ob : IsPair hb TO p q := nb _ _ D.TOz D.TOi1 hO
  refine wpAny_bind (wpAny_seqItems ob rfl (wpAny_bind (wpAny_updateSeq_pair ob fun hc oc kc => ?_)))
  have oc : IsPair hc TO x q := oc
  have nc : ∀ c o, c ≠ z → c ≠ u → c ≠ TO → s.heap.get? c = some o → hc.get? c = some o := fun c o c1 c2 c3 e => kc.extBut _ _ c3 (nb c o c1 c2 e)
  refine wpAny_bind (wpAny_letGo (wpAny_pure ?_))
  refine wpAny_bind (wpAny_bind (wpAny_onRaise ?_))
  show wpAny _ _ (Builtin.SmallTypes.nextOf (.ref v) >>= _) _ _ _
  refine wpAny_bind (g2.inc (g2.plK p2 fun o e => nc _ _ D.i2z D.i12.symm D.TOi2.symm e) (g2.obK o2 fun o e => nc _ _ D.l2z D.l2i1 D.l2TO e) hy fun hd pd kd => wpAny_pure ?_)
  have od : IsPair hd TO x q := kd.extBut _ _ D.TOi2 oc
  refine wpAny_bind (wpAny_seqItems od rfl (wpAny_bind (wpAny_updateSeq_pair od fun he oe ke => ?_)))
  have oe : IsPair he TO x y := oe
  refine wpAny_bind (wpAny_letGo (wpAny_pure (wpAny_pure ?_)))
  refine wpAny_bind (wpAny_seqItems oe rfl (wpAny_bind (wpAny_newTuple ?_)))
  have size : he.objs.size = s.heap.objs.size := by rw [ke.1, kd.1, kc.1, kb.1, ka.1]
  have ne : ∀ c o, c ≠ z → c ≠ TO → c ≠ u → c ≠ v → s.heap.get? c = some o → he.get? c = some o := fun c o c1 c2 c3 c4 e => ke.extBut _ _ c2 (kd.extBut _ _ c4 (nc c o c1 c3 c2 e))
  have ze : IsZip he z TI TO .ellipsis := ke.extBut _ _ D.TOz.symm (kd.extBut _ _ D.i2z.symm (kc.extBut _ _ D.TOz.symm (kb.extBut _ _ D.i1z.symm za)))
  have pe1 : S1.pl he (m + 1) := g1.plK pb fun o e => ke.extBut _ _ D.TOi1.symm (kd.extBut _ _ D.i12 (kc.extBut _ _ D.TOi1.symm e))
  have pe2 : S2.pl he (n + 1) := g2.plK pd fun o e => ke.extBut _ _ D.TOi2.symm e
  have zl : z < he.objs.size := Heap.lt_size ze
  show wpAny _ _ (Builtin.SmallTypes.ownedTupleHandOut (.ref z) (.ref he.objs.size) >>= _) _ _ _
  refine wpAny_bind ?_
  unfold Builtin.SmallTypes.ownedTupleHandOut
  have zf : IsZip (he.push { cls := .type "tuple", data := .seq #[x, y] }) z TI TO .ellipsis := Heap.get?_push_of_some _ ze
  refine wpAny_bind (wpAny_setField_rec zf (by simp) fun hg zg kg => ?_)
  have zg : IsZip hg z TI TO (rawInt he.objs.size) := zg
  refine wpAny_setField_rec zg (by simp) fun hk zk kk => ?_
  have zk : IsZip hk z TI TO (rawInt he.objs.size) := zk
  have nk : ∀ c o, c ≠ z → he.get? c = some o → hk.get? c = some o := fun c o c1 e => kk.extBut _ _ c1 (kg.extBut _ _ c1 (Heap.get?_push_of_some _ e))
  have tk : IsPair hk he.objs.size x y := kk.extBut _ _ (Nat.ne_of_gt zl) (kg.extBut _ _ (Nat.ne_of_gt zl) (Heap.get?_push_size _ rfl))
  have sk : hk.objs.size = he.objs.size + 1 := by rw [kk.1, kg.1, Heap.size_push]
  rw [size] at zk tk sk
  refine wpAny_pure ⟨_, rfl, ?_⟩
  show Q (.ref he.objs.size) _
  rw [size]
  exact K hk zk (nk _ _ D.TOz oe) (g1.plK pe1 fun o e => nk _ _ D.i1z e) (g2.plK pe2 fun o e => nk _ _ D.i2z e) tk sk fun c o c1 c2 c3 c4 e => nk c o c1 (ne c o c1 c2 c3 c4 e)
/-- one of them is at its end -/
theorem two_stop (g1 : S1.Ok) (g2 : S2.Ok) {Q : Fin → Shared → Prop} (hh : A.handled = none) (D : ZipApart z TI TO u v la lb) (hz : IsZip s.heap z TI TO .none) (hI : IsPair s.heap TI (.ref u) (.ref v)) (hO : IsPair s.heap TO p q)
    (p1 : S1.pl s.heap m) (p2 : S2.pl s.heap n) (o1 : S1.ob s.heap as) (o2 : S2.ob s.heap bs) (hend : as[m]? = none ∨ bs[n]? = none)
    (K : ∀ h' e, (∀ c o, c ≠ z → c ≠ TO → c ≠ u → c ≠ v → s.heap.get? c = some o → h'.get? c = some o) → (∃ o, h'.get? e = some o ∧ o.cls = .type "StopIteration") → E (.ref e) { s with heap := h' }) :
    wpAny (model prog w) A (Builtin.«zip.__next__» ⟨[.ref z], []⟩) Q E s := by
  show wpAny _ _ (field (.ref z) 2 >>= _) _ _ _
  refine wpAny_bind (wpAny_field hz rfl (x := .bool false) rfl ?_)
  show wpAny _ _ (field (.ref z) 3 >>= _) _ _ _
  refine wpAny_bind (wpAny_field hz rfl (x := .ref TI) rfl (wpAny_bind (wpAny_seqItems hI rfl ?_)))
  show wpAny _ _ (Builtin.SmallTypes.ownedTupleIsFree (.ref z) >>= _) _ _ _
  refine wpAny_bind ?_
  unfold Builtin.SmallTypes.ownedTupleIsFree
  refine wpAny_bind (wpAny_field hz rfl (x := .none) rfl (wpAny_pure ?_))
  simp only [if_true]
  refine wpAny_bind (wpAny_rule (wpAny_bind (wpAny_field hz rfl (x := .ref TO) rfl ?_)))
  refine wpAny_bind (wpAny_setField_rec hz (by simp) fun ha za ka => ?_)
  have na : ∀ c o, c ≠ z → s.heap.get? c = some o → ha.get? c = some o := fun c o c1 e => ka.extBut _ _ c1 e
  have za : IsZip ha z TI TO .ellipsis := za
  refine wpAny_bind ?_
  simp only [List.zipIdx_cons, List.zipIdx_nil, List.forIn_cons, List.forIn_nil]
  refine wpAny_bind (wpAny_bind (wpAny_onRaise ?_))
  show wpAny _ _ (Builtin.SmallTypes.nextOf (.ref u) >>= _) _ _ _
  have last : ∀ {h h3 : Heap} {e : Addr} {o : Obj}, IsZip h z TI TO .ellipsis → h.get? e = some o → o.cls = .type "StopIteration" → Heap.SameBut z h h3 → h3.get? e = some o := fun {h h3 e o} zz eo ec k => k.extBut _ _ (fun w => by
    subst w
    rw [zz] at eo
    cases eo
    simp at ec) eo
  cases hx : as[m]? with
  | none =>
    refine wpAny_bind (g1.fin hh (g1.plK p1 fun o e => na _ _ D.i1z e) (g1.obK o1 fun o e => na _ _ D.l1z e) hx fun hb e kb ⟨oe, ho, hc⟩ => ?_)
    have zb : IsZip hb z TI TO .ellipsis := kb _ _ D.i1z.symm za
    exact wpAny_setField_rec zb (by simp) fun hc' _ kc => K hc' e (fun c o c1 _ c3 _ x => kc.extBut _ _ c1 (kb _ _ c3 (na c o c1 x))) ⟨oe, last zb ho hc kc, hc⟩
  | some x =>
    have hy : bs[n]? = none := hend.resolve_left fun w => by
      rw [hx] at w
      cases w
    refine wpAny_bind (g1.inc (g1.plK p1 fun o e => na _ _ D.i1z e) (g1.obK o1 fun o e => na _ _ D.l1z e) hx fun hb pb kb => wpAny_pure ?_)
    have nb : ∀ c o, c ≠ z → c ≠ u → s.heap.get? c = some o → hb.get? c = some o := fun c o c1 c2 e => kb.extBut _ _ c2 (na c o c1 e)
    have ob : IsPair hb TO p q := nb _ _ D.TOz D.TOi1 hO
    refine wpAny_bind (wpAny_seqItems ob rfl (wpAny_bind (wpAny_updateSeq_pair ob fun hc oc kc => ?_)))
    have nc : ∀ c o, c ≠ z → c ≠ u → c ≠ TO → s.heap.get? c = some o → hc.get? c = some o := fun c o c1 c2 c3 e => kc.extBut _ _ c3 (nb c o c1 c2 e)
    have zc : IsZip hc z TI TO .ellipsis := kc.extBut _ _ D.TOz.symm (kb.extBut _ _ D.i1z.symm za)
    refine wpAny_bind (wpAny_letGo (wpAny_pure ?_))
    refine wpAny_bind (wpAny_bind (wpAny_onRaise ?_))
    show wpAny _ _ (Builtin.SmallTypes.nextOf (.ref v) >>= _) _ _ _
    refine wpAny_bind (g2.fin hh (g2.plK p2 fun o e => nc _ _ D.i2z D.i12.symm D.TOi2.symm e) (g2.obK o2 fun o e => nc _ _ D.l2z D.l2i1 D.l2TO e) hy fun hd e kd ⟨oe, ho, hcl⟩ => ?_)
    have zd : IsZip hd z TI TO .ellipsis := kd _ _ D.i2z.symm zc
    exact wpAny_setField_rec zd (by simp) fun hf _ kf => K hf e (fun c o c1 c2 c3 c4 x => kf.extBut _ _ c1 (kd _ _ c4 (nc c o c1 c3 c2 x))) ⟨oe, last zd ho hcl kf, hcl⟩
theorem two_item (g1 : S1.Ok) (g2 : S2.Ok) {Q : Option Value → Shared → Prop} (D : ZipApart z TI TO u v la lb) (hz : IsZip s.heap z TI TO .none) (hI : IsPair s.heap TI (.ref u) (.ref v)) (hO : IsPair s.heap TO p q)
    (p1 : S1.pl s.heap m) (p2 : S2.pl s.heap n) (o1 : S1.ob s.heap as) (o2 : S2.ob s.heap bs) (hx : as[m]? = some x) (hy : bs[n]? = some y)
    (K : ∀ h', IsZip h' z TI TO (rawInt s.heap.objs.size) → IsPair h' TO x y → S1.pl h' (m + 1) → S2.pl h' (n + 1) → IsPair h' s.heap.objs.size x y → h'.objs.size = s.heap.objs.size + 1 →
      (∀ c o, c ≠ z → c ≠ TO → c ≠ u → c ≠ v → s.heap.get? c = some o → h'.get? c = some o) → Q (some (.ref s.heap.objs.size)) { s with heap := h' }) :
    wpAny (model prog w) A (pyNext (.ref z)) Q E s := by
  have ty : s.TypeIs (.ref z) "zip" := ⟨_, hz, rfl⟩
  unfold pyNext
  refine wpAny_bind (wpAny_attempt (wpAny_callSpecial?_slot (name := Str.ofString "__next__") ty F.slot_zip_next (wpAny_call_entry F.slot_zip_next ty F.entry_zip_next ?_ (F.args_zip_next_1 _))))
  exact two_step g1 g2 D hz hI hO p1 p2 o1 o2 hx hy fun h' b1 b2 b3 b4 b5 b6 b7 => wpAny_pure (K h' b1 b2 b3 b4 b5 b6 b7)
theorem two_end (g1 : S1.Ok) (g2 : S2.Ok) {Q : Option Value → Shared → Prop} (hh : A.handled = none) (D : ZipApart z TI TO u v la lb) (hz : IsZip s.heap z TI TO .none) (hI : IsPair s.heap TI (.ref u) (.ref v)) (hO : IsPair s.heap TO p q)
    (p1 : S1.pl s.heap m) (p2 : S2.pl s.heap n) (o1 : S1.ob s.heap as) (o2 : S2.ob s.heap bs) (hend : as[m]? = none ∨ bs[n]? = none)
    (K : ∀ h', (∀ c o, c ≠ z → c ≠ TO → c ≠ u → c ≠ v → s.heap.get? c = some o → h'.get? c = some o) → Q none { s with heap := h' }) : wpAny (model prog w) A (pyNext (.ref z)) Q E s := by
  have ty : s.TypeIs (.ref z) "zip" := ⟨_, hz, rfl⟩
  unfold pyNext
  refine wpAny_bind (wpAny_attempt (wpAny_callSpecial?_slot (name := Str.ofString "__next__") ty F.slot_zip_next (wpAny_call_entry F.slot_zip_next ty F.entry_zip_next ?_ (F.args_zip_next_1 _))))
  refine two_stop g1 g2 hh D hz hI hO p1 p2 o1 o2 hend fun h' e hk ⟨o, ho, hc⟩ => ?_
  exact wpAny_bind (wpAny_isInstance (T := "StopIteration") (b := true) ⟨o, ho, hc⟩ isSubtype_stop (wpAny_pure (K _ hk)))
end

/-- zip(list, tuple) made: five new objects, the last the zip -/
theorem two_new (l t : Addr) (as bs : Array Value) :
    Meets (Builtin.«zip.__new__» ⟨[.type "zip", .ref l, .ref t], []⟩) (fun _ R s => s.heap.IsList l as ∧ s.heap.IsTuple t bs ∧ ∀ h',
      (∃ n0 n1 n2 n3 : Heap, n0 = s.heap.push { cls := .type "list_iterator", data := .fields #[.ref l, .int 0 0] } ∧ n1 = n0.push { cls := .type "tuple_iterator", data := .fields #[.ref t, .int 0 0] } ∧
        n2 = n1.push { cls := .type "tuple", data := .seq #[.ref s.heap.objs.size, .ref n0.objs.size] } ∧ n3 = n2.push { cls := .type "tuple", data := .seq #[.none, .none] } ∧
        h' = n3.push { cls := .type "zip", data := .fields #[.none, .bool false, .bool false, .ref n1.objs.size, .ref n2.objs.size] }) → R (.ok (.ret (.ref (s.heap.objs.size + 4)))) { s with heap := h' }) :=
  .of_wp fun prog w A R s h => by
    obtain ⟨hp, g, d, tk, os⟩ := s
    obtain ⟨hl, ht, h⟩ := h
    have sub := sub_zip
    have L1 : Heap.IsList (Shared.heap ⟨hp, g, d, tk, os⟩) l as := hl
    have L2 : Heap.IsTuple (Shared.heap ⟨hp.push { cls := .type "list_iterator", data := .fields #[.ref l, .int 0 0] }, g, d, tk, os⟩) t bs := Heap.IsTuple.push ht _
    have e := h _ ⟨_, _, _, _, rfl, rfl, rfl, rfl, rfl⟩
    have z4 : (((((hp.push { cls := .type "list_iterator", data := .fields #[.ref l, .int 0 0] }).push { cls := .type "tuple_iterator", data := .fields #[.ref t, .int 0 0] }).push { cls := .type "tuple", data := .seq #[.ref hp.objs.size, .ref (hp.push { cls := .type "list_iterator", data := .fields #[.ref l, .int 0 0] }).objs.size] }).push { cls := .type "tuple", data := .seq #[.none, .none] })).objs.size = hp.objs.size + 4 := by
      simp only [Heap.size_push]
    rw [← z4] at e
    wp_walk using wpAny_pyIter_list L1, wpAny_pyIter_tuple L2
    exact ⟨_, rfl, e⟩
section
variable {prog : Program} {w : World} {A : Around} {E : Value → Shared → Prop} {s : Shared}
theorem call_two {l t : Addr} {as bs : Array Value} {Q : Value → Shared → Prop} (hl : s.heap.IsList l as) (ht : s.heap.IsTuple t bs)
    (K : ∀ h', IsZip h' (s.heap.objs.size + 4) (s.heap.objs.size + 2) (s.heap.objs.size + 3) .none → IsPair h' (s.heap.objs.size + 2) (.ref s.heap.objs.size) (.ref (s.heap.objs.size + 1)) →
      IsPair h' (s.heap.objs.size + 3) .none .none → h'.IsListIter s.heap.objs.size l 0 → h'.IsTupleIter (s.heap.objs.size + 1) t 0 →
      (∀ c o, s.heap.get? c = some o → h'.get? c = some o) → Q (.ref (s.heap.objs.size + 4)) { s with heap := h' }) :
    wpAny (model prog w) A (call (.type "zip") [.ref l, .ref t]) Q E s := by
  refine callType_new F.called_zip (by decide) (F.typeCall_zip_2 _ _) (F.newCall_zip_2 _ _) (fun obj => F.args_object_init_3 obj _ _) F.entry_zip_new
    (two_new l t as bs) ⟨hl, ht, ?_⟩
  rintro h' ⟨n0, n1, n2, n3, e0, e1, e2, e3, e4⟩
  have s0 : n0.objs.size = s.heap.objs.size + 1 := by rw [e0, Heap.size_push]
  have s1 : n1.objs.size = s.heap.objs.size + 2 := by rw [e1, Heap.size_push, s0]
  have s2 : n2.objs.size = s.heap.objs.size + 3 := by rw [e2, Heap.size_push, s1]
  have s3 : n3.objs.size = s.heap.objs.size + 4 := by rw [e3, Heap.size_push, s2]
  have k4 : ∀ c o, n3.get? c = some o → h'.get? c = some o := fun c o x => by rw [e4]; exact Heap.get?_push_of_some _ x
  have k3 : ∀ c o, n2.get? c = some o → h'.get? c = some o := fun c o x => k4 c o (by rw [e3]; exact Heap.get?_push_of_some _ x)
  have k2 : ∀ c o, n1.get? c = some o → h'.get? c = some o := fun c o x => k3 c o (by rw [e2]; exact Heap.get?_push_of_some _ x)
  have k1 : ∀ c o, n0.get? c = some o → h'.get? c = some o := fun c o x => k2 c o (by rw [e1]; exact Heap.get?_push_of_some _ x)
  have k0 : ∀ c o, s.heap.get? c = some o → h'.get? c = some o := fun c o x => k1 c o (by rw [e0]; exact Heap.get?_push_of_some _ x)
  have q4 : h'.get? (s.heap.objs.size + 4) = some { cls := .type "zip", data := .fields #[.none, .bool false, .bool false, .ref n1.objs.size, .ref n2.objs.size] } := by rw [e4, ← s3]; exact Heap.get?_push_size _ rfl
  have q3 : h'.get? (s.heap.objs.size + 3) = some { cls := .type "tuple", data := .seq #[.none, .none] } := k4 _ _ (by rw [e3, ← s2]; exact Heap.get?_push_size _ rfl)
  have q2 : h'.get? (s.heap.objs.size + 2) = some { cls := .type "tuple", data := .seq #[.ref s.heap.objs.size, .ref n0.objs.size] } := k3 _ _ (by rw [e2, ← s1]; exact Heap.get?_push_size _ rfl)
  have q1 : h'.get? (s.heap.objs.size + 1) = some { cls := .type "tuple_iterator", data := .fields #[.ref t, .int 0 0] } := k2 _ _ (by rw [e1, ← s0]; exact Heap.get?_push_size _ rfl)
  have q0 : h'.get? s.heap.objs.size = some { cls := .type "list_iterator", data := .fields #[.ref l, .int 0 0] } := k1 _ _ (by rw [e0]; exact Heap.get?_push_size _ rfl)
  rw [s1, s2] at q4
  rw [s0] at q2
  exact ⟨⟨_, q4, rfl⟩, K _ q4 q2 q3 ⟨_, q0, rfl, rfl⟩ ⟨_, q1, rfl, rfl⟩ k0⟩
end
/-- a list at `a` and a tuple at `b` as they stand at each turn, in new pairs -/
def ItzM (K : PySem.W.Frag) (a b : Addr) : It where
  go := fun i H => ∃ (xs ys : List V) (x y : V), SqL K H a xs ∧ SqT K H b ys ∧ xs[i]? = some x ∧ ys[i]? = some y
  yld := fun i H r H' => ∃ T x y, r = .ref T ∧ H T = none ∧ H' = upd H T (.tup [x, y]) ∧ (∀ xs, SqL K H a xs → xs[i]? = some x) ∧ ∀ ys, SqT K H b ys → ys[i]? = some y
  stop := fun i H => ∃ xs ys : List V, SqL K H a xs ∧ SqT K H b ys ∧ (xs.length ≤ i ∨ ys.length ≤ i)
theorem turn_two {P : Program} {w : World} {K : PySem.W.Frag} {elts : List Expr} {kk : Nat} {tpos : Pos} {a b z TI TO u v : Addr} (D : ZipApart z TI TO u v a b) :
    Turn P w K (.Tuple elts kk tpos) (ItzM K a b) [z, TI, TO, u, v] z (fun i h => IsZip h z TI TO .none ∧ IsPair h TI (.ref u) (.ref v) ∧ (∃ x y, IsPair h TO x y) ∧ h.IsListIter u a i ∧ h.IsTupleIter v b i) where
  mem := .head _
  obj := fun i h ⟨hz, hI, ⟨x, y, hO⟩, ⟨o1, e1, _, d1⟩, ⟨o2, e2, _, d2⟩⟩ c hc => by
    rcases List.mem_cons.mp hc with r | hc
    · exact r ▸ ⟨_, hz, fun _ w => nomatch w⟩
    rcases List.mem_cons.mp hc with r | hc
    · exact r ▸ ⟨_, hI, fun _ w => nomatch w⟩
    rcases List.mem_cons.mp hc with r | hc
    · exact r ▸ ⟨_, hO, fun _ w => nomatch w⟩
    rcases List.mem_cons.mp hc with r | hc
    · exact r ▸ ⟨o1, e1, fun _ w => by rw [d1] at w; cases w⟩
    obtain r := List.mem_singleton.mp hc
    exact r ▸ ⟨o2, e2, fun _ w => by rw [d2] at w; cases w⟩
  keep := fun i h h' ⟨hz, hI, ⟨x, y, hO⟩, p1, p2⟩ k =>
    ⟨k z (by simp) _ hz, k TI (by simp) _ hI, ⟨x, y, k TO (by simp) _ hO⟩, (feedL_ok u a).plK p1 fun o w => k u (by simp) o w, (feedT_ok v b).plK p2 fun o w => k v (by simp) o w⟩
  item := by
    intro X eP ew eK clean i pins s σ H E I fp st more
    subst eP ew eK
    obtain ⟨hz, hI, ⟨x0, y0, hO⟩, p1, p2⟩ := st
    obtain ⟨xs, ys, x, y, qx, qy, ex, ey⟩ := more
    obtain ⟨ls, rl, wl, _⟩ := I.list qx
    obtain ⟨ts, rt, wt, _⟩ := I.tuple qy
    obtain ⟨cx, hcx, rx⟩ := rl.get ex
    obtain ⟨cy, hcy, ry⟩ := rt.get ey
    have zl : z < s.heap.objs.size := Heap.lt_size hz
    have all : ∀ c, c ∈ [z, TI, TO, u, v] → c < s.heap.objs.size := fun c hc => by
      rcases List.mem_cons.mp hc with r | hc
      · exact r ▸ zl
      rcases List.mem_cons.mp hc with r | hc
      · exact r ▸ Heap.lt_size hI
      rcases List.mem_cons.mp hc with r | hc
      · exact r ▸ Heap.lt_size hO
      rcases List.mem_cons.mp hc with r | hc
      · exact r ▸ (feedL_ok u a).lt p1
      obtain r := List.mem_singleton.mp hc
      exact r ▸ (feedT_ok v b).lt p2
    refine two_item (feedL_ok u a) (feedT_ok v b) D hz hI hO p1 p2 wl.isList wt (x := cx) (y := cy) (by simpa using hcx) (by simpa using hcy) fun g hz' hO' p1' p2' nt sz keep => ?_
    refine ⟨_, rfl, wpAny_letOwnedTupleGo_zip (s := { s with heap := g }) hz' fun k hz'' sb => ?_⟩
    have nt' : k.get? s.heap.objs.size = some { cls := .type "tuple", data := .seq #[cx, cy] } := (sb.2 _ (Nat.ne_of_gt zl)).trans nt
    have new : ObjOk X.prog X.w (upd H s.heap.objs.size (.tup [x, y])) k s.heap.objs.size (.tup [x, y]) :=
      ⟨by show 2 ≤ sizeLine; decide, [cx, cy], .cons rx (.cons ry .nil), ⟨_, nt', rfl, _, rfl⟩⟩
    have I1 : Inv X pins σ (upd H s.heap.objs.size (.tup [x, y])) { s with heap := k } := by
      refine I.turnedNew (t' := s.toks) (ch := [z, TI, TO, u, v]) (fun c o hb w => ?_) fp (Nat.le_refl _) new
      obtain ⟨b1, hb⟩ := not_or.mp (fun w' => hb (List.mem_cons.mpr w'))
      obtain ⟨b2, hb⟩ := not_or.mp (fun w' => hb (List.mem_cons.mpr w'))
      obtain ⟨b3, hb⟩ := not_or.mp (fun w' => hb (List.mem_cons.mpr w'))
      obtain ⟨b4, hb⟩ := not_or.mp (fun w' => hb (List.mem_cons.mpr w'))
      have b5 : c ≠ v := fun w' => hb (w' ▸ .head _)
      exact (sb.2 c b1).trans (keep c o b1 b3 b4 b5 w)
    refine ⟨.ref s.heap.objs.size, _, I1, rfl, ⟨_, x, y, rfl, I.hok.fresh (Nat.le_refl _), rfl, fun l hl => by rw [I.list_inj hl qx]; exact ex, fun l hl => by rw [I.tuple_inj hl qy]; exact ey⟩,
      ⟨hz'', (sb.2 _ D.TIz).trans (keep _ _ D.TIz D.TITO D.TIi1 D.TIi2 hI), ⟨cx, cy, (sb.2 _ D.TOz).trans hO'⟩, (feedL_ok u a).plK p1' fun o w => (sb.2 _ D.i1z).trans w, (feedT_ok v b).plK p2' fun o w => (sb.2 _ D.i2z).trans w⟩, fun c hc => ?_⟩
    rw [upd_ne (Nat.ne_of_lt (all c hc))]
    exact (fp c hc).1
  done := by
    intro X eP ew eK clean i pins s σ H E I fp st over
    subst eP ew eK
    obtain ⟨hz, hI, ⟨x0, y0, hO⟩, p1, p2⟩ := st
    obtain ⟨xs, ys, qx, qy, le⟩ := over
    obtain ⟨ls, rl, wl, _⟩ := I.list qx
    obtain ⟨ts, rt, wt, _⟩ := I.tuple qy
    have n1 := rl.length
    have n2 := rt.length
    have e : ls.toArray[i]? = none ∨ ts.toArray[i]? = none := le.imp (fun w => by simp; omega) (fun w => by simp; omega)
    refine two_end (feedL_ok u a) (feedT_ok v b) (I.ok.hd clean) D hz hI hO p1 p2 wl.isList wt e fun g keep => ⟨rfl, I.turnedL (t' := s.toks) (ch := [z, TI, TO, u, v]) (fun c o hb w => ?_) fp⟩
    obtain ⟨b1, hb⟩ := not_or.mp (fun w' => hb (List.mem_cons.mpr w'))
    obtain ⟨b2, hb⟩ := not_or.mp (fun w' => hb (List.mem_cons.mpr w'))
    obtain ⟨b3, hb⟩ := not_or.mp (fun w' => hb (List.mem_cons.mpr w'))
    obtain ⟨b4, hb⟩ := not_or.mp (fun w' => hb (List.mem_cons.mpr w'))
    exact keep c o b1 b3 b4 (fun w' => hb (w' ▸ .head _)) w
  self := fun A i s Q E st h => wpAny_pyIter_zip st.1 h
/-- two lists, two tuples, or a list and a tuple -/
def iZip3 (K : PySem.W.Frag) (ta : TA) : TI := fun σ H R => ta σ H fun vs H1 => ∃ a b xs ys, vs = [.ref a, .ref b] ∧
  ((SqL K H1 a xs ∧ SqL K H1 b ys ∧ R (Itz K a b) H1) ∨ (SqT K H1 a xs ∧ SqT K H1 b ys ∧ R (RZ.ItzT K a b) H1) ∨ (SqL K H1 a xs ∧ SqT K H1 b ys ∧ R (ItzM K a b) H1))
theorem pi_zip3 {X : Cx} {e e2 : Expr} {ta : TA} {p pos tpos : Pos} {elts : List Expr} {kk : Nat} (hg : Gl X "zip") (hm : X.mg "zip" = none) (ha : PA X [e, e2] ta)
    (hs : starEach [e, e2] X.env = (false, eval e X.env) :: starEach [e2] X.env := by rfl) (hpl : (backTo pos (starEach [e2] X.env)).any (·.1) = false := by rfl) :
    PI X (.Tuple elts kk tpos) (.Call (.Name "zip" p) [e, e2] [] pos) (iZip3 X.K ta) := by
  refine ⟨fun pins s σ H R I h => ?_⟩
  refine Call_ (ld_blt I hg hm PyProof.Rows.boot_zip (PyProof.Rows.callWith_type1 (thn (ha.run pos pins s σ H _ I h) fun us s1 ⟨vs, H1, I1, r1, q1⟩ => ?_) hs hpl))
  obtain ⟨a, b, xs, ys, rfl, q1⟩ := q1
  cases r1 with
  | cons ra r2 =>
    cases r2 with
    | cons rb r3 =>
      cases r3
      cases ra
      cases rb
      have new : ∀ c, c ∈ [s1.heap.objs.size + 4, s1.heap.objs.size + 2, s1.heap.objs.size + 3, s1.heap.objs.size, s1.heap.objs.size + 1] → FpOk X pins H1 c := fun c hc => by
        have le : s1.heap.objs.size ≤ c := by
          simp only [List.mem_cons, List.not_mem_nil, or_false] at hc
          omega
        exact I1.fpOk le (I1.hok.fresh le)
      rcases q1 with ⟨qx, qy, q⟩ | ⟨qx, qy, q⟩ | ⟨qx, qy, q⟩
      · obtain ⟨ls, _, w1, _⟩ := I1.list qx
        obtain ⟨ts, _, w2, _⟩ := I1.list qy
        exact call_zip_2 w1.isList w2.isList fun g hz hI hO p1 p2 _ keep => wpAny_pyIter_zip hz
          ⟨_, _, _, _, H1, rfl, I1.kept (t' := s1.toks) keep, turn_zip (PySem.W.ktu_apart _ a b w1.lt w2.lt), ⟨hz, hI, ⟨_, _, hO⟩, p1, p2⟩, new, q⟩
      · obtain ⟨ls, _, w1, _⟩ := I1.tuple qx
        obtain ⟨ts, _, w2, _⟩ := I1.tuple qy
        obtain ⟨o1, l1, _⟩ := id w1
        obtain ⟨o2, l2, _⟩ := id w2
        exact RZ.call_zipT w1 w2 fun g hz hI hO p1 p2 _ keep => wpAny_pyIter_zip hz
          ⟨_, _, _, _, H1, rfl, I1.kept (t' := s1.toks) keep, RZ.turn_zipT (PySem.W.ktu_apart _ a b (Heap.lt_size l1) (Heap.lt_size l2)), ⟨hz, hI, ⟨_, _, hO⟩, p1, p2⟩, new, q⟩
      · obtain ⟨ls, _, w1, _⟩ := I1.list qx
        obtain ⟨ts, _, w2, _⟩ := I1.tuple qy
        obtain ⟨o2, l2, _⟩ := id w2
        exact call_two w1.isList w2 fun g hz hI hO p1 p2 keep => wpAny_pyIter_zip hz
          ⟨_, _, _, _, H1, rfl, I1.kept (t' := s1.toks) keep, turn_two (PySem.W.ktu_apart _ a b w1.lt (Heap.lt_size l2)), ⟨hz, hI, ⟨_, _, hO⟩, p1, p2⟩, new, q⟩
end MV

set_option maxRecDepth 100000
set_option maxHeartbeats 1000000
/-! VJ: iterators, comprehensions. -/
namespace MV
open PySem PySem.Spec PyProof.Rows L2
/-- the item at a turn -/
def itGet : Itr → Nat → HH → Option (Option D)
  | .items l, i, _ => some l[i]?
  | .live n, i, h => match h[n]? with
    | some (.lst l) => some l[i]?
    | _ => none
def ItOk (L : Lk) (F : Fm) (φ : List Addr) (H : Hp) (J : It) (I : Itr) : Prop := ∀ (F' : Fm), (∀ a o, H a = some o → F'.no a → F.no a) → (∀ a, F.bo a → F'.bo a) → ∀ i φ' H' h', XT φ H φ' H' → HR L F' φ' h' H' →
  (∀ d, itGet I i h' = some (some d) → J.go i H' ∧ ∀ x H'', J.yld i H' x H'' → XT φ' H' φ' H'' ∧ HR L F' φ' h' H'' ∧ Rel L F' φ' H'' d x) ∧ (itGet I i h' = some none → J.stop i H')
def rdI (L : Lk) (W : WX) (f : Env → HH → R Itr) : TI := fun σ H R => ∃ F φ ρ h, HR L F φ h H ∧ ER L F φ H ρ σ ∧ G L F φ H (fun φ H I J => ItOk L F φ H J I) (f ρ h) R fun c d H' => W c d σ H'
section
variable (T : Tb) (L : Lk) (P : Prog) (orc : Orc) (k : Nat)
def ItEx (e : E) : Prop := ∀ X W, CX1 T L P orc k X W → ∀ tg x, ckI T X.N e tg X.env.scope x = true → PI X tg x (rdI L W (itm P orc e))
def FsOk (e : E) : Prop := ∀ X W, CX1 T L P orc k X W → ∀ xs, ckF T X.N e X.env.scope xs = true → PTs X xs (rdT L W (tsts P orc e))
end
section
variable {T : Tb} {L : Lk} {P : Prog} {orc : Orc} {k : Nat} {F : Fm} {φ : List Addr} {H : Hp} {h : HH}
theorem enumL_get : ∀ {l : List D} {n i : Nat}, (enumL n l)[i]? = (l[i]?).map fun d => .tup [.int ((n + i : Nat) : Int), d]
  | [], n, i => by simp [enumL]
  | x :: xs, n, 0 => by simp [enumL]
  | x :: xs, n, i + 1 => by
    show (enumL (n + 1) xs)[i]? = _
    rw [enumL_get]
    simp [Nat.add_assoc, Nat.add_comm 1 i]
theorem pairL_get : ∀ {k l : List D} {i : Nat}, (pairL k l)[i]? = match k[i]?, l[i]? with
    | some x, some y => some (.tup [x, y])
    | _, _ => none
  | [], l, i => by simp [pairL]
  | x :: xs, [], i => by
    simp only [pairL, List.getElem?_nil]
    cases (x :: xs)[i]? <;> rfl
  | x :: xs, y :: ys, 0 => rfl
  | x :: xs, y :: ys, i + 1 => by
    show (pairL xs ys)[i]? = _
    rw [pairL_get]
    rfl
theorem rangeL_get {lo hi : Int} {i : Nat} : (rangeL lo hi)[i]? = if i < (hi - lo).toNat then some (.int (lo + (i : Int))) else none := by
  unfold rangeL
  rw [List.getElem?_map]
  by_cases hi' : i < (hi - lo).toNat
  · rw [List.getElem?_range hi', if_pos hi'] <;> rfl
  · rw [List.getElem?_eq_none (by simpa using hi'), if_neg hi'] <;> rfl
/-- written items of a list -/
theorem it_L {K : PySem.W.Frag} {a : Addr} {l : List D} (st : ∀ (F' : Fm), (∀ a o, H a = some o → F'.no a → F.no a) → (∀ a, F.bo a → F'.bo a) → ∀ φ' H' h', XT φ H φ' H' → HR L F' φ' h' H' → ∃ vs, SqL K H' a vs ∧ Rels L F' φ' H' l vs) : ItOk L F φ H (Itl K a) (.items l) := by
  intro F' h1 h2 i φ' H' h' t hr
  obtain ⟨vs, q, rs⟩ := st F' h1 h2 φ' H' h' t hr
  refine ⟨fun d e => ?_, fun e => ?_⟩
  · obtain ⟨v, ev, rv⟩ := rs.get (Option.some.inj e)
    refine ⟨⟨vs, v, q, ev⟩, fun x H'' y => ?_⟩
    obtain ⟨y1, y2⟩ := y
    subst y1
    have := y2 vs q
    rw [ev] at this
    cases this
    exact ⟨.refl _ _, hr, rv⟩
  · refine ⟨vs, q, ?_⟩
    rw [← rs.length]
    exact List.getElem?_eq_none_iff.mp (Option.some.inj e)
theorem it_T {K : PySem.W.Frag} {a : Addr} {l : List D} (st : ∀ (F' : Fm), (∀ a o, H a = some o → F'.no a → F.no a) → (∀ a, F.bo a → F'.bo a) → ∀ φ' H' h', XT φ H φ' H' → HR L F' φ' h' H' → ∃ vs, SqT K H' a vs ∧ Rels L F' φ' H' l vs) : ItOk L F φ H (Itt K a) (.items l) := by
  intro F' h1 h2 i φ' H' h' t hr
  obtain ⟨vs, q, rs⟩ := st F' h1 h2 φ' H' h' t hr
  refine ⟨fun d e => ?_, fun e => ?_⟩
  · obtain ⟨v, ev, rv⟩ := rs.get (Option.some.inj e)
    refine ⟨⟨vs, v, q, ev⟩, fun x H'' y => ?_⟩
    obtain ⟨y1, y2⟩ := y
    subst y1
    have := y2 vs q
    rw [ev] at this
    cases this
    exact ⟨.refl _ _, hr, rv⟩
  · refine ⟨vs, q, ?_⟩
    rw [← rs.length]
    exact List.getElem?_eq_none_iff.mp (Option.some.inj e)
/-- what a frozen value's list stays -/
theorem later {d : D} {v : V} (r : Rel L F φ H d v) {F' : Fm} (h1 : ∀ a o, H a = some o → F'.no a → F.no a) (h2 : ∀ a, F.bo a → F'.bo a) {φ' : List Addr} {H' : Hp} (t : XT φ H φ' H') : Rel L F' φ' H' d v := (r.frame h1 h2).mono t
theorem it_e {e : E} (he : EvOk T L P orc k e) : ItEx T L P orc k (.i_e e) := by
  intro X W c tg x h
  unfold ckI at h
  have p := he X W c x h
  refine ((pi_list (tg := tg) p).or (pi_tup p)).imp fun σ H RR ⟨F, φ, ρ, hh, hr, er, g⟩ => ?_
  rw [q_i_e] at g
  have list : ∀ {l : List D} {φ1 : List Addr} {H1 : Hp} {h1 : HH} {v : V} {dv : D}, (dv = .lst l ∨ dv = .bor l) → HR L F φ1 h1 H1 → Rel L F φ1 H1 dv v → G L F φ1 H1 (fun φ H I J => ItOk L F φ H J I) (R.ok (Itr.items l) h1) RR (fun c d H' => W c d σ H') →
      ∃ a, v = .ref a ∧ (∃ xs, SqL X.K H1 a xs) ∧ RR (Itl X.K a) H1 := fun {l φ1 H1 h1 v dv} ed hr1 rx g1 => by
    have e1 : listOf dv h1 = some l := by rcases ed with z | z <;> (subst z; rfl)
    obtain ⟨a, vs, ev, q, rs⟩ := listOf_ok hr1 rx e1
    subst ev
    have io : ItOk L F φ1 H1 (Itl X.K a) (.items l) := it_L fun F' z1 z2 φ' H' h' t hr' => by
      have rx' := later rx z1 z2 t
      have e2 : listOf dv h' = some l := by rcases ed with z | z <;> (subst z; rfl)
      obtain ⟨a', vs', ev', q', rs'⟩ := listOf_ok hr' rx' e2
      cases ev'
      exact ⟨vs', sqK c.fa.hK q', rs'⟩
    exact ⟨a, rfl, ⟨vs, sqK c.fa.hK q⟩, g1 φ1 H1 _ (.refl _ _) hr1 io⟩
  have tup : ∀ {l : List D} {φ1 : List Addr} {H1 : Hp} {h1 : HH} {v : V} {dv : D}, (dv = .tup l ∨ dv = .wtup l) → HR L F φ1 h1 H1 → Rel L F φ1 H1 dv v → G L F φ1 H1 (fun φ H I J => ItOk L F φ H J I) (R.ok (Itr.items l) h1) RR (fun c d H' => W c d σ H') →
      ∃ a, v = .ref a ∧ (∃ xs, SqT X.K H1 a xs) ∧ RR (Itt X.K a) H1 := fun {l φ1 H1 h1 v dv} ed hr1 rx g1 => by
    have tq : ∀ {F : Fm} {φ : List Addr} {H : Hp} {v : V}, Rel L F φ H dv v → ∃ a vs, v = .ref a ∧ SqT X.K H a vs ∧ Rels L F φ H l vs := fun {F φ H v} r => by
      rw [c.fa.hK]
      rcases ed with z | z <;> subst z
      · cases r with
        | tup q r => exact ⟨_, _, rfl, q, r⟩
      · cases r with
        | wtup e1 e2 e3 e4 e5 e6 r => exact ⟨_, _, rfl, .inr ⟨_, _, _, e1, e2, e4, e5, e6⟩, r⟩
    obtain ⟨a, vs, ev, q, rs⟩ := tq rx
    subst ev
    have io : ItOk L F φ1 H1 (Itt X.K a) (.items l) := it_T fun F' z1 z2 φ' H' h' t hr' => by
      obtain ⟨a', vs', ev', q', rs'⟩ := tq (later rx z1 z2 t)
      cases ev'
      exact ⟨vs', q', rs'⟩
    exact ⟨a, rfl, ⟨vs, q⟩, g1 φ1 H1 _ (.refl _ _) hr1 io⟩
  -- by what it is
  cases ee : ev P orc e ρ hh with
  | ok d h1 =>
    have rdE' : ∀ {QQ : VK}, (∀ φ1 H1 v, XT φ H φ1 H1 → HR L F φ1 h1 H1 → Rel L F φ1 H1 d v → QQ v H1) → rdE L W (ev P orc e) σ H QQ := fun {QQ} q => ⟨F, φ, ρ, hh, hr, er, by
      rw [ee]
      exact fun φ1 H1 v t1 hr1 rx => q φ1 H1 v t1 hr1 rx⟩
    rw [ee] at g
    cases d with
    | tup l => exact .inr (rdE' fun φ1 H1 v t1 hr1 rx => tup (.inl rfl) hr1 rx (G.mono t1 g))
    | wtup l => exact .inr (rdE' fun φ1 H1 v t1 hr1 rx => tup (.inr rfl) hr1 rx (G.mono t1 g))
    | lst l => exact .inl (rdE' fun φ1 H1 v t1 hr1 rx => list (.inl rfl) hr1 rx (G.mono t1 g))
    | bor l => exact .inl (rdE' fun φ1 H1 v t1 hr1 rx => list (.inr rfl) hr1 rx (G.mono t1 g))
    | ref n =>
      have g : G L F φ H (fun φ H I J => ItOk L F φ H J I) (match h1[n]? with
        | some (.lst _) => R.ok (Itr.live n) h1
        | _ => R.no) RR (fun c d H' => W c d σ H') := g
      split at g
      · rename_i l0 el
        refine .inl (rdE' fun φ1 H1 v t1 hr1 rx => ?_)
        have g1 : G L F φ1 H1 (fun φ H I J => ItOk L F φ H J I) (R.ok (Itr.live n) h1) RR (fun c d H' => W c d σ H') := G.mono t1 g
        cases rx with
        | @ref _ a eφ =>
          have cur : ∀ {F' : Fm} {φ' : List Addr} {H' : Hp} {h' : HH} {l : List D}, HR L F' φ' h' H' → φ'[n]? = some a → h'[n]? = some (.lst l) → ∃ vs, H' a = some (.lst vs) ∧ Rels L F' φ' H' l vs := fun {F' φ' H' h' l} x e1 e2 => by
            have ro := x.at_ n a _ e1 e2
            cases ro with
            | lst q r => exact ⟨_, q, r⟩
          obtain ⟨vs0, q0, _⟩ := cur hr1 eφ el
          have io : ItOk L F φ1 H1 (Itl X.K a) (.live n) := by
            intro F' z1 z2 i φ' H' h' t hr'
            have e1 : φ'[n]? = some a := t.get eφ
            unfold itGet
            dsimp only
            split
            · rename_i l e2
              obtain ⟨vs, q, rs⟩ := cur hr' e1 e2
              refine ⟨fun d e => ?_, fun e => ?_⟩
              · obtain ⟨v, ev, rv⟩ := rs.get (Option.some.inj e)
                refine ⟨⟨vs, v, .inl (.inl q), ev⟩, fun x H'' y => ?_⟩
                obtain ⟨y1, y2⟩ := y
                subst y1
                have := y2 vs (.inl (.inl q))
                rw [ev] at this
                cases this
                exact ⟨.refl _ _, hr', rv⟩
              · refine ⟨vs, .inl (.inl q), ?_⟩
                rw [← rs.length]
                exact List.getElem?_eq_none_iff.mp (Option.some.inj e)
            · exact ⟨(by intro _ z; cases z), (by intro z; cases z)⟩
          exact ⟨a, rfl, ⟨vs0, .inl (.inl q0)⟩, g1 φ1 H1 _ (.refl _ _) hr1 io⟩
      · exact (G.no_ g).elim
    | _ => exact (G.no_ g).elim
  | exc _ _ _ _ =>
    refine .inl ⟨F, φ, ρ, hh, hr, er, ?_⟩
    rw [ee] at g ⊢
    exact g
  | no =>
    rw [ee] at g
    exact (G.no_ g).elim
theorem it_rng {lo hi : Int} {n : Nat} (hn : n = (hi - lo).toNat) : ItOk L F φ H (L2.Itr lo n) (.items (rangeL lo hi)) := by
  intro F' h1 h2 i φ' H' h' t hr
  refine ⟨fun d e => ?_, fun e => ?_⟩
  · have e := Option.some.inj (show some (rangeL lo hi)[i]? = some (some d) from e)
    rw [rangeL_get] at e
    split at e
    · rename_i hl
      cases e
      refine ⟨by rw [hn]; exact hl, fun x H'' y => ?_⟩
      obtain ⟨y1, y2⟩ := y
      subst y1 y2
      exact ⟨.refl _ _, hr, .int _⟩
    · cases e
  · have e := Option.some.inj (show some (rangeL lo hi)[i]? = some none from e)
    rw [rangeL_get] at e
    split at e
    · cases e
    · show n ≤ i
      omega
theorem small_ {i : Int} (h : smallI i = true) : -(2 ^ 62) ≤ i ∧ i < 2 ^ 62 := by
  obtain ⟨h1, h2⟩ := and_ h
  exact ⟨of_decide_eq_true h1, of_decide_eq_true h2⟩
theorem it_r1 {a : E} (ha : EvOk T L P orc k a) : ItEx T L P orc k (.i_r1 a) := by
  intro X W c tg x h
  unfold ckI at h
  split at h
  · rename_i f p x pos
    obtain ⟨h1, h⟩ := and_ h
    obtain ⟨h2, h⟩ := and_ h
    obtain ⟨h3, h4⟩ := and_ h
    have h1 := of_decide_eq_true h1
    subst h1
    obtain ⟨g1, g2⟩ := glB_ h2
    refine (pi_range1 g1 (c.fa.bf _ (by decide)) (pa_cons (ha X W c _ h4) pa_nil (sEach _ _ _ h3)) (sEach _ _ _ h3)).imp fun σ H RR ⟨F, φ, ρ, hh, hr, er, g⟩ => ?_
    rw [q_i_r1] at g
    refine ⟨F, φ, ρ, hh, hr, er, G.bind g fun d h1 φ1 H1 v e1 t1 hr1 rx g1 => ?_⟩
    split at g1
    · rename_i j
      split at g1
      · rename_i sj
        cases rx
        exact ⟨j, rfl, (small_ sj).1, (small_ sj).2, g1 φ1 H1 _ (.refl _ _) hr1 (it_rng (by omega))⟩
      · exact (G.no_ g1).elim
    · exact (G.no_ g1).elim
  · cases h
theorem it_r2 {a b : E} (ha : EvOk T L P orc k a) (hb : EvOk T L P orc k b) : ItEx T L P orc k (.i_r2 a b) := by
  intro X W c tg x h
  unfold ckI at h
  split at h
  · rename_i f p x y pos
    obtain ⟨h1, h⟩ := and_ h
    obtain ⟨h2, h⟩ := and_ h
    obtain ⟨h3, h⟩ := and_ h
    obtain ⟨h4, h⟩ := and_ h
    obtain ⟨h5, h6⟩ := and_ h
    have h1 := of_decide_eq_true h1
    subst h1
    obtain ⟨g1, g2⟩ := glB_ h2
    refine (pi_range2 g1 (c.fa.bf _ (by decide)) (pa_cons (ha X W c _ h5) (pa_cons (hb X W c _ h6) pa_nil (sEach _ _ _ h4)) (sEach _ _ _ h3)) (by rw [sEach _ _ _ h3, sEach _ _ _ h4] <;> rfl) (by rw [sEach _ _ _ h4] <;> rfl)).imp fun σ H RR ⟨F, φ, ρ, hh, hr, er, g⟩ => ?_
    rw [q_i_r2] at g
    refine ⟨F, φ, ρ, hh, hr, er, G.bind g fun d h1 φ1 H1 v e1 t1 hr1 rx g1 => ?_⟩
    refine ⟨F, φ1, ρ, h1, hr1, er.mono t1, G.bind g1 fun e h2 φ2 H2 w e2 t2 hr2 ry g2 => ?_⟩
    split at g2
    · rename_i i j
      split at g2
      · rename_i sj
        obtain ⟨s1, s2⟩ := and_ sj
        cases rx
        cases ry
        exact ⟨i, j, rfl, ⟨(small_ s1).1, (small_ s1).2, (small_ s2).1, (small_ s2).2⟩, g2 φ2 H2 _ (.refl _ _) hr2 (it_rng rfl)⟩
      · exact (G.no_ g2).elim
    · exact (G.no_ g2).elim
  · cases h
theorem isTup_ {x : Expr} (h : isTupE x = true) : ∃ l k p, x = .Tuple l k p := by
  cases x <;> first | exact ⟨_, _, _, rfl⟩ | cases h
/-- a new pair -/
theorem pair_ok {F' : Fm} {φ' : List Addr} {H' : Hp} {h' : HH} {x y : V} {dx dy : D} {p : Addr} (hr : HR L F' φ' h' H') (hp : H' p = none) (rx : Rel L F' φ' H' dx x) (ry : Rel L F' φ' H' dy y) :
    XT φ' H' φ' (upd H' p (.tup [x, y])) ∧ HR L F' φ' h' (upd H' p (.tup [x, y])) ∧ Rel L F' φ' (upd H' p (.tup [x, y])) (.tup [dx, dy]) (.ref p) := by
  have t : XT φ' H' φ' (upd H' p (.tup [x, y])) := .fresh hp
  exact ⟨t, hr.fresh hp, .tup (.inl (.inl upd_same)) (.cons (rx.mono t) (.cons (ry.mono t) .nil))⟩
theorem it_en {a : E} (ha : EvOk T L P orc k a) : ItEx T L P orc k (.i_en a) := by
  intro X W c tg x h
  unfold ckI at h
  split at h
  · rename_i f p x pos
    obtain ⟨h1, h⟩ := and_ h
    obtain ⟨h0, h⟩ := and_ h
    obtain ⟨h2, h⟩ := and_ h
    obtain ⟨h3, h4⟩ := and_ h
    have h1 := of_decide_eq_true h1
    subst h1
    obtain ⟨l0, k0, p0, rfl⟩ := isTup_ h0
    obtain ⟨g1, g2⟩ := glB_ h2
    refine (pi_enA g1 (c.fa.bf _ (by decide)) (pa_cons (ha X W c _ h4) pa_nil (sEach _ _ _ h3)) (sEach _ _ _ h3)).imp fun σ H RR ⟨F, φ, ρ, hh, hr, er, g⟩ => ?_
    rw [q_i_en] at g
    refine ⟨F, φ, ρ, hh, hr, er, G.bind g fun d h1 φ1 H1 v e1 t1 hr1 rx g1 => ?_⟩
    split at g1
    · rename_i l
      obtain ⟨a, vs, ev, q, rs⟩ := listOf_ok (l := l) hr1 rx rfl
      subst ev
      have io : ItOk L F φ1 H1 (Ite X.K a) (.items (enumL 0 l)) := by
        intro F' z1 z2 i φ' H' h' t hr'
        obtain ⟨a', vs', ev', q', rs'⟩ := listOf_ok (l := l) hr' (later rx z1 z2 t) rfl
        cases ev'
        refine ⟨fun d e => ?_, fun e => ?_⟩
        · have e := Option.some.inj (show some (enumL 0 l)[i]? = some (some d) from e)
          rw [enumL_get] at e
          cases ei : l[i]? with
          | none =>
            rw [ei] at e
            cases e
          | some di =>
            rw [ei] at e
            cases e
            obtain ⟨v, ev, rv⟩ := rs'.get ei
            refine ⟨⟨vs', v, sqK c.fa.hK q', ev⟩, fun x H'' y => ?_⟩
            obtain ⟨p', x', y1, y2, y3, y4⟩ := y
            subst y1 y3
            have := y4 vs' (sqK c.fa.hK q')
            rw [ev] at this
            cases this
            rw [Nat.zero_add]
            exact pair_ok hr' y2 (.int _) rv
        · have e := Option.some.inj (show some (enumL 0 l)[i]? = some none from e)
          rw [enumL_get] at e
          refine ⟨vs', sqK c.fa.hK q', ?_⟩
          rw [← rs'.length]
          cases ei : l[i]? with
          | none => exact List.getElem?_eq_none_iff.mp ei
          | some di =>
            rw [ei] at e
            cases e
      exact ⟨a, vs, rfl, .inl ⟨sqK c.fa.hK q, g1 φ1 H1 _ (.refl _ _) hr1 io⟩⟩
    · rename_i l
      have tq : ∀ {F : Fm} {φ : List Addr} {H : Hp} {v : V}, Rel L F φ H (.tup l) v → ∃ a vs, v = .ref a ∧ SqT X.K H a vs ∧ Rels L F φ H l vs := fun {F φ H v} r => by
        rw [c.fa.hK]
        cases r with
        | tup q r => exact ⟨_, _, rfl, q, r⟩
      obtain ⟨a, vs, ev, q, rs⟩ := tq rx
      subst ev
      have io : ItOk L F φ1 H1 (IteT X.K a) (.items (enumL 0 l)) := by
        intro F' z1 z2 i φ' H' h' t hr'
        obtain ⟨a', vs', ev', q', rs'⟩ := tq (later rx z1 z2 t)
        cases ev'
        refine ⟨fun d e => ?_, fun e => ?_⟩
        · have e := Option.some.inj (show some (enumL 0 l)[i]? = some (some d) from e)
          rw [enumL_get] at e
          cases ei : l[i]? with
          | none =>
            rw [ei] at e
            cases e
          | some di =>
            rw [ei] at e
            cases e
            obtain ⟨v, ev, rv⟩ := rs'.get ei
            refine ⟨⟨vs', v, q', ev⟩, fun x H'' y => ?_⟩
            obtain ⟨p', x', y1, y2, y3, y4⟩ := y
            subst y1 y3
            have := y4 vs' q'
            rw [ev] at this
            cases this
            rw [Nat.zero_add]
            exact pair_ok hr' y2 (.int _) rv
        · have e := Option.some.inj (show some (enumL 0 l)[i]? = some none from e)
          rw [enumL_get] at e
          refine ⟨vs', q', ?_⟩
          rw [← rs'.length]
          cases ei : l[i]? with
          | none => exact List.getElem?_eq_none_iff.mp ei
          | some di =>
            rw [ei] at e
            cases e
      exact ⟨a, vs, rfl, .inr ⟨q, g1 φ1 H1 _ (.refl _ _) hr1 io⟩⟩
    · rename_i l
      have tq : ∀ {F : Fm} {φ : List Addr} {H : Hp} {v : V}, Rel L F φ H (.wtup l) v → ∃ a vs, v = .ref a ∧ SqT X.K H a vs ∧ Rels L F φ H l vs := fun {F φ H v} r => by
        rw [c.fa.hK]
        cases r with
        | wtup e1 e2 e3 e4 e5 e6 r => exact ⟨_, _, rfl, .inr ⟨_, _, _, e1, e2, e4, e5, e6⟩, r⟩
      obtain ⟨a, vs, ev, q, rs⟩ := tq rx
      subst ev
      have io : ItOk L F φ1 H1 (IteT X.K a) (.items (enumL 0 l)) := by
        intro F' z1 z2 i φ' H' h' t hr'
        obtain ⟨a', vs', ev', q', rs'⟩ := tq (later rx z1 z2 t)
        cases ev'
        refine ⟨fun d e => ?_, fun e => ?_⟩
        · have e := Option.some.inj (show some (enumL 0 l)[i]? = some (some d) from e)
          rw [enumL_get] at e
          cases ei : l[i]? with
          | none =>
            rw [ei] at e
            cases e
          | some di =>
            rw [ei] at e
            cases e
            obtain ⟨v, ev, rv⟩ := rs'.get ei
            refine ⟨⟨vs', v, q', ev⟩, fun x H'' y => ?_⟩
            obtain ⟨p', x', y1, y2, y3, y4⟩ := y
            subst y1 y3
            have := y4 vs' q'
            rw [ev] at this
            cases this
            rw [Nat.zero_add]
            exact pair_ok hr' y2 (.int _) rv
        · have e := Option.some.inj (show some (enumL 0 l)[i]? = some none from e)
          rw [enumL_get] at e
          refine ⟨vs', q', ?_⟩
          rw [← rs'.length]
          cases ei : l[i]? with
          | none => exact List.getElem?_eq_none_iff.mp ei
          | some di =>
            rw [ei] at e
            cases e
      exact ⟨a, vs, rfl, .inr ⟨q, g1 φ1 H1 _ (.refl _ _) hr1 io⟩⟩
    · exact (G.no_ g1).elim
  · cases h
theorem it_zip {a b : E} (ha : EvOk T L P orc k a) (hb : EvOk T L P orc k b) : ItEx T L P orc k (.i_zip a b) := by
  intro X W c tg x h
  unfold ckI at h
  split at h
  · rename_i f p x y pos
    obtain ⟨h1, h⟩ := and_ h
    obtain ⟨h0, h⟩ := and_ h
    obtain ⟨h2, h⟩ := and_ h
    obtain ⟨h3, h⟩ := and_ h
    obtain ⟨h4, h⟩ := and_ h
    obtain ⟨h5, h6⟩ := and_ h
    have h1 := of_decide_eq_true h1
    subst h1
    obtain ⟨l0, k0, p0, rfl⟩ := isTup_ h0
    obtain ⟨g1, g2⟩ := glB_ h2
    refine (pi_zip3 g1 (c.fa.bf _ (by decide)) (pa_cons (ha X W c _ h5) (pa_cons (hb X W c _ h6) pa_nil (sEach _ _ _ h4)) (sEach _ _ _ h3)) (sEach _ _ _ h3) (nsPlain _ _ _ (by show (nsB y && true) = true; rw [h4] <;> rfl))).imp fun σ H RR ⟨F, φ, ρ, hh, hr, er, g⟩ => ?_
    rw [q_i_zip] at g
    refine ⟨F, φ, ρ, hh, hr, er, G.bind g fun d h1 φ1 H1 v e1 t1 hr1 rx g1 => ?_⟩
    refine ⟨F, φ1, ρ, h1, hr1, er.mono t1, G.bind g1 fun e h2 φ2 H2 w e2 t2 hr2 ry g2 => ?_⟩
    have rx2 := rx.mono t2
    have step : ∀ {k l : List D} {i : Nat} {d : D}, (pairL k l)[i]? = some d → ∃ x y, k[i]? = some x ∧ l[i]? = some y ∧ d = .tup [x, y] := fun {k l i d} e => by
      rw [pairL_get] at e
      split at e
      · rename_i x y e1 e2
        cases e
        exact ⟨x, y, e1, e2, rfl⟩
      · cases e
    have stop : ∀ {k l : List D} {i : Nat}, (pairL k l)[i]? = none → k.length ≤ i ∨ l.length ≤ i := fun {k l i} e => by
      rw [pairL_get] at e
      split at e
      · cases e
      · rename_i hno
        cases e1 : k[i]? with
        | none => exact .inl (List.getElem?_eq_none_iff.mp e1)
        | some x =>
          cases e2 : l[i]? with
          | none => exact .inr (List.getElem?_eq_none_iff.mp e2)
          | some y => exact absurd e2 (hno x y e1)
    split at g2
    · rename_i kk l
      have tq : ∀ {F : Fm} {φ : List Addr} {H : Hp} {l : List D} {v : V}, Rel L F φ H (.tup l) v → ∃ a vs, v = .ref a ∧ SqT X.K H a vs ∧ Rels L F φ H l vs := fun {F φ H l v} r => by
        rw [c.fa.hK]
        cases r with
        | tup q r => exact ⟨_, _, rfl, q, r⟩
      obtain ⟨a, xs, ev, qa, ra⟩ := tq rx2
      obtain ⟨b, ys, ew, qb, rb⟩ := tq ry
      subst ev ew
      refine ⟨a, b, xs, ys, rfl, .inr (.inl ⟨qa, qb, g2 φ2 H2 _ (.refl _ _) hr2 ?_⟩)⟩
      intro F' z1 z2 i φ' H' h' t hr'
      obtain ⟨_, xs', ea, qa', ra'⟩ := tq (later rx2 z1 z2 t)
      obtain ⟨_, ys', eb, qb', rb'⟩ := tq (later ry z1 z2 t)
      cases ea
      cases eb
      refine ⟨fun d e => ?_, fun e => ?_⟩
      · obtain ⟨x, y, ex, ey, rfl⟩ := step (Option.some.inj (show some (pairL kk l)[i]? = some (some d) from e))
        obtain ⟨vx, ex', rvx⟩ := ra'.get ex
        obtain ⟨vy, ey', rvy⟩ := rb'.get ey
        refine ⟨⟨xs', ys', vx, vy, qa', qb', ex', ey'⟩, fun z H'' yl => ?_⟩
        obtain ⟨p', x', y', y1, y2, y3, y4, y5⟩ := yl
        subst y1 y3
        have h1 := y4 xs' qa'
        have h2 := y5 ys' qb'
        rw [ex'] at h1
        rw [ey'] at h2
        cases h1
        cases h2
        exact pair_ok hr' y2 rvx rvy
      · refine ⟨xs', ys', qa', qb', ?_⟩
        rw [← ra'.length, ← rb'.length]
        exact stop (Option.some.inj (show some (pairL kk l)[i]? = some none from e))
    · rename_i kk l
      obtain ⟨a, xs, ev, qa, ra⟩ := listOf_ok (l := kk) hr2 rx2 rfl
      obtain ⟨b, ys, ew, qb, rb⟩ := listOf_ok (l := l) hr2 ry rfl
      subst ev ew
      refine ⟨a, b, xs, ys, rfl, .inl ⟨sqK c.fa.hK qa, sqK c.fa.hK qb, g2 φ2 H2 _ (.refl _ _) hr2 ?_⟩⟩
      intro F' z1 z2 i φ' H' h' t hr'
      obtain ⟨_, xs', ea, qa', ra'⟩ := listOf_ok (l := kk) hr' (later rx2 z1 z2 t) rfl
      obtain ⟨_, ys', eb, qb', rb'⟩ := listOf_ok (l := l) hr' (later ry z1 z2 t) rfl
      cases ea
      cases eb
      refine ⟨fun d e => ?_, fun e => ?_⟩
      · obtain ⟨x, y, ex, ey, rfl⟩ := step (Option.some.inj (show some (pairL kk l)[i]? = some (some d) from e))
        obtain ⟨vx, ex', rvx⟩ := ra'.get ex
        obtain ⟨vy, ey', rvy⟩ := rb'.get ey
        refine ⟨⟨xs', ys', vx, vy, sqK c.fa.hK qa', sqK c.fa.hK qb', ex', ey'⟩, fun z H'' yl => ?_⟩
        obtain ⟨p', x', y', y1, y2, y3, y4, y5⟩ := yl
        subst y1 y3
        have h1 := y4 xs' (sqK c.fa.hK qa')
        have h2 := y5 ys' (sqK c.fa.hK qb')
        rw [ex'] at h1
        rw [ey'] at h2
        cases h1
        cases h2
        exact pair_ok hr' y2 rvx rvy
      · refine ⟨xs', ys', sqK c.fa.hK qa', sqK c.fa.hK qb', ?_⟩
        rw [← ra'.length, ← rb'.length]
        exact stop (Option.some.inj (show some (pairL kk l)[i]? = some none from e))
    · rename_i kk l
      have tq : ∀ {F : Fm} {φ : List Addr} {H : Hp} {l : List D} {v : V}, Rel L F φ H (.tup l) v → ∃ a vs, v = .ref a ∧ SqT X.K H a vs ∧ Rels L F φ H l vs := fun {F φ H l v} r => by
        rw [c.fa.hK]
        cases r with
        | tup q r => exact ⟨_, _, rfl, q, r⟩
      obtain ⟨a, xs, ev, qa, ra⟩ := listOf_ok (l := kk) hr2 rx2 rfl
      obtain ⟨b, ys, ew, qb, rb⟩ := tq ry
      subst ev ew
      refine ⟨a, b, xs, ys, rfl, .inr (.inr ⟨sqK c.fa.hK qa, qb, g2 φ2 H2 _ (.refl _ _) hr2 ?_⟩)⟩
      intro F' z1 z2 i φ' H' h' t hr'
      obtain ⟨_, xs', ea, qa', ra'⟩ := listOf_ok (l := kk) hr' (later rx2 z1 z2 t) rfl
      obtain ⟨_, ys', eb, qb', rb'⟩ := tq (later ry z1 z2 t)
      cases ea
      cases eb
      refine ⟨fun d e => ?_, fun e => ?_⟩
      · obtain ⟨x, y, ex, ey, rfl⟩ := step (Option.some.inj (show some (pairL kk l)[i]? = some (some d) from e))
        obtain ⟨vx, ex', rvx⟩ := ra'.get ex
        obtain ⟨vy, ey', rvy⟩ := rb'.get ey
        refine ⟨⟨xs', ys', vx, vy, sqK c.fa.hK qa', qb', ex', ey'⟩, fun z H'' yl => ?_⟩
        obtain ⟨p', x', y', y1, y2, y3, y4, y5⟩ := yl
        subst y1 y3
        have h1 := y4 xs' (sqK c.fa.hK qa')
        have h2 := y5 ys' qb'
        rw [ex'] at h1
        rw [ey'] at h2
        cases h1
        cases h2
        exact pair_ok hr' y2 rvx rvy
      · refine ⟨xs', ys', sqK c.fa.hK qa', qb', ?_⟩
        rw [← ra'.length, ← rb'.length]
        exact stop (Option.some.inj (show some (pairL kk l)[i]? = some none from e))
    · exact (G.no_ g2).elim
  · cases h
theorem fs_nil : FsOk T L P orc k .nil := by
  intro X W c xs h
  unfold ckF at h
  split at h
  · refine ⟨fun pins s σ H Q I ⟨F, φ, ρ, hh, hr, er, g⟩ => pts_nil.run pins s σ H Q I ?_⟩
    rw [lq_nil] at g
    exact G.ok g hr rfl
  · cases h
theorem fs_cons {e es : E} (he : TsOk T L P orc k e) : FsOk T L P orc k (.cons e es) := by
  intro X W c xs h
  unfold ckF at h
  split at h
  · refine ⟨fun pins s σ H Q I ⟨F, φ, ρ, hh, hr, er, g⟩ => (pts_one (he X W c _ h)).run pins s σ H Q I ⟨F, φ, ρ, hh, hr, er, ?_⟩⟩
    rw [lq_cons] at g
    exact g
  · cases h
end
end MV

set_option maxRecDepth 100000
set_option maxHeartbeats 1000000
/-! VHl: lambdas made in the law's frame. -/
namespace MV
open PySem PySem.Spec PyProof.Rows L2
theorem and_e {a b : Bool} (h : (a && b) = true) : a = true ∧ b = true := Bool.and_eq_true_iff.mp h
/-- what stands behind a lambda that was just made -/
structure Mkd (L : Lk) (X : Cx) (pins : List (Addr × Obj)) (σ : L2.St) (H : Hp) (k : Nat) (f : Addr) (H1 : Hp) (s1 : Shared) : Prop where
  inv : Inv X pins σ H1 s1
  ext : LamX.ExtN H H1
  nn : ∀ b, H1 b = none → H b = none
  tab : LamX.Tabs L.tabs H1
  ob : ∃ (c' : Addr) (dV : Value), H f = none ∧ H1 f = some (LamO L k f c' dV) ∧ H1 c' = some (LamX.CodeO c' L.lq) ∧ (H c' = none ∨ H c' = some (LamX.CodeO c' L.lq)) ∧ DfV H1 dV
theorem upd_noneB {H : Hp} {a b : Addr} {o : HO} (e : upd H a o b = none) : H b = none := by
  by_cases z : b = a
  · rw [z, upd_same] at e
    cases e
  · rwa [upd_ne z] at e
section
variable {L : Lk} {X : Cx} {pins : List (Addr × Obj)} {σ : L2.St} {H : Hp} {s : Shared} {M : Model} {A : Around} {E : Value → Shared → Prop} {Q : Value → Shared → Prop}
/-- the object of a lambda is laid -/
theorem inv_lam {k : Nat} {ps : Arguments} {bd : Expr} {sc : Scope} {dV doc pm ctv : Value} {c' : Addr} {tk : Nat} (I : Inv X pins σ H s) (hl : L.lt k ps bd sc) (hd : dV = .none ↔ ps.defaults = []) :
    Inv X pins σ (upd H s.heap.objs.size (LamO L k s.heap.objs.size c' dV)) { s with heap := s.heap.push (PySem.W.kdv_obj "<lambda>" L.lq ps (.expr bd) sc (cloFrom L.lcl sc.names []) dV doc pm c' ctv), toks := tk } := by
  have e : (s.heap.push (PySem.W.kdv_obj "<lambda>" L.lq ps (.expr bd) sc (cloFrom L.lcl sc.names []) dV doc pm c' ctv)).get? s.heap.objs.size = some (PySem.W.kdv_obj "<lambda>" L.lq ps (.expr bd) sc (cloFrom L.lcl sc.names []) dV doc pm c' ctv) := Heap.get?_push_size _ rfl
  exact I.laid (a := s.heap.objs.size) (fun b u q => Heap.get?_push_of_some _ q) (Nat.le_refl _)
    ⟨⟨ps, bd, sc, doc, pm, ctv, hl, hd, e⟩, ⟨_, e⟩, fun h1 h2 ⟨ps', bd', sc', doc', pm', ctv', a1, a2, z⟩ st => ⟨ps', bd', sc', doc', pm', ctv', a1, a2, st _ z⟩⟩
/-- the lambda, its defaults at hand -/
theorem lam_tail {k : Nat} {ps : Arguments} {bd : Expr} {sc : Scope} {dV : Value} {c Pt : Addr} {pos : Pos} {n : Nat} (I : Inv X pins σ H s) (TB : LamX.TabB X.base X.mg c Pt) (hcode : X.env.code = .ref c) (hm : (Pt, L.lq) ∈ L.tabs) (hu : ∀ p ∈ L.tabs, p.1 = Pt → p.2 = L.lq)
    (hq : X.env.qual ++ "<lambda>" = L.lq) (hcl : X.env.cells = L.lcl) (hT : LamX.Tabs L.tabs H) (hl : L.lt k ps bd sc) (hd : dV = .none ↔ ps.defaults = []) (dv : DfV H dV) (hfree : ∀ y ∈ sc.names, y.2 = .free → ∃ c, X.env.cells.lookup y.1 = some c)
    (h : ∀ f H1 s1, Mkd L X pins σ H k f H1 s1 → Q (.ref f) s1) :
    wpAny M A (makeTail "<lambda>" (X.env.qual ++ "<lambda>") ps (.expr bd) sc X.env dV .none none pos n) Q E s := by
  obtain ⟨tb, hP, ht, ha⟩ := hT _ hm
  have bP : s.heap.BuiltinsAt X.mg Pt := TB.bm.keeps I.bk
  have hP' : s.heap.get? Pt = some { cls := .none, data := .fields tb } := I.hok Pt _ hP
  have co : closureFor sc X.env = pure (cloFrom X.env.cells sc.names []) := closure_ok hfree
  rw [hcl] at co
  cases hc : codeAmong pos tb.toList with
  | none =>
    refine PySem.W.kdv_makeTail (mg := X.mg) (c := c) (P := Pt) (ps := tb) co I.ok.glob (I.mod.glob.keeps I.bk) hcode (TB.code.keeps I.bk) hP' ht hc TB.gP bP fun c' ctv doc h' tk hx hge hlt hrec htb => ?_
    rw [hq] at hrec
    obtain ⟨c2, oc, vs, t, e2, hoc, hdc, hv⟩ := hrec
    cases e2
    have nC : H c' = none := I.hok.fresh hge
    have I1 := LamX.inv_table (q := L.lq) (t' := tk) (more := #[rawInt pos.line, rawInt pos.col, .ref c']) (h' := h') I hP (fun b o hb e => hx b o hb e) htb hge ⟨oc, vs, t, hoc, hdc, hv⟩
    have x1 : LamX.ExtN H (upd (upd H Pt (.tbl (tb ++ #[rawInt pos.line, rawInt pos.col, .ref c']))) c' (LamX.CodeO c' L.lq)) := fun b o e nt => by
      rw [upd_ne (ne_of_none e nC), upd_ne (fun z => nt tb (Option.some.inj (e.symm.trans (by rw [z]; exact hP))))]
      exact e
    have eL : (tb ++ #[rawInt pos.line, rawInt pos.col, .ref c']).toList = tb.toList ++ [rawInt pos.line, rawInt pos.col, .ref c'] := by simp
    have T1 : LamX.Tabs L.tabs (upd (upd H Pt (.tbl (tb ++ #[rawInt pos.line, rawInt pos.col, .ref c']))) c' (LamX.CodeO c' L.lq)) := fun p hp => by
      by_cases hb : p.1 = Pt
      · rw [hu p hp hb, hb]
        refine ⟨_, by rw [upd_ne (ne_of_none hP nC), upd_same], by rw [eL]; exact PySem.TriplesOk_snoc _ _ _ _ ht, fun p' cv hcv => ?_⟩
        rw [eL] at hcv
        rcases LamX.among_app _ ht hcv with z | z
        · obtain ⟨c0, e1, e2⟩ := ha p' cv z
          exact ⟨c0, e1, x1 _ _ e2 LamX.codeO_ne⟩
        · exact ⟨c', z, upd_same⟩
      · obtain ⟨tb', a1, a2, a3⟩ := hT p hp
        refine ⟨tb', by rw [upd_ne (ne_of_none a1 nC), upd_ne hb]; exact a1, a2, fun p' cv hcv => ?_⟩
        obtain ⟨c0, e1, e2⟩ := a3 p' cv hcv
        exact ⟨c0, e1, x1 _ _ e2 LamX.codeO_ne⟩
    have nF := I1.hok.fresh (Nat.le_refl _)
    have I2 := inv_lam (L := L) (k := k) (c' := c') (tk := tk) (doc := doc) (pm := (X.mg "__name__").getD .none) (ctv := ctv) I1 hl hd
    rw [hq]
    refine h _ _ _ ⟨I2, fun b o e nt => ?_, fun b e => upd_noneB (upd_noneB (upd_noneB e)), tabs_new T1 nF, c', dV, I.hok.fresh (Nat.le_trans hge (Nat.le_of_lt hlt)), upd_same, ?_, .inl nC, ?_⟩
    · have e1 := x1 b o e nt
      exact (upd_ne (ne_of_none e1 nF)).trans e1
    · exact (upd_ne (Nat.ne_of_lt hlt)).trans upd_same
    · rcases dv with dv | ⟨T, d1, d2⟩
      · exact .inl dv
      · have e1 := x1 _ _ d2 (fun _ z => nomatch z)
        exact .inr ⟨T, d1, (upd_ne (ne_of_none e1 nF)).trans e1⟩
  | some cv =>
    obtain ⟨c', e, hco⟩ := ha pos cv hc
    subst e
    refine PySem.W.kdv_makeTailHit (mg := X.mg) (c := c) (P := Pt) (ps := tb) co I.ok.glob (I.mod.glob.keeps I.bk) hcode (TB.code.keeps I.bk) hP' ht hc bP fun ctv doc h' tk hx hsz => ?_
    have I1 : Inv X pins σ H { s with heap := h', toks := tk } := I.kept hx
    have nF : H h'.objs.size = none := I1.hok.fresh (Nat.le_refl _)
    have I2 := inv_lam (L := L) (k := k) (c' := c') (tk := tk) (doc := doc) (pm := (X.mg "__name__").getD .none) (ctv := ctv) I1 hl hd
    rw [hq]
    refine h _ _ _ ⟨I2, fun b o e nt => (upd_ne (ne_of_none e nF)).trans e, fun b e => upd_noneB e, tabs_new hT nF, c', dV, nF, upd_same, (upd_ne (ne_of_none hco nF)).trans hco, .inr hco, ?_⟩
    rcases dv with dv | ⟨T, d1, d2⟩
    · exact .inl dv
    · exact .inr ⟨T, d1, (upd_ne (ne_of_none d2 nF)).trans d2⟩
theorem lamPs_cases {ps : Arguments} {pa : Option Str} (h : lamPs ps = some pa) : (pa = none ∧ ps = ⟨[], [], none, [], [], none, []⟩) ∨ ∃ (a : Str) (p q : Pos) (j : Nat), pa = some a ∧ ps = ⟨[], [⟨a, none, p⟩], none, [], [], none, [.Constant (.int 0) j q]⟩ := by
  unfold lamPs at h
  split at h
  · cases h
    exact .inl ⟨rfl, rfl⟩
  · rename_i a p z j q
    split at h
    · rename_i hz
      cases h
      have hz := of_decide_eq_true hz
      subst hz
      exact .inr ⟨a, p, q, j, rfl, rfl⟩
    · cases h
  · cases h
theorem Mkd.of_ext {k : Nat} {f : Addr} {H0 H1 : Hp} {s1 : Shared} (m : Mkd L X pins σ H k f H1 s1) (e : ∀ b o, H0 b = some o → H b = some o) (n : ∀ b, H b = none → H0 b = none) (nc : ∀ (b : Addr) (q : Str), H b = some (LamX.CodeO b q) → H0 b = some (LamX.CodeO b q)) : Mkd L X pins σ H0 k f H1 s1 := by
  obtain ⟨c', dV, a1, a2, a3, a4, a5⟩ := m.ob
  exact ⟨m.inv, fun b o q nt => m.ext b o (e b o q) nt, fun b q => n b (m.nn b q), m.tab, c', dV, n f a1, a2, a3, a4.imp (n c') (nc c' _), a5⟩
/-- a lambda is made -/
theorem lam_mk {k : Nat} {ps : Arguments} {pa : Option Str} {bd : Expr} {sc : Scope} {c Pt : Addr} {pos : Pos} (I : Inv X pins σ H s) (TB : LamX.TabB X.base X.mg c Pt) (hcode : X.env.code = .ref c) (hm : (Pt, L.lq) ∈ L.tabs) (hu : ∀ p ∈ L.tabs, p.1 = Pt → p.2 = L.lq)
    (hq : X.env.qual ++ "<lambda>" = L.lq) (hcl : X.env.cells = L.lcl) (hT : LamX.Tabs L.tabs H) (hl : L.lt k ps bd sc) (hp : lamPs ps = some pa) (hfree : ∀ y ∈ sc.names, y.2 = .free → ∃ c, X.env.cells.lookup y.1 = some c)
    (h : ∀ f H1 s1, Mkd L X pins σ H k f H1 s1 → Q (.ref f) s1) :
    wpAny (model X.prog X.w) X.A (eval (.Lambda ps bd sc pos) X.env) Q X.xe s := by
  rw [arm_eval_Lambda]
  rcases lamPs_cases hp with ⟨_, rfl⟩ | ⟨a, p, q, j, _, rfl⟩
  · show wpAny _ _ (do let dv ← evalAll []; let kdv ← holding dv (evalAllOpt []); makeFunction "<lambda>" (X.env.qual ++ "<lambda>") ⟨[], [], none, [], [], none, []⟩ (.expr bd) sc X.env dv kdv [] pos pos.line) Q X.xe s
    refine wpAny_bind (wpAny_pure (wpAny_bind (wpAny_holding (wpAny_pure ?_))))
    rw [makeFunction_eq]
    exact lam_tail I TB hcode hm hu hq hcl hT hl ⟨fun _ => rfl, fun _ => rfl⟩ (.inl rfl) hfree h
  · show wpAny _ _ (do let dv ← evalAll [eval (.Constant (.int 0) j q) X.env]; let kdv ← holding dv (evalAllOpt []); makeFunction "<lambda>" (X.env.qual ++ "<lambda>") ⟨[], [⟨a, none, p⟩], none, [], [], none, [.Constant (.int 0) j q]⟩ (.expr bd) sc X.env dv kdv [] pos pos.line) Q X.xe s
    have nT : ∀ s1 : Shared, Inv X pins σ H s1 → H s1.heap.objs.size = none := fun s1 I1 => I1.hok.fresh (Nat.le_refl _)
    refine wpAny_bind (wpAny_bind (thn (pe_int.run pins s σ H (fun v H1 => v = .int 0 ∧ H1 = H) I ⟨rfl, rfl⟩) fun u s1 ⟨v, H1, I1, r1, e1, e2⟩ => ?_))
    subst e1 e2
    refine wpAny_bind (wpAny_holding (wpAny_pure (wpAny_pure (wpAny_bind (wpAny_holding (wpAny_pure ?_))))))
    rw [makeFunction_eq]
    refine wpAny_bind (wpAny_newTextTuple ?_)
    have hgT : (s1.heap.push { cls := .type "tuple", data := .seq ([u] : List Value).toArray }).get? s1.heap.objs.size = some { cls := .type "tuple", data := .seq ([u] : List Value).toArray } := Heap.get?_push_size _ rfl
    have I2 : Inv X pins σ (upd H1 s1.heap.objs.size (.tup [.int 0])) { s1 with heap := s1.heap.push { cls := .type "tuple", data := .seq ([u] : List Value).toArray } } :=
      I1.laid (t' := s1.toks) (fun b o e => Heap.get?_push_of_some _ e) (Nat.le_refl _) ⟨by show 1 ≤ sizeLine; decide, [u], .cons r1 .nil, ⟨_, hgT, rfl, _, rfl⟩⟩
    have n0 := nT s1 I1
    have hT2 : LamX.Tabs L.tabs (upd H1 s1.heap.objs.size (.tup [.int 0])) := tabs_new hT n0
    refine lam_tail I2 TB hcode hm hu hq hcl hT2 hl ⟨fun z => (nomatch z), fun z => (nomatch z)⟩ (.inr ⟨_, rfl, upd_same⟩) hfree fun f H2 s2 m => h f H2 s2 (m.of_ext (fun b o e => (upd_ne (ne_of_none e n0)).trans e) (fun b e => upd_noneB e) fun b q e => ?_)
    by_cases z : b = s1.heap.objs.size
    · rw [z, upd_same] at e
      exact absurd (Option.some.inj e).symm (fun y => by unfold LamX.CodeO at y; cases y)
    · rwa [upd_ne z] at e
end
end MV

set_option maxRecDepth 100000
set_option maxHeartbeats 1000000
/-! VHm: a try whose first clause takes what is raised; the field of an error. -/
namespace MV
open PySem PySem.Spec PyProof.Rows L2
/-! ### try: .. except C as n: .. (more clauses behind it), where C takes it -/
/-- the wish: the first clause's class takes the error -/
def wFst (K : PySem.W.Frag) (c : Value) (i : Nat) (ts : Addr → Value → Option Addr → TS) (D : Ends) : WX := fun cls d σ H =>
  PySem.W.exmOne K cls c = some true ∧ ∀ a, H a = none → ts a cls d { nx := fun σ' H' => D.nx (σ'.set i none) H', rt := D.rt, bk := fun σ' H' => D.bk (σ'.set i none) H', ct := fun σ' H' => D.ct (σ'.set i none) H' } (σ.set i (some (.ref a))) H
section
variable {X : Cx} {x n : Str} {c : Value} {i : Nat} {body suite : List Stmt} {b0 : Stmt} {np pos pos' : Pos} {hds : List ExceptHandler} {tb : WX → TS} {ts : Addr → Value → Option Addr → TS}
theorem ps_try_fst (hs : X.stack = X.env :: X.outer) (hf : X.env.frame = some X.env.locals) (hN : X.N.Nodup) (hi : X.N[i]? = some n) (hln : X.env.kindOf n = some .local) (hc : Names X x c)
    (hb : ∀ (W : WX) (pn : List (Addr × Obj)) (xe : Value → Shared → Prop), Takes (X.tr pn xe) W → PassesOwn (model X.prog X.w) X.A X.env xe → PSs (X.tr pn xe) body (tb W))
    (hsu : ∀ (a : Addr) (oe : Obj) (cls : Value) (d : Option Addr) (pn : List (Addr × Obj)), Zc cls d oe → (∃ vs, oe.data = .fields vs) → PSs (X.suite a ((a, oe) :: pn)) (b0 :: suite) (ts a cls d)) :
    PS X (.Try body (.ExceptHandler (some (.Name x np)) (some n) (b0 :: suite) pos' :: hds) [] [] pos) (fun D σ H => tb (wFst X.K c i ts D) D σ H) := by
  constructor
  intro pins s σ H D I h
  have ok := I.ok
  have fr : X.A.frames = some (X.env :: X.outer) := ok.frames.trans (congrArg some hs)
  have body_run := (hb (wFst X.K c i ts D) (X.pn ++ pins)
    (fun e s1 => wpAny (model X.prog X.w) X.A (noteFrame e X.env) (fun _ s2 => wpAny (model X.prog X.w) X.A (setFlight e none) (fun _ s3 => wpAny (model X.prog X.w) X.A (handleBy e X.env (.ExceptHandler (some (.Name x np)) (some n) (b0 :: suite) pos' :: hds)) (SP X pins D) X.xe s3) X.xe s2) X.xe s1)
    (fun u s' q => ?caught) PassesOwn.looking).run [] s σ H D (I.toTry _) h
  · refine wpAny_Try_except (wpAny_mono body_run (fun fl s1 q => ?_) fun _ _ q => q)
    cases fl with
    | next =>
      obtain ⟨σ1, H1, J, q⟩ := q
      exact wpAny_execs_nil ⟨σ1, H1, J.ofTry ok, q⟩
    | brk =>
      obtain ⟨σ1, H1, J, q⟩ := q
      exact ⟨σ1, H1, J.ofTry ok, q⟩
    | cont =>
      obtain ⟨σ1, H1, J, q⟩ := q
      exact ⟨σ1, H1, J.ofTry ok, q⟩
    | ret u =>
      obtain ⟨v, σ1, H1, J, r, q⟩ := q
      exact ⟨v, σ1, H1, J.ofTry ok, r, q⟩
  · obtain ⟨a, B, sI, pins1, σ1, H1, cls, d, rfl, J0, nb, up, sky, na, os, ag, hyes, hrun⟩ := q
    have J := J0.ofTry ok
    rw [show (X.tr (X.pn ++ pins) _).stack = X.env :: X.outer from hs] at sky
    show wpAny (model X.prog X.w) X.A (noteFrame (.ref a) X.env) _ _ _
    refine Sky.land Zc.steady fr hf sky fun h3 fly3 up3 => ?_
    have J3 : Inv X pins σ1 H1 { s' with heap := h3 } := J.landed nb fly3.1 (up.trans up3) os ag
    obtain ⟨o3, v3, g3, z3, d3⟩ := fly3.there
    have nfr : a ∉ frs (X.env :: X.outer) := fun m => by
      obtain ⟨_, o4, g4, q4⟩ := fly3.2.2.1.mem m
      rw [g3] at g4
      cases g4
      exact q4 _ d3
    have nL : a ≠ X.env.locals := fun z => nfr (List.mem_filterMap.mpr ⟨X.env, List.mem_cons_self, by rw [hf, z]⟩)
    have nF : a ∉ X.fs := fun m => by
      obtain ⟨e, he, q⟩ := List.mem_filterMap.mp m
      exact nfr (List.mem_filterMap.mpr ⟨e, List.mem_cons_of_mem _ he, q⟩)
    have S3 := J3.suite g3 d3 na nL nF
    refine wpAny_handleBy_cons (codeAny_handlers_test ?_) (by intro q; cases q)
    have ty : PySem.W.Looks (model X.prog X.w) h3 (typeOf (.ref a)) cls := fun A Q E s k q => wpAny_typeOf_ref (k _ _ g3) (by rw [z3.1]; exact q)
    have one := PySem.W.exm_one (M := model X.prog X.w) J3.kIn ty hyes
    have named : ∀ {Q : Value → Shared → Prop} {E : Value → Shared → Prop}, Q c { s' with heap := h3 } → wpAny (model X.prog X.w) (X.A.mark (some (.ref a))) (eval (.Name x np) X.env) Q E { s' with heap := h3 } := fun {Q E} q => by
      obtain ⟨hg, hdb, w | ⟨w1, w2, w3⟩⟩ := hc
      · exact ld_glob (X := X.suite a ((a, o3) :: (X.pn ++ pins))) S3 hg w q hdb
      · exact ld_blt (X := X.suite a ((a, o3) :: (X.pn ++ pins))) S3 hg w1 w2 q w3 hdb
    refine named (one.here (codeAny_handlers_suite_as (HandSPX.lands_againZ fly3 fun h4 fly4 up4 => ?_)))
    have J4 : Inv X pins σ1 H1 { s' with heap := h4 } := J.landed nb fly4.1 ((up.trans up3).trans up4) os ag
    obtain ⟨o4, v4, g4, z4, d4⟩ := fly4.there
    refine store_ok (X := X.suite a ((a, o4) :: (X.pn ++ pins))) (v := .ref a) (J4.suite g4 d4 na nL nF) hN hi (.inl hln) rfl (fun s5 S5 => ?_) (.inr hln)
    refine wpAny_mono ((hsu a o4 cls d (X.pn ++ pins) z4 ⟨_, d4⟩).run [] s5 _ H1 _ S5 (hrun a na)) (fun fl s6 q => ?_) fun _ _ z => False.elim z
    have last : ∀ {σ6 : L2.St} {H6 : Hp} {Q : Shared → Prop}, Inv (X.suite a ((a, o4) :: (X.pn ++ pins))) [] σ6 H6 s6 → (∀ s7, Inv X pins (σ6.set i none) H6 s7 → Q s7) →
        wpAny (model X.prog X.w) X.A (do bindName X.env n .none; unbindBehindTheSuite X.env n pos') (fun _ s7 => Q s7) X.xe s6 := fun {σ6 H6 Q} S6 hq => gone_ok (S6.unsuite ok) hN hi hln hq
    cases fl with
    | next =>
      obtain ⟨σ6, H6, S6, q6⟩ := q
      exact last S6 fun s7 J7 => ⟨_, _, J7, q6⟩
    | brk =>
      obtain ⟨σ6, H6, S6, q6⟩ := q
      exact last S6 fun s7 J7 => ⟨_, _, J7, q6⟩
    | cont =>
      obtain ⟨σ6, H6, S6, q6⟩ := q
      exact last S6 fun s7 J7 => ⟨_, _, J7, q6⟩
    | ret u =>
      obtain ⟨v6, σ6, H6, S6, r6, q6⟩ := q
      exact last S6 fun s7 J7 => ⟨_, _, _, J7, r6, q6⟩
end
/-! ### the field of an error that is handled -/
/-- e.f, where e is the pinned error -/
def tXfp (a dd : Addr) (f : Str) (te : TE) : TE := fun σ H Q => te σ H fun x H1 => x = .ref a ∧ ∃ (fs : List (Str × V)) (v : V), H1 dd = some (.xd fs) ∧ fs.lookup f = some v ∧ Q v H1
theorem pe_xfp {X : Cx} {a C dd : Addr} {oe : Obj} {e : Expr} {te : TE} {pos : Pos} {f : Str} (T : XfC X.K C) (hno : PySem.W.findIn X.K (.ref C) f = some none) (hm : (a, oe) ∈ X.pn) (hz : Zc (.ref C) (some dd) oe) (hf : ∃ vs, oe.data = .fields vs) (he : PE X e te)
    (hb : attributeBase e f X.env (eval e X.env) = eval e X.env) : PE X (.Attribute e f pos) (tXfp a dd f te) := by
  constructor
  intro pins s σ H Q I h
  refine attr_of hb (thn (he.run pins s σ H _ I h) fun u s1 ⟨x, H1, I1, rx, ex, fs, v, ea, l, q⟩ => ?_)
  subst ex
  obtain rfl : u = Value.ref a := rx
  have ha := (I1.pin (a, oe) (List.mem_append_left _ hm)).1
  obtain ⟨vs, hd⟩ := hf
  obtain ⟨mA, hns, hr⟩ : ∃ mA, s1.heap.Ns1 dd mA ∧ ∀ g, RelO (fs.lookup g) (mA g) := I1.hok dd _ ea
  obtain ⟨od, ho, hl⟩ := lookIn_ns hns
  obtain ⟨u, hu, ru⟩ := RelO.some_of (v := v) (o := mA f) (by rw [← l]; exact hr f)
  have at_ : PySem.W.InstAt s1.heap a oe C (some od) := ⟨ha, hz.1, by unfold PySem.W.notCls; rw [hd] <;> rfl, by rw [hz.2]; exact ho⟩
  exact HandSPX.exc_get I1.kIn at_ T.ga T.gg T.exC (PySem.W.findObj_own T.hdC hno rfl (by rw [hl, hu])) (handed_of ru) ⟨v, H1, I1.tok _, ru, q⟩
end MV

set_option maxRecDepth 100000
set_option maxHeartbeats 1000000
/-! VHn: the law's own look at an error's field. -/
namespace MV
open PySem PySem.Spec PyProof.Rows L2
def isAtt (v f : Str) : Expr → Bool
  | .Attribute (.Name x _) g _ => decide (x = v) && decide (g = f)
  | _ => false
def ckRE (v : Str) : RE → Expr → Bool
  | .at f, e => isAtt v f e
  | .no, e => (match e with
    | .Constant .none _ _ => true
    | _ => false)
  | .ite w a b, e => (match e with
    | .IfExp (.Compare x [.Eq] [.Constant (.str z) _ _] _) p q _ => isAtt v "tag" x && (decide (z = w) && (ckRE v a p && ckRE v b q))
    | _ => false)
def ckStrs : List Str → List Expr → Bool
  | [], [] => true
  | w :: ws, .Constant (.str z) _ _ :: es => decide (z = w) && ckStrs ws es
  | _, _ => false
def ckRows (v : Str) : List (List Str × RE) → RE → List Stmt → Bool
  | [], l, b => (match b with
    | [.Return (some e) _] => ckRE v l e
    | _ => false)
  | (ws, r) :: rest, l, b => (match b with
    | .If (.Compare x [.In] [.Tuple es _ _] _) [.Return (some e) _] [] _ :: more => isAtt v "tag" x && (Nat.ble ws.length 50 && (ckStrs ws es && (ckRE v r e && ckRows v rest l more)))
    | _ => false)
def xNames : List Str := ["tag", "at", "most", "name", "given", "first", "number", "line"]
def RE.names : RE → Bool
  | .at f => xNames.contains f
  | .no => true
  | .ite _ a b => a.names && b.names
/-- the context of a look at the error at a -/
structure XfX (L : Lk) (X : Cx) (v : Str) (a dd C : Addr) (oe : Obj) : Prop where
  hK : X.K = L.K
  hu : X.A.units + 65 < cLine
  T : XfC X.K C
  no : ∀ f ∈ xNames, PySem.W.findIn X.K (.ref C) f = some none
  pn : (a, oe) ∈ X.pn
  z : Zc (.ref C) (some dd) oe
  f : ∃ vs, oe.data = .fields vs
  N : X.N[0]? = some v
  vis : Vis X.env.scope v
  d1 : (v == ("__debug__" : Str)) = false
  d2 : (v == ("__classdict__" : Str)) = false
section
variable {L : Lk} {X : Cx} {v : Str} {a dd C : Addr} {oe : Obj}
/-- what is known of the slots and the error's dict -/
def XSt (L : Lk) (F : Fm) (φ : List Addr) (h : HH) (a dd : Addr) (fs : List (Str × V)) (t : Str) (σ : L2.St) (H : Hp) : Prop :=
  σ[0]? = some (some (.ref a)) ∧ HR L F φ h H ∧ H dd = some (.xd fs) ∧ fs.lookup ("tag" : Str) = some (V.str t) ∧ PySem.PyData.strOk t = true
def tAt (a dd : Addr) (f : Str) : TE := fun σ H Q => σ[0]? = some (some (.ref a)) ∧ ∃ (fs : List (Str × V)) (w : V), H dd = some (.xd fs) ∧ fs.lookup f = some w ∧ Q w H
theorem att_ok (c : XfX L X v a dd C oe) {f : Str} (hf : f ∈ xNames) {e : Expr} (h : isAtt v f e = true) : PE X e (tAt a dd f) := by
  unfold isAtt at h
  split at h
  · rename_i x p g q
    obtain ⟨h1, h2⟩ := and_ h
    have h1 := of_decide_eq_true h1
    have h2 := of_decide_eq_true h2
    subst h1 h2
    exact (pe_xfp c.T (c.no _ hf) c.pn c.z c.f (pe_var (i := 0) c.N c.vis c.d1 c.d2) rfl).imp fun σ H Q ⟨s0, fs, w, e1, e2, q⟩ => ⟨.ref a, s0, rfl, fs, w, e1, e2, q⟩
  · cases h
theorem eq_str {t w : Str} {h : HH} (ht : PySem.PyData.strOk t = true) (hw : PySem.PyData.strOk w = true) : cmpD .Eq (.str t) (.str w) h = some (decide (t = w)) := by
  show eqD (.str t) (.str w) h = _
  have e1 : D.cmp 60 (.str t) = true := by simpa only [D.cmp] using ht
  have e2 : D.cmp 60 (.str w) = true := by simpa only [D.cmp] using hw
  have e3 : D.eqv (.str t) (.str w) = decide (t = w) := by
    simp only [D.eqv]
    rfl
  unfold eqD
  show (match D.cmp 60 (.str t) && D.cmp 60 (.str w) with
    | true => some (D.eqv (.str t) (.str w))
    | false => none) = _
  rw [e1, e2, e3]
  rfl
def RE.strs : RE → Bool
  | .ite w a b => PySem.PyData.strOk w && (a.strs && b.strs)
  | _ => true
theorem re_ok (c : XfX L X v a dd C oe) : ∀ {r : RE} {e : Expr}, r.names = true → r.strs = true → ckRE v r e = true → PE X e (fun σ H Q => ∃ F φ h fs t, XSt L F φ h a dd fs t σ H ∧ match r.get t with
      | some f => ∃ w, fs.lookup f = some w ∧ Q w H
      | none => Q .non H)
  | .at f, e, hn, _, h => by
    refine (att_ok c (by simpa [RE.names] using hn) (show isAtt v f e = true from h)).imp fun σ H Q ⟨F, φ, hh, fs, t, ⟨s0, hr, e1, e2, e3⟩, w, l, q⟩ => ⟨s0, fs, w, e1, l, q⟩
  | .no, e, _, _, h => by
    unfold ckRE at h
    split at h
    · exact pe_non.imp fun σ H Q ⟨F, φ, hh, fs, t, _, q⟩ => q
    · cases h
  | .ite w ra rb, e, hn, hs, h => by
    unfold ckRE at h
    split at h
    · rename_i x z j p0 p1 p q p2
      obtain ⟨h1, h⟩ := and_ h
      obtain ⟨h2, h⟩ := and_ h
      obtain ⟨h3, h4⟩ := and_ h
      have h2 := of_decide_eq_true h2
      subst h2
      obtain ⟨n1, n2⟩ := and_ (show (ra.names && rb.names) = true from hn)
      obtain ⟨s1, s2⟩ := and_ (show (PySem.PyData.strOk z && (ra.strs && rb.strs)) = true from hs)
      obtain ⟨s2, s3⟩ := and_ s2
      refine (pe_ifExp (pt_cmpR (cmp_ok c.hK c.hu .Eq) (att_ok c (by decide) h1) pe_str (nomark _)) (re_ok c n1 s2 h3) (re_ok c n2 s3 h4)).imp fun σ H Q ⟨F, φ, hh, fs, t, st, m⟩ => ?_
      obtain ⟨t0, hr, e1, e2, e3⟩ := st
      refine ⟨t0, fs, _, e1, e2, F, φ, hh, .str t, .str z, _, hr, .str t, .str z, eq_str e3 s1, _, rfl, ?_⟩
      have g : (RE.ite z ra rb).get t = if t = z then ra.get t else rb.get t := by
        show (match decide (t = z) with
          | true => ra.get t
          | false => rb.get t) = _
        by_cases y : t = z
        · rw [if_pos y, decide_eq_true y]
        · rw [if_neg y, decide_eq_false y]
      rw [g] at m
      by_cases y : t = z
      · rw [decide_eq_true y]
        dsimp only
        rw [if_pos rfl]
        rw [if_pos y] at m
        exact ⟨F, φ, hh, fs, t, ⟨t0, hr, e1, e2, e3⟩, m⟩
      · rw [decide_eq_false y]
        dsimp only
        rw [if_neg Bool.false_ne_true]
        rw [if_neg y] at m
        exact ⟨F, φ, hh, fs, t, ⟨t0, hr, e1, e2, e3⟩, m⟩
    · cases h
theorem strs_pa : ∀ {ws : List Str} {es : List Expr}, ckStrs ws es = true → PA X es (fun σ H Q => Q (ws.map V.str) H)
  | [], [], _ => pa_nil
  | [], _ :: _, h => by cases h
  | _ :: _, [], h => by cases h
  | w :: ws, e :: es, h => by
    cases e with
    | Constant k j p =>
      cases k with
      | str z =>
        obtain ⟨h1, h2⟩ := and_ (show (decide (z = w) && ckStrs ws es) = true from h)
        have h1 := of_decide_eq_true h1
        subst h1
        exact (pa_cons pe_str (strs_pa h2) (sEach _ _ _ rfl)).imp fun σ H Q q => q
      | _ => cases h
    | _ => cases h
theorem rels_strs {F : Fm} {φ : List Addr} {H : Hp} : ∀ ws : List Str, Rels L F φ H (ws.map D.str) (ws.map V.str)
  | [] => .nil
  | w :: ws => .cons (.str w) (rels_strs ws)
theorem in_strs {t : Str} {ws : List Str} {h : HH} : cmpD .In (.str t) (.tup (ws.map D.str)) h = some (ws.any fun w => decide (w = t)) := by
  have e1 : ((ws.map D.str).all D.scal) = true := by
    rw [List.all_eq_true]
    intro x hx
    obtain ⟨w, _, rfl⟩ := List.mem_map.mp hx
    rfl
  show (match (true && (ws.map D.str).all D.scal) with
    | true => some ((ws.map D.str).any fun z => D.eqv z (.str t))
    | false => none) = _
  rw [e1]
  show some ((ws.map D.str).any fun z => D.eqv z (.str t)) = _
  rw [List.any_map]
  rfl
def rowsB (rows : List (List Str × RE)) : Bool := rows.all fun p => p.2.names && p.2.strs
/-- the look's body -/
theorem rows_ok (c : XfX L X v a dd C oe) {l : RE} (hl : l.names = true ∧ l.strs = true) : ∀ {rows : List (List Str × RE)} {b : List Stmt}, rowsB rows = true → ckRows v rows l b = true → PSs X b (fun Dn σ H => ∃ F φ h fs t, XSt L F φ h a dd fs t σ H ∧ match fldGo t rows l with
      | some f => ∃ w, fs.lookup f = some w ∧ ∀ H1, XT φ H φ H1 → HR L F φ h H1 → Dn.rt w H1
      | none => ∀ H1, XT φ H φ H1 → HR L F φ h H1 → Dn.rt .non H1)
  | [], b, _, h => by
    unfold ckRows at h
    split at h
    · rename_i e p
      refine (pss_one (ps_ret (re_ok c hl.1 hl.2 h))).imp fun Dn σ H ⟨F, φ, hh, fs, t, st, m⟩ => ⟨F, φ, hh, fs, t, st, ?_⟩
      have m : (match l.get t with
        | some f => ∃ w, fs.lookup f = some w ∧ ∀ H1, XT φ H φ H1 → HR L F φ hh H1 → Dn.rt w H1
        | none => ∀ H1, XT φ H φ H1 → HR L F φ hh H1 → Dn.rt .non H1) := m
      cases hg : l.get t with
      | some f =>
        rw [hg] at m
        obtain ⟨w, l1, q⟩ := m
        exact ⟨w, l1, q H (.refl _ _) st.2.1⟩
      | none =>
        rw [hg] at m
        exact m H (.refl _ _) st.2.1
    · cases h
  | (ws, r) :: rest, b, hb, h => by
    unfold ckRows at h
    split at h
    · rename_i x es j p1 p2 e p3 p4 more
      obtain ⟨h1, h⟩ := and_ h
      obtain ⟨h0, h⟩ := and_ h
      obtain ⟨h2, h⟩ := and_ h
      obtain ⟨h3, h4⟩ := and_ h
      have hb : ((r.names && r.strs) && rowsB rest) = true := hb
      obtain ⟨b1, b2⟩ := and_ hb
      obtain ⟨b1, b3⟩ := and_ b1
      refine (pss_cons (ps_if (pt_cmpR (cmp_ok c.hK c.hu .In) (att_ok c (by decide) h1) (pe_tup (strs_pa h2)) rfl) (pss_one (ps_ret (re_ok c b1 b3 h3))) pss_nil) (rows_ok c hl b2 h4)).imp fun Dn σ H ⟨F, φ, hh, fs, t, st, m⟩ => ?_
      obtain ⟨t0, hr, e1, e2, e3⟩ := st
      have hlen : (ws.map V.str).length ≤ sizeLine := by
        rw [List.length_map]
        exact Nat.le_trans (Nat.le_of_ble_eq_true h0) (by rw [sizeLine_eq]; decide)
      refine ⟨t0, fs, _, e1, e2, hlen, fun q nq => ?_⟩
      have xt : XT φ H φ (upd H q (.tup (ws.map V.str))) := XT.fresh nq
      have hr1 : HR L F φ hh (upd H q (.tup (ws.map V.str))) := hr.fresh nq
      have ed : (upd H q (.tup (ws.map V.str))) dd = some (.xd fs) := (upd_ne (ne_of_none e1 nq)).trans e1
      refine ⟨F, φ, hh, .str t, .tup (ws.map D.str), _, hr1, .str t, .tup (.inl (.inl upd_same)) (rels_strs ws), in_strs, _, rfl, ?_⟩
      have st1 : XSt L F φ hh a dd fs t σ (upd H q (.tup (ws.map V.str))) := ⟨t0, hr1, ed, e2, e3⟩
      have g : fldGo t ((ws, r) :: rest) l = if (ws.any fun w => decide (w = t)) = true then r.get t else fldGo t rest l := by
        show (match ws.any fun w => decide (w = t) with
          | true => r.get t
          | false => fldGo t rest l) = _
        cases ws.any fun w => decide (w = t) <;> rfl
      rw [g] at m
      by_cases y : (ws.any fun w => decide (w = t)) = true
      · rw [if_pos y] at m
        dsimp only
        rw [if_pos y]
        refine ⟨F, φ, hh, fs, t, st1, ?_⟩
        cases hg : r.get t with
        | some f =>
          rw [hg] at m
          obtain ⟨w, l1, q1⟩ := m
          exact ⟨w, l1, q1 _ xt hr1⟩
        | none =>
          rw [hg] at m
          exact m _ xt hr1
      · rw [if_neg y] at m
        dsimp only
        rw [if_neg y]
        refine ⟨F, φ, hh, fs, t, st1, ?_⟩
        cases hg : fldGo t rest l with
        | some f =>
          rw [hg] at m
          obtain ⟨w, l1, q1⟩ := m
          exact ⟨w, l1, fun H1 x1 r1 => q1 H1 (xt.trans x1) r1⟩
        | none =>
          rw [hg] at m
          exact fun H1 x1 r1 => m H1 (xt.trans x1) r1
    · cases h
end
theorem fld_all : rowsB fldRows = true ∧ fldLast.names = true ∧ fldLast.strs = true := by decide +kernel
end MV

set_option maxRecDepth 100000
set_option maxHeartbeats 1000000
/-! VHp: a lambda of the law's frame is called. -/
namespace MV
open PySem PySem.Spec PyProof.Rows L2
/-- what lamSB says -/
structure LamSx (sc scope : Scope) (N : List Str) (pa : Option Str) : Prop where
  kind : scope.kind = .function
  co : scope.isCoroutine = false
  gen : scope.isGenerator = false
  own : ∀ y ∈ scope.names, (y.2 = .local → pa = some y.1) ∧ y.2 ≠ .cell
  free : ∀ y ∈ scope.names, y.2 = .free → sc.names.lookup y.1 = some .cell ∨ sc.names.lookup y.1 = some .free
  par : ∀ a, pa = some a → scope.names.lookup a = some .local ∧ a ∉ N
theorem lamSx_by {sc scope : Scope} {N : List Str} {pa : Option Str} (h : lamSB sc scope N pa = true) : LamSx sc scope N pa := by
  unfold lamSB at h
  obtain ⟨h1, h⟩ := and_ h
  obtain ⟨h2, h⟩ := and_ h
  obtain ⟨h3, h⟩ := and_ h
  obtain ⟨h4, h5⟩ := and_ h
  have h4 := List.all_eq_true.mp h4
  refine ⟨of_decide_eq_true h1, by simpa using h2, by simpa using h3, fun y hy => ?_, fun y hy e => ?_, fun a ea => ?_⟩
  · obtain ⟨q1, q2⟩ := and_ (h4 y hy)
    obtain ⟨q2, _⟩ := and_ q2
    refine ⟨fun e => ?_, by simpa using q2⟩
    rcases Bool.or_eq_true_iff.mp q1 with z | z
    · simp [e] at z
    · exact of_decide_eq_true z
  · obtain ⟨_, q2⟩ := and_ (h4 y hy)
    obtain ⟨_, q3⟩ := and_ q2
    rcases Bool.or_eq_true_iff.mp q3 with z | z
    · simp [e] at z
    · rcases Bool.or_eq_true_iff.mp z with z | z
      · exact .inl (of_decide_eq_true z)
      · exact .inr (of_decide_eq_true z)
  · subst ea
    obtain ⟨q1, q2⟩ := and_ h5
    exact ⟨of_decide_eq_true q1, by simpa using q2⟩
section
variable {X : Cx} {pins : List (Addr × Obj)} {σ : L2.St} {H HZ : Hp} {s s1 : Shared}
/-- the lambda's frame stands -/
theorem lam_in {A : Around} {outer : List PySem.Env} {E : XK} {scope : Scope} {f c' : Addr} {h1 : Heap} {tk : Nat} {pa : Option Str} {bs : List (Str × Value)} (I : Inv X pins σ H s) (S : LamSx X.env.scope scope X.N pa) (e0 : Env0 X.prog X.w X.K X.mg X.base A outer s1 HZ) (hd : A.handled = none)
    {fs ex : List Addr} (hex : ∀ b ∈ ex, ∀ x c, X.env.cells.lookup x = some c → c ≠ b) (un : Un fs ex H HZ s.heap s1.heap) (hns : h1.Ns s1.heap.objs.size fun y => bs.reverse.lookup y) (kp : ∀ b o, s1.heap.get? b = some o → h1.get? b = some o) : Inv (LamX.lamCx X A outer s1 HZ E scope f c') [] σ HZ { s1 with heap := h1, toks := tk } := by
  have has : ∀ y ∈ scope.names, y.2 = .free → ∃ c, X.env.cells.lookup y.1 = some c := fun y hy e => (S.free y hy e).elim (fun z => I.ok.has _ (.inl z)) fun z => I.ok.has _ (.inr z)
  have up : ∀ {y c}, (cloFrom X.env.cells scope.names []).lookup y = some c → X.env.cells.lookup y = some c := fun {y c} e => by
    rcases cloFrom_mem (PySem.mem_of_lookup e) with m | ⟨m1, m2⟩
    · cases m
    · obtain ⟨c1, e1⟩ := has _ m1 rfl
      have e1 : X.env.cells.lookup y = some c1 := e1
      have : c = c1 := by
        rw [m2, e1] <;> rfl
      rw [this]
      exact e1
  have down : ∀ {y}, scope.names.lookup y = some .free → ∃ c, (cloFrom X.env.cells scope.names []).lookup y = some c := fun {y} e =>
    mem_lookup (cloFrom_has (cells := X.env.cells) (acc := []) (show (y, NameKind.free) ∈ scope.names from PySem.mem_of_lookup e))
  have cell1 : ∀ {y : Str} {c : Addr} {v : Option Value}, X.env.cells.lookup y = some c → s.heap.IsCell c v → h1.IsCell c v := fun {y c v} e z => by
    obtain ⟨o, ho, hd⟩ := z
    obtain ⟨sl, q⟩ := un.any ho (I.freeC y c e) fun m => hex c m y c e rfl
    exact ⟨_, kp _ _ q, hd⟩
  have noex : ∀ b : Addr, b ∉ (LamX.lamCx X A outer s1 HZ E scope f c').ex := fun b z => (nomatch (show b ∈ ([] : List Addr) from z))
  refine ⟨⟨e0.mod, S.kind, rfl, rfl, Nat.le_refl _, fun y z c e1 e2 => I.ok.inj y z c (up e1) (up e2), fun y hy => ?_, fun y c z _ => Bool.noConfusion (show false = true from z), fun _ => hd, Around.frames_deeper e0.frames, .inr ⟨rfl, rfl⟩,
      fun b z => absurd z (noex b), e0.bs, e0.bsz, fun b _ _ => noex b, fun b z => absurd z (noex b), e0.funs, e0.frf⟩,
    rfl, e0.bare, Un.kept kp, ⟨_, hns, fun i y v e1 e2 e3 => ?_⟩, fun y c e => ?_, e0.hok.fresh (Nat.le_refl _), fun y c e => ?_, fun q hq => (nomatch (show q ∈ ([] : List (Addr × Obj)) ++ [] from hq)), e0.hok.kept kp, I.len⟩
  · rcases (show scope.names.lookup y = some .cell ∨ scope.names.lookup y = some .free from hy) with hy | hy
    · exact absurd rfl (S.own _ (PySem.mem_of_lookup hy)).2
    · exact down hy
  · rcases (show Vis scope y from e3) with q | q | q
    · have ep := (S.own _ (PySem.mem_of_lookup q)).1 rfl
      exact absurd (List.mem_of_getElem? (show X.N[i]? = some y from e1)) (S.par _ ep).2
    · exact absurd rfl (S.own _ (PySem.mem_of_lookup q)).2
    · obtain ⟨m, _, hl⟩ := I.loc
      have vis : Vis X.env.scope y := (S.free _ (PySem.mem_of_lookup q) rfl).elim (fun z => .inr (.inl z)) fun z => .inr (.inr z)
      obtain ⟨u, ru, lk⟩ := hl i y v e1 e2 vis
      obtain ⟨c2, e4⟩ := down q
      refine ⟨u, ru, .inr ⟨.inr q, c2, e4, ?_⟩⟩
      rcases lk with ⟨kl, _⟩ | ⟨_, c3, e5, ic⟩
      · have kl : X.env.scope.names.lookup y = some .local := kl
        rcases S.free _ (PySem.mem_of_lookup q) rfl with z | z <;> rw [show X.env.scope.names.lookup y = _ from z] at kl <;> cases kl
      · rw [up e4] at e5
        cases e5
        exact cell1 (up e4) ic
  · obtain ⟨v, z⟩ := I.cell y c (up e)
    exact ⟨v, cell1 (up e) z⟩
  · obtain ⟨v, o, ho, _⟩ := I.cell y c (up e)
    exact un.free c o ho (I.freeC y c (up e)) fun m => hex c m y c (up e) rfl
end
theorem bind_def {nm q : Str} {b : Str} {q1 q2 : Pos} {j : Nat} {bd : Expr} {sc : Scope} {cl : List (Str × Addr)} {Td : Addr} {dd pm ct : Value} {c' : Addr} {u0 : Value} :
    ∃ k : Option (Array Value) → Sem (List (Str × Value)), bindArgs (PySem.W.kdv_fn nm q { posonlyargs := [], args := [{ arg := b, annotation := none, pos := q1 }], vararg := none, kwonlyargs := [], kw_defaults := [], kwarg := none, defaults := [Expr.Constant (Const.int 0) j q2] } (.expr bd) sc cl (.ref Td) dd pm (.ref c') ct) ⟨[], []⟩ = (seqItems? (.ref Td) >>= k)
      ∧ k (some #[u0]) = pure [(b, u0)] := by
  refine ⟨_, rfl, ?_⟩
  have e : ([b].filterMap fun n => (List.lookup n [(b, u0)]).map fun v => (n, v)) = [(b, u0)] := by simp
  exact (show _ = (pure ([b].filterMap fun n => (List.lookup n [(b, u0)]).map fun v => (n, v)) : Sem (List (Str × Value))) from rfl).trans (congrArg pure e)
/-- ask(), in the def that got the lambda -/
theorem pe_ask {L : Lk} {X Z : Cx} {pins0 : List (Addr × Obj)} {σ0 : L2.St} {H0 H : Hp} {s0 : Shared} {k kk i : Nat} {f c' : Addr} {dV : Value} {a : Str} {W : WX} {tb : XK → TE} {p1 p2 : Pos} {P : Prog} {T : Tb}
    (la : LamAt T L P X) (I0 : Inv X pins0 σ0 H0 s0) (ho : H f = some (LamO L k f c' dV)) (hc : H c' = some (LamX.CodeO c' L.lq)) (hdv : DfV H dV) {fs ex : List Addr} (hex : ∀ b ∈ ex, ∀ x c, X.env.cells.lookup x = some c → c ≠ b) (un : ∀ pinsZ sZ σZ, Inv Z pinsZ σZ H sZ → Un fs ex H0 H s0.heap sZ.heap)
    (zp : Z.prog = X.prog) (zw : Z.w = X.w) (zK : Z.K = X.K) (zm : Z.mg = X.mg) (zb : Z.base = X.base) (zc : Z.calm = true) (tk : Takes Z W) (hr : Room (kk + 1) Z.A)
    (hbody : ∀ (ps : Arguments) (bd : Expr) (sc : Scope) (A : Around) (outer : List PySem.Env) (s : Shared) (E : XK), L.lt k ps bd sc → Room kk (A.deeper (LamX.lamEnv X sc s.heap.objs.size f c')) → PE (LamX.lamCx X A outer s H E sc f c') bd (tb E))
    (hN : Z.N[i]? = some a) (hv : Vis Z.env.scope a) (hd : (a == ("__debug__" : Str)) = false) (hcd : (a == ("__classdict__" : Str)) = false) :
    PE Z (.Call (.Name a p1) [] [] p2) (fun σZ HZ Q => σZ[i]? = some (some (.ref f)) ∧ HZ = H ∧ ∃ E : XK, (∀ cls d σ' H', E cls d H' → W cls d σ' H') ∧ tb E σ0 H Q) := by
  constructor
  intro pinsZ sZ σZ HZ Q IZ ⟨hs, eH, E, hW, hb⟩
  subst eH
  refine wpAny_Call_Name_kw (thn ((pe_var (pos := p1) (i := i) hN hv hd hcd).run pinsZ sZ σZ HZ (fun v H1 => v = .ref f ∧ H1 = HZ) IZ ⟨.ref f, hs, rfl, rfl⟩) fun u s1 ⟨v, H1, I1, r1, e1, e2⟩ => ?_)
  subst e1 e2
  obtain rfl : u = Value.ref f := r1
  obtain ⟨ps, bd, sc, doc, pm, ctv, hlt, hdd, hob⟩ := (show ObjOk Z.prog Z.w H1 s1.heap f (.ext _) from I1.hok f _ ho).1
  obtain ⟨pa, hpa, hls, _⟩ := la.tl k ps bd sc hlt
  have S := lamSx_by hls
  obtain ⟨oc, vs, t, hoc, hdc, hvc⟩ := (show ObjOk Z.prog Z.w H1 s1.heap c' (.ext _) from I1.hok c' _ hc).1
  rw [← la.q, ← la.cells] at hob
  have U : Un fs ex H0 H1 s0.heap s1.heap := un _ _ _ I1
  refine PySem.W.callWith_F0 ⟨_, _, _, _, hob⟩ ?_
  have rc : codeAny (model Z.prog Z.w) Z.A (.call (.ref f) ⟨[], []⟩) (CR (L2.CX Z.prog Z.w) Z.stack Z.prog Z.w H1 s1 Q E) s1 := by
    refine PySem.W.kla_callFunE hr.depth hob rfl S.co S.gen rfl ⟨c', oc, vs, t, rfl, hoc, by rw [la.q] at *; exact hdc, by rw [la.q]; exact hvc⟩ ?_
    have fin : ∀ bs : List (Str × Value), (∀ y ∈ bs, sc.names.lookup y.1 = some .local) → wpAny (model Z.prog Z.w) Z.A.in1 (newFunctionEnv sc mainGlobals (cloFrom X.env.cells sc.names []) bs ((X.env.qual ++ "<lambda>") ++ ".<locals>.") (some f) (.ref c') none builtinsNs)
        (fun env s2 => s2.heap.NoLimit ∧ codeAny (model Z.prog Z.w) Z.A (.expr bd env) (CR (L2.CX Z.prog Z.w) Z.stack Z.prog Z.w H1 s1 Q E) s2) (fun e s' => CR (L2.CX Z.prog Z.w) Z.stack Z.prog Z.w H1 s1 Q E (.error e) s') s1 := fun bs hbs => by
      refine wpAny_newFunctionEnv (fun y hy => (S.own y hy).2) hbs (fun h1 hns hsb => ⟨I1.nolimit.fresh _ hsb, ?_⟩) S.kind
      show codeAny _ _ (.expr bd (LamX.lamEnv X sc s1.heap.objs.size f c')) _ _
      have kp : ∀ b o, s1.heap.get? b = some o → h1.get? b = some o := fun b o e => hsb.extBut b o (Nat.ne_of_lt (Heap.lt_size e)) (Heap.get?_push_of_some _ e)
      have e0 := I1.env0
      rw [zp, zw, zK, zm, zb] at e0
      have J := lam_in (E := E) (f := f) (c' := c') (tk := s1.toks + bs.length) I0 S e0 (I1.ok.hd zc) hex U hns kp
      rw [zp, zw]
      refine PySem.W.kla_codeExpr (wpAny_mono ((hbody ps bd sc Z.A Z.stack s1 E hlt (hr.deeper _)).run [] _ _ H1 Q J hb) (fun v s' hq => ?_) fun e s' hq => hq)
      obtain ⟨w', H', J', rv, q⟩ := hq
      exact ⟨w', H', J'.os, J'.bare, J'.base, J'.hok, rv, q⟩
    rcases lamPs_cases hpa with ⟨e1, e2⟩ | ⟨b, q1, q2, j, e1, e2⟩
    · subst e1 e2
      have ed : dV = .none := hdd.mpr rfl
      subst ed
      exact wpAny_pure (fin [] (by simp))
    · subst e1 e2
      rcases hdv with z | ⟨Td, rfl, hT⟩
      · exact absurd (hdd.mp z) (by simp)
      · obtain ⟨_, its, rit, oT, gT, cT, n, dT⟩ := (show ObjOk Z.prog Z.w H1 s1.heap Td (.tup [.int 0]) from I1.hok Td _ hT)
        cases rit with
        | @cons _ u0 _ ur ra rw' =>
          cases rw'
          obtain ⟨kk, ek, ep⟩ := bind_def (nm := "<lambda>") (q := X.env.qual ++ "<lambda>") (b := b) (q1 := q1) (q2 := q2) (j := j) (bd := bd) (sc := sc) (cl := cloFrom X.env.cells sc.names []) (Td := Td) (dd := doc) (pm := pm) (c' := c') (ct := ctv) (u0 := u0)
          refine (congrArg (fun z => wpAny (model Z.prog Z.w) Z.A.in1 z _ _ s1) ek).mpr (wpAny_bind (wpAny_seqItems gT dT ?_))
          refine (congrArg (fun z => wpAny (model Z.prog Z.w) Z.A.in1 z _ _ s1) ep).mpr (wpAny_pure (fin [(b, u0)] fun y hy => ?_))
          rw [List.mem_singleton.mp hy]
          exact (S.par b rfl).1
  refine wpAny_call (codeAny_mono rc fun r s' hq => ?_)
  cases r with
  | error e => exact passes_call tk hW pinsZ σZ H1 s1 e s' I1 hq
  | ok fl =>
    cases fl with
    | ret u => exact I1.after hq
    | next => exact False.elim hq
    | brk => exact False.elim hq
    | cont => exact False.elim hq
end MV

set_option maxRecDepth 100000
set_option maxHeartbeats 1000000
/-! VHq: the law's own try. -/
namespace MV
open PySem PySem.Spec PyProof.Rows L2
def tryB : List Stmt → Bool
  | [.Try [.Return (some (.Tuple [.Constant (.str v) _ _, .Call (.Name a _) [] [] _] _ _)) _] (.ExceptHandler (some (.Name C _)) (some e) [.Return (some (.Tuple [.Attribute (.Name e1 _) t _, .Call (.Name g _) [.Name e2 _] [] _] _ _)) _] _ :: _) [] [] _] =>
    decide (v = "value") && (decide (a = "_law_ask") && (decide (C = "PoseError") && (decide (e = "_law_e") && (decide (e1 = "_law_e") && (decide (t = "tag") && (decide (g = "_law_field") && decide (e2 = "_law_e")))))))
  | _ => false
/-- the text's own try and look, as they stand in the module -/
structure TryF (L : Lk) (P : Prog) (K : PySem.W.Frag) (mg : Str → Option Value) (gt gf C0 : Addr) (fdt fdf : FuncData) (pst psf : Arguments) (bdt bdf : List Stmt) (sct scf : Scope) : Prop where
  dt : FunD K "_law_try" "_law_try" pst bdt sct [] [] gt fdt
  df : FunD K "_law_field" "_law_field" psf bdf scf [] [] gf fdf
  bt : L2.Binds K fdt ["_law_ask"] []
  bf : L2.Binds K fdf ["_law_e"] []
  st : FnScope ["_law_ask", "_law_e"] ["_law_ask"] sct
  sf : FnScope ["_law_e"] ["_law_e"] scf
  la : sct.names.lookup ("_law_ask" : Str) = some .local
  le : sct.names.lookup ("_law_e" : Str) = some .local
  lg : sct.names.lookup ("_law_field" : Str) = some .globalImplicit
  lp : sct.names.lookup ("PoseError" : Str) = some .globalImplicit
  lv : scf.names.lookup ("_law_e" : Str) = some .local
  mt : mg "_law_try" = some (.ref gt)
  mf : mg "_law_field" = some (.ref gf)
  mp : mg "PoseError" = some (.ref C0)
  tx : tryB bdt = true
  fx : ckRows "_law_e" fldRows fldLast bdf = true
  xc : ∀ c, PySem.W.exmOne K (.ref (L.xc c)) (.ref C0) = some true ∧ XfC K (L.xc c) ∧ ∀ f ∈ xNames, PySem.W.findIn K (.ref (L.xc c)) f = some none
  xt : L.nm P.xt = "tag"
  xf : ∀ f n, P.xf.lookup f = some n → L.nm n = f
/-! ### a def called while an error is handled -/
theorem run_hot {pg : Program} {w : World} {K : PySem.W.Frag} {mg : Str → Option Value} {base : Heap} {a : Addr} {x qual : Str} {params : Arguments} {bd : List Stmt} {sc : Scope} {fd : FuncData} {N ps : List Str} {A : Around} {outer : List PySem.Env} {s : Shared} {H : Hp} {us : List Value} {vs : List V} {Q : VK} {p : Addr × Obj}
    (D : FunD K x qual params bd sc [] [] a fd) (S : FnScope N ps sc) (hd : A.depth < recursionLimit) (pk : L2H.PinOk outer H s p) (e0 : Env0 pg w K mg base A outer s H) (hb : BindsTo s fd ⟨us, []⟩ (ps.zip us)) (r : Vals vs us) (hl : vs.length = ps.length)
    (hq : ∀ cdv, ∃ t, PSs (L2H.cxH C8.CX0 pg w K mg base N qual sc a cdv A outer s H C8.E0 p) bd t ∧ t { nx := fun _ H' => Q .non H', rt := Q } (L2.start N vs) H) :
    codeAny (model pg w) A (.call (.ref a) ⟨us, []⟩) (CR C8.CX0 outer pg w H s Q C8.E0) s := by
  obtain ⟨oc, od, dV, kV, doc, pm, an, cdv, ct, osl, rfl, lk, hcd, _, _⟩ := D.ex
  have kin : K.In s.heap := e0.mod.kin.keeps fun b o z => (e0.bs b o z).1
  have nol : s.heap.NoLimit := e0.mod.nolimit.keeps fun b o z => (e0.bs b o z).1
  refine codeAny_call_function hd (kin _ _ lk) rfl S.co S.gen rfl (PySem.W.codeRec_of kin hcd) (hb _ _ _ _ ?_)
  refine wpAny_newFunctionEnv_cells S.kind ?_ fun env he s1 ic => ?_
  · rintro ⟨n, v⟩ hy
    exact (S.par n (List.of_mem_zip hy).1).elim .inl fun z => .inr ⟨z, PySem.W.cellsFrom_some _ _ _ (.inl z)⟩
  · subst he
    obtain ⟨t, ht, h0⟩ := hq cdv
    refine ⟨nol.keeps ic.toInCall.keep, codeAny_func (wpAny_mono (ht.run [] s1 _ H _ (L2H.inv_startH S pk e0 hl r ic) h0) (fun fl s2 z => ?_) fun _ _ z => z)⟩
    cases fl with
    | next =>
      obtain ⟨_, H2, J, q⟩ := z
      exact ⟨.non, H2, J.os, J.bare, J.base, J.hok, rfl, q⟩
    | ret u =>
      obtain ⟨v, _, H2, J, rv, q⟩ := z
      exact ⟨v, H2, J.os, J.bare, J.base, J.hok, rv, q⟩
    | brk =>
      obtain ⟨_, _, _, q⟩ := z
      exact q.elim
    | cont =>
      obtain ⟨_, _, _, q⟩ := z
      exact q.elim
/-- what the field's look gives -/
def FldOf (fs : List (Str × V)) (t : Str) (G : V → Prop) : Prop := match fldGo t fldRows fldLast with
  | some f => ∃ w, fs.lookup f = some w ∧ G w
  | none => G .non
theorem FldOf.imp {fs : List (Str × V)} {t : Str} {G G' : V → Prop} (h : ∀ w, G w → G' w) (x : FldOf fs t G) : FldOf fs t G' := by
  unfold FldOf at *
  split at x
  · obtain ⟨w, e, g⟩ := x
    exact ⟨w, e, h w g⟩
  · exact h _ x
section
variable {L : Lk} {P : Prog} {K : PySem.W.Frag} {mg : Str → Option Value} {gt gf C0 : Addr} {fdt fdf : FuncData} {pst psf : Arguments} {bdt bdf : List Stmt} {sct scf : Scope}
theorem pe_fld {X : Cx} {a dd C : Addr} {oe : Obj} {i : Nat} {q1 q2 pos : Pos} (t : TryF L P X.K X.mg gt gf C0 fdt fdf pst psf bdt bdf sct scf) (hK : X.K = L.K) (hd : X.A.depth < recursionLimit) (hu : X.A.units + 100 < cLine) (hg : Gl X "_law_field") (hN : X.N[i]? = some ("_law_e" : Str)) (hv : Vis X.env.scope "_law_e")
    (T : XfC X.K C) (hno : ∀ f ∈ xNames, PySem.W.findIn X.K (.ref C) f = some none) (hm : (a, oe) ∈ X.pn) (hz : Zc (.ref C) (some dd) oe) (hf : ∃ vs, oe.data = .fields vs) :
    PE X (.Call (.Name "_law_field" q1) [.Name "_law_e" q2] [] pos) (fun σ H Q => σ[i]? = some (some (.ref a)) ∧ ∃ F φ h fs tg, HR L F φ h H ∧ H dd = some (.xd fs) ∧ fs.lookup ("tag" : Str) = some (.str tg) ∧ PySem.PyData.strOk tg = true ∧ FldOf fs tg fun w => ∀ H1, XT φ H φ H1 → HR L F φ h H1 → Q w H1) := by
  refine ⟨fun pins s σ H Q I ⟨h1, F, φ, h, fs, tg, hr, e1, e2, e3, g⟩ => ?_⟩
  refine wpAny_Call_Name_kw (ld_glob I hg t.mf ?_ (by decide))
  refine PySem.W.callWith_K (h₀ := X.base) I.ok.mod.kin t.df.kp (thn ((pa_cons (pe_var hN hv) pa_nil).run pos pins s σ H (fun vs H1 => vs = [.ref a] ∧ H1 = H) I ⟨_, h1, rfl, rfl⟩) fun us s1 ⟨vs, H1, I1, r, ev, eH⟩ => ⟨I1.kIn, ?_⟩) (by rfl) (by rfl)
  subst ev eH
  have p1 := I1.pin (a, oe) (List.mem_append_left _ hm)
  have pk : L2H.PinOk X.stack H1 s1 (a, oe) := ⟨p1.1, p1.2.1, fun z => (List.mem_cons.mp (I1.stkSub a z)).elim p1.2.2.1 p1.2.2.2.1, p1.2.2.2.2⟩
  have b := t.bf s1 us I1.kIn (by rw [List.append_nil, ← r.length]; rfl)
  rw [List.append_nil] at b
  refine wpAny_call (codeAny_mono (run_hot (Q := Q) (vs := [.ref a]) t.df t.sf hd pk I1.env0 b r rfl fun cdv => ⟨_, rows_ok (L := L) (a := a) (dd := dd) (C := C) (oe := oe) ?_ fld_all.2 fld_all.1 t.fx, F, φ, h, fs, tg, ⟨rfl, hr, e1, e2, e3⟩, ?_⟩) fun r s2 hq => ?_)
  · exact { hK := hK, hu := (by show X.A.units + 3 + 65 < _; omega), T := T, no := hno, pn := List.mem_singleton.mpr rfl, z := hz, f := hf, N := rfl, vis := .inl t.lv, d1 := by decide, d2 := by decide }
  · unfold FldOf at g
    cases ef : fldGo tg fldRows fldLast with
    | some f =>
      rw [ef] at g
      exact g
    | none =>
      rw [ef] at g
      exact g
  · cases r with
    | error e => exact (show False from hq).elim
    | ok fl =>
      cases fl with
      | ret u => exact I1.after hq
      | next => exact False.elim hq
      | brk => exact False.elim hq
      | cont => exact False.elim hq
end
/-! ### the lambda's frame, in slots -/
theorem setAll_at {i : Nat} {d : D} : ∀ {caps : List Nat} {ds : List D} {ρ : Env}, (setAll caps ds ρ)[i]? = some (some d) → ρ[i]? = some (some d) ∨ ∃ j : Nat, caps[j]? = some i ∧ ds[j]? = some d
  | [], _, _, h => .inl h
  | _ :: _, [], _, h => .inl h
  | c :: cs, x :: xs, ρ, h => by
    rcases setAll_at (caps := cs) (ds := xs) (ρ := ρ.set c (some x)) h with z | ⟨j, e1, e2⟩
    · by_cases hc : c = i
      · subst hc
        rw [List.getElem?_set] at z
        simp only [if_true] at z
        split at z
        · cases z
          exact .inr ⟨0, rfl, rfl⟩
        · cases z
      · rw [List.getElem?_set_ne hc] at z
        exact .inl z
    · exact .inr ⟨j + 1, e1, e2⟩
theorem setAll_len : ∀ {caps : List Nat} {ds : List D} {ρ : Env}, (setAll caps ds ρ).length = ρ.length
  | [], _, _ => rfl
  | _ :: _, [], _ => rfl
  | c :: cs, x :: xs, ρ => by
    show (setAll cs xs (ρ.set c (some x))).length = _
    rw [setAll_len, List.length_set]
theorem lamE_er {L : Lk} {F : Fm} {φ : List Addr} {H : Hp} {σ : L2.St} {n : Nat} {caps : List Nat} {ds : List D} (hn : n = σ.length) (h : ∀ (j i : Nat) (d : D), caps[j]? = some i → ds[j]? = some d → ∃ v, σ[i]? = some (some v) ∧ Rel L F φ H d v) : ER L F φ H (lamE n caps ds) σ := by
  refine ⟨?_, fun i d q => ?_⟩
  · unfold lamE
    rw [setAll_len, List.length_replicate, hn]
  · unfold lamE at q
    rcases setAll_at q with z | ⟨j, e1, e2⟩
    · rw [List.getElem?_replicate] at z
      split at z <;> cases z
    · exact h j i d e1 e2
/-! ### the try itself -/
/-- an error whose tag and field are told -/
def Ready (L : Lk) (K : PySem.W.Frag) (C0 : Addr) (Q : VK) (cls : Value) (d : Option Addr) (H : Hp) : Prop :=
  ∃ (C dd : Addr) (fs : List (Str × V)) (F : Fm) (φ : List Addr) (h : HH) (t : Str), cls = .ref C ∧ d = some dd ∧ PySem.W.exmOne K (.ref C) (.ref C0) = some true ∧ XfC K C ∧ (∀ f ∈ xNames, PySem.W.findIn K (.ref C) f = some none) ∧ HR L F φ h H ∧ H dd = some (.xd fs) ∧ fs.lookup ("tag" : Str) = some (.str t) ∧ PySem.PyData.strOk t = true
    ∧ FldOf fs t fun w => ∀ H1 q, XT φ H φ H1 → HR L F φ h H1 → H1 q = none → Q (.ref q) (upd H1 q (.tup [.str t, w]))
theorem two_le {a b : V} : [a, b].length ≤ sizeLine := by
  rw [sizeLine_eq]
  show 2 ≤ _
  decide
theorem tryv_ready {L : Lk} {P : Prog} {K : PySem.W.Frag} {mg : Str → Option Value} {gt gf C0 : Addr} {fdt fdf : FuncData} {pst psf : Arguments} {bdt bdf : List Stmt} {sct scf : Scope} (t : TryF L P K mg gt gf C0 fdt fdf pst psf bdt bdf sct scf) (inj : ∀ i j, L.nm i = L.nm j → i = j)
    {F : Fm} {φ : List Addr} {H : Hp} {c : Nat} {ks : List Nat} {vs : List D} {h : HH} {Q : VK} {E : XK} (g : GE L F φ H (tryV P (.exc c ks vs h)) Q E) : GX L F φ H c ks vs h (Ready L K C0 Q) := by
  intro φ' H' cls dd x hr ⟨d, fs, e1, e2, e3, e4, rs⟩
  obtain ⟨x1, x2, x3⟩ := t.xc c
  unfold tryV at g
  dsimp only at g
  split at g
  · rename_i tg et
    split at g
    · rename_i ok
      obtain ⟨v, l1, r1⟩ := lookF_ok inj e4 rs et
      rw [t.xt] at l1
      cases r1
      have go : ∀ (d : D) (w : V), Rel L F φ' H' d w → GE L F φ H (.ok (.tup [.str tg, d]) h) Q E → ∀ H1 q, XT φ' H' φ' H1 → HR L F φ' h H1 → H1 q = none → Q (.ref q) (upd H1 q (.tup [.str tg, w])) := fun d w rw' g H1 q y hr1 nq => by
        refine g φ' _ _ (x.trans (y.trans (XT.fresh nq))) (hr1.fresh nq) (.tup (.inl (.inl upd_same)) (.cons (.str tg) (.cons ((rw'.mono y).mono (XT.fresh nq)) .nil)))
      refine ⟨L.xc c, d, fs, F, φ', h, tg, e1, e2, x1, x2, x3, hr, e3, l1, ok, ?_⟩
      unfold FldOf
      cases ef : fldGo tg fldRows fldLast with
      | some f =>
        rw [ef] at g
        dsimp only at g
        cases en : P.xf.lookup f with
        | none =>
          rw [en] at g
          exact (G.no_ g).elim
        | some n =>
          rw [en] at g
          dsimp only at g
          cases ev : lookF ks vs n with
          | none =>
            rw [ev] at g
            exact (G.no_ g).elim
          | some dv =>
            rw [ev] at g
            obtain ⟨w, l2, r2⟩ := lookF_ok inj e4 rs ev
            rw [t.xf f n en] at l2
            exact ⟨w, l2, go dv w r2 g⟩
      | none =>
        rw [ef] at g
        exact go .non .non .non g
    · exact (G.no_ g).elim
  · exact (G.no_ g).elim
theorem try_at {T0 : Tb} {L : Lk} {P : Prog} {pg : Program} {w : World} {K : PySem.W.Frag} {mg : Str → Option Value} {base : Heap} {gt gf C0 : Addr} {fdt fdf : FuncData} {pst psf : Arguments} {bdt bdf : List Stmt} {sct scf : Scope} {X0 Y : Cx} {W : WX} {m kk : Nat}
    (t : TryF L P K mg gt gf C0 fdt fdf pst psf bdt bdf sct scf) (hK : K = L.K) (inj : ∀ i j, L.nm i = L.nm j → i = j) (la : LamAt T0 L P X0) (sm : Same pg w K mg base (kk + 2) Y) (q1 : X0.prog = pg) (q2 : X0.w = w) (q3 : X0.K = K) (q4 : X0.mg = mg) (q5 : X0.base = base)
    (hb : ∀ (k : Nat) (fl : Fn) (E : XK) (ps : Arguments) (bd : Expr) (sc : Scope) (A : Around) (outer : List PySem.Env) (s : Shared) (H : Hp) (f c' : Addr), P.fns[k]? = some fl → L.lt k ps bd sc → Room kk (A.deeper (LamX.lamEnv X0 sc s.heap.objs.size f c')) →
      PE (LamX.lamCx X0 A outer s H E sc f c') bd (rdE L (fun cls d _ H => E cls d H) (ev P (callN P m) (retOf fl.body)))) : TryAt false L P (callN P (m + 1)) X0 Y W gt := by
  intro pins0 σ0 H0 s0 pins σ H s F φ h k f caps ds Q I0 I ⟨fs, ex, hex, un⟩ hr rl hcap hlen hcs g
  have g : GE L F φ H (tryV P (callN P (m + 1) k ds h)) Q (fun c d H' => W c d σ H') := g
  have esp := sm.p
  have esw := sm.w
  have esK := sm.K
  have esm := sm.m
  have esb := sm.b
  subst esp esw esK esm esb
  unfold capsJ at hcap
  split at hcap
  · rename_i fl ef
    split at hcap
    · rename_i caps' ek
      cases hcap
      have eo : callN P (m + 1) k ds h = (ev P (callN P m) (retOf fl.body) (lamE fl.nl caps ds) h).bind fun d h1 => .ok (.val d) h1 := by
        show (match P.fns[k]? with
          | none => _
          | some f => _) = _
        rw [ef]
        dsimp only
        rw [ek]
      cases rl with
      | @lam _ _ c' dV ho nf hc nc hdv =>
        obtain ⟨ps0, bd0, sc0, _, _, _, hlt, _, _⟩ := (show ObjOk Y.prog Y.w H s.heap f (.ext _) from I.hok f _ ho).1
        obtain ⟨pa, hpa, hls, hlk⟩ := la.tl k ps0 bd0 sc0 hlt
        obtain ⟨fl', caps', z1, z2, _, z3, _⟩ := la.lk k sc0 bd0 hlk
        rw [ef] at z1
        cases z1
        have er : ER L F φ H (lamE fl.nl caps ds) σ0 := lamE_er (by rw [z3, I0.len]) hcs
        rw [eo] at g
        obtain ⟨oc, od, dV1, kV, doc, pm, an, cdv, ct, osl, efd, lk, hcd, _, _⟩ := t.dt.ex
        have hbt := t.bt s [.ref f] I.kIn rfl
        subst efd
        have tx := t.tx
        unfold tryB at tx
        split at tx
        · rename_i v j0 p0 a p1 p2 j1 p3 p4 C p5 e e1 p6 tn p7 gn p8 e2 p9 p10 j2 p11 p12 p13 more p14
          obtain ⟨t1, tx⟩ := and_ tx
          obtain ⟨t2, tx⟩ := and_ tx
          obtain ⟨t3, tx⟩ := and_ tx
          obtain ⟨t4, tx⟩ := and_ tx
          obtain ⟨t5, tx⟩ := and_ tx
          obtain ⟨t6, tx⟩ := and_ tx
          obtain ⟨t7, t8⟩ := and_ tx
          have t1 := of_decide_eq_true t1
          have t2 := of_decide_eq_true t2
          have t3 := of_decide_eq_true t3
          have t4 := of_decide_eq_true t4
          have t5 := of_decide_eq_true t5
          have t6 := of_decide_eq_true t6
          have t7 := of_decide_eq_true t7
          have t8 := of_decide_eq_true t8
          subst t1 t2 t3 t4 t5 t6 t7 t8
          refine wpAny_call (codeAny_mono (LamX.run_ofS (CX := C8.CX0) (E := C8.E0) (Q := Q) (N := ["_law_ask", "_law_e"]) (ps := ["_law_ask"]) (us := [.ref f]) (vs := [.ref f]) lk hcd t.st sm.r I.env0 hbt (.cons rfl .nil) rfl fun hr' => ?_) fun r s2 hq => ?_)
          · refine ⟨_, (pss_one (ps_try_fst (X := (cxOf C8.CX0 Y.prog Y.w Y.K Y.mg Y.base ["_law_ask", "_law_e"] "_law_try" sct gt cdv Y.A Y.stack s H C8.E0).nox) (x := "PoseError") (n := "_law_e") (c := .ref C0) (i := 1) (np := p5) (pos := p14) (pos' := p13) (hds := more)
              (tb := fun W Dn σ HZ => σ[0]? = some (some (.ref f)) ∧ HZ = H ∧ ∃ E : XK, (∀ cls d σ' H', E cls d H' → W cls d σ' H') ∧ rdE L (fun cls d _ H => E cls d H) (ev P (callN P m) (retOf fl.body)) σ0 H fun v H1 => ∀ q, H1 q = none → Dn.rt (.ref q) (upd H1 q (.tup [.str "value", v])))
              (ts := fun a cls d Dn σ H1 => (1 < σ.length → σ[1]? = some (some (.ref a))) ∧ Ready L Y.K C0 Dn.rt cls d H1)
              rfl rfl t.st.nd rfl t.le ⟨t.lp, by decide, .inl t.mp⟩ (fun W1 pn xe tk _ => ?_) (fun a oe cls d pn hz hf => ?_))).nox, ?_⟩
            rotate_left 2
            · refine ⟨rfl, rfl, Ready L Y.K C0 Q, fun cls d σ' H' r => ?_, F, φ, _, h, hr, er, ?_⟩
              · obtain ⟨C, dd, fs, F1, φ1, h1, tg, r1, r2, r3, r4⟩ := r
                exact ⟨by rw [r1]; exact r3, fun a _ => ⟨fun hl => by rw [List.getElem?_set_self (by simpa using hl)], ⟨C, dd, fs, F1, φ1, h1, tg, r1, r2, r3, r4⟩⟩⟩
              · cases ee : ev P (callN P m) (retOf fl.body) (lamE fl.nl caps ds) h with
                | no =>
                  rw [ee] at g
                  exact (G.no_ g).elim
                | ok d h1 =>
                  rw [ee] at g
                  intro φ1 H1 b x hr1 rb q nq
                  exact g φ1 _ _ (x.trans (XT.fresh nq)) (hr1.fresh nq) (.tup (.inl (.inl upd_same)) (.cons (.str "value") (.cons (rb.mono (XT.fresh nq)) .nil)))
                | exc c ks vs h1 =>
                  rw [ee] at g
                  exact tryv_ready t inj g
            · have hu : ∀ (pinsZ : List (Addr × Obj)) (sZ : Shared) (σZ : L2.St), Inv ((cxOf C8.CX0 Y.prog Y.w Y.K Y.mg Y.base ["_law_ask", "_law_e"] "_law_try" sct gt cdv Y.A Y.stack s H C8.E0).nox.tr pn xe) pinsZ σZ H sZ → Un (fs ++ frs Y.stack) ex H0 H s0.heap sZ.heap := fun pinsZ sZ σZ J => by
                have b : Un (frs Y.stack) [] H H s.heap sZ.heap := J.base
                exact (un.mono (fun _ z => List.mem_append_left _ z) fun _ z => z).trans (b.mono (fun _ z => List.mem_append_right _ z) fun _ z => (nomatch z))
              have ask := pe_ask (Z := (cxOf C8.CX0 Y.prog Y.w Y.K Y.mg Y.base ["_law_ask", "_law_e"] "_law_try" sct gt cdv Y.A Y.stack s H C8.E0).nox.tr pn xe) (kk := kk) (i := 0) (a := "_law_ask") (p1 := p1) (p2 := p2) (W := W1) (tb := fun E => rdE L (fun cls d _ H => E cls d H) (ev P (callN P m) (retOf fl.body)))
                la I0 ho hc hdv hex hu q1.symm q2.symm q3.symm q4.symm q5.symm rfl tk hr' (fun ps bd sc A outer s E' hl' hroom => hb k fl E' ps bd sc A outer s _ f c' ef hl' hroom) rfl (.inl t.la) (by decide) (by decide)
              refine (pss_one (ps_ret (pe_tup (pa_cons pe_str (pa_cons ask pa_nil))))).imp fun Dn σ1 H1 ⟨s1, eH, E', hE, rd⟩ => ?_
              subst eH
              exact ⟨s1, rfl, E', hE, by
                obtain ⟨F3, φ3, ρ3, h3, b1, b2, b3⟩ := rd
                exact ⟨F3, φ3, ρ3, h3, b1, b2, G.imp b3 fun v H2 z => ⟨two_le, z⟩⟩⟩
            · refine ⟨fun pins' s' σ' H' Dn J ⟨h1, C, dd, fs, F1, φ1, hh, tg, r1, r2, r3, xfc, no, hr1, e2, e3, e4, fo⟩ => ?_⟩
              subst r1 r2
              have s1 := h1 (by rw [J.len]; exact Nat.lt_succ_self 1)
              have pa := pe_xfp (X := Cx.suite (cxOf C8.CX0 Y.prog Y.w Y.K Y.mg Y.base ["_law_ask", "_law_e"] "_law_try" sct gt cdv Y.A Y.stack s H C8.E0).nox a ((a, oe) :: pn)) (pos := p7) xfc (no "tag" (by decide)) List.mem_cons_self hz hf (pe_var (i := 1) (pos := p6) rfl (.inl t.le) (by decide) (by decide)) rfl
              have pb := pe_fld (X := Cx.suite (cxOf C8.CX0 Y.prog Y.w Y.K Y.mg Y.base ["_law_ask", "_law_e"] "_law_try" sct gt cdv Y.A Y.stack s H C8.E0).nox a ((a, oe) :: pn)) (i := 1) (q1 := p8) (q2 := p9) (pos := p10) t hK hr'.depth (by have := hr'.un; show (Y.A.deeper (envOfC "_law_try" sct s.heap.objs.size gt cdv)).units + 100 < _; omega) t.lg rfl (.inl t.le) xfc no List.mem_cons_self hz hf
              exact (pss_one (ps_ret (pos := p12) (pe_tup (x1 := j2) (pos := p11) (pa_cons pa (pa_cons pb pa_nil))))).run pins' s' σ' H' Dn J ⟨.ref a, s1, rfl, fs, .str tg, e2, e3, s1, F1, φ1, hh, fs, tg, hr1, e2, e3, e4, fo.imp fun w z H1 x hr2 => ⟨two_le, fun q nq => z H1 q x hr2 nq⟩⟩
          · cases r with
            | error e => exact (show False from hq).elim
            | ok fl =>
              cases fl with
              | ret u => exact I.after hq
              | next => exact False.elim hq
              | brk => exact False.elim hq
              | cont => exact False.elim hq
        · cases tx
    · cases hcap
  · cases hcap
end MV

set_option maxRecDepth 100000
set_option maxHeartbeats 1000000
/-! VHw: the word of the law's own try. -/
namespace MV
open PySem PySem.Spec PyProof.Rows L2
def wordB : List Stmt → Bool
  | [.Return (some (.Subscript (.Call (.Name t _) [.Name a _] [] _) (.Constant (.int i) _ _) _)) _] => decide (t = "_law_try") && (decide (a = "_law_ask") && decide (i = 0))
  | _ => false
structure WordF (K : PySem.W.Frag) (mg : Str → Option Value) (gw : Addr) (fdw : FuncData) (psw : Arguments) (bdw : List Stmt) (scw : Scope) : Prop where
  dw : FunD K "_law_word" "_law_word" psw bdw scw [] [] gw fdw
  bw : L2.Binds K fdw ["_law_ask"] []
  sw : FnScope ["_law_ask"] ["_law_ask"] scw
  la : scw.names.lookup ("_law_ask" : Str) = some .local
  lt : scw.names.lookup ("_law_try" : Str) = some .globalImplicit
  mw : mg "_law_word" = some (.ref gw)
  wx : wordB bdw = true
theorem tryV_any {P : Prog} {L : Lk} {F : Fm} {φ : List Addr} {H : Hp} {r : R Ret} {Q : VK} {E E' : XK} (g : GE L F φ H (tryV P r) Q E) : GE L F φ H (tryV P r) Q E' := by
  cases e : tryV P r with
  | ok d h =>
    rw [e] at g
    exact g
  | no =>
    rw [e] at g
    exact (G.no_ g).elim
  | exc c ks vs h =>
    exfalso
    cases r with
    | no => cases e
    | ok r h =>
      cases r <;> cases e
    | exc c' ks' vs' h' =>
      unfold tryV at e
      dsimp only at e
      split at e
      · split at e
        · split at e
          · split at e
            · split at e <;> cases e
            · cases e
          · cases e
        · cases e
      · cases e
theorem word_at {L : Lk} {P : Prog} {orc : Orc} {pg : Program} {w : World} {K : PySem.W.Frag} {mg : Str → Option Value} {base : Heap} {gt gw : Addr} {fdw : FuncData} {psw : Arguments} {bdw : List Stmt} {scw : Scope} {X0 Y : Cx} {W : WX} {kk : Nat}
    (wf : WordF K mg gw fdw psw bdw scw) (tn : mg "_law_try" = some (.ref gt)) (kt : PySem.W.keepIn K (.ref gt) = true) (hK : K = L.K) (hwd : ∀ X : Cx, X.K = K → WdOk X L P.wd) (sm : Same pg w K mg base (kk + 3) Y)
    (tt : ∀ (Z : Cx) (Wz : WX), Same pg w K mg base (kk + 2) Z → TryAt false L P orc X0 Z Wz gt) : TryAt true L P orc X0 Y W gw := by
  intro pins0 σ0 H0 s0 pins σ H s F φ h k f caps ds Q I0 I ⟨fs, ex, hex, un⟩ hr rl hcap hlen hcs g
  have esp := sm.p
  have esw := sm.w
  have esK := sm.K
  have esm := sm.m
  have esb := sm.b
  subst esp esw esK esm esb
  obtain ⟨oc, od, dV1, kV, doc, pm, an, cdv, ct, osl, efd, lk, hcd, _, _⟩ := wf.dw.ex
  have hbt := wf.bw s [.ref f] I.kIn rfl
  subst efd
  have wx := wf.wx
  unfold wordB at wx
  split at wx
  · rename_i t p1 a p2 p3 i jj p4 p5 p6
    obtain ⟨t1, wx⟩ := and_ wx
    obtain ⟨t2, t3⟩ := and_ wx
    have t1 := of_decide_eq_true t1
    have t2 := of_decide_eq_true t2
    have t3 := of_decide_eq_true t3
    subst t1 t2 t3
    refine wpAny_call (codeAny_mono (LamX.run_ofS (CX := C8.CX0) (E := C8.E0) (Q := Q) (N := ["_law_ask"]) (ps := ["_law_ask"]) (us := [.ref f]) (vs := [.ref f]) lk hcd wf.sw sm.r I.env0 hbt (.cons rfl .nil) rfl fun hr' => ?_) fun r s2 hq => ?_)
    · have tryE : PE (cxOf C8.CX0 Y.prog Y.w Y.K Y.mg Y.base ["_law_ask"] "_law_word" scw gw cdv Y.A Y.stack s H C8.E0) (.Call (.Name "_law_try" p1) [.Name "_law_ask" p2] [] p3) (fun σZ HZ Q => σZ[0]? = some (some (.ref f)) ∧ HZ = H ∧ GE L F φ H (tryV P (orc k ds h)) Q (fun _ _ _ => False)) := by
        refine ⟨fun pinsZ sZ σZ HZ Q IZ ⟨h1, eH, g⟩ => ?_⟩
        subst eH
        refine wpAny_Call_Name_kw (ld_glob IZ wf.lt tn ?_ (by decide))
        refine PySem.W.callWith_K (h₀ := (cxOf C8.CX0 Y.prog Y.w Y.K Y.mg Y.base ["_law_ask"] "_law_word" scw gw cdv Y.A Y.stack s HZ C8.E0).base) IZ.ok.mod.kin kt (thn ((pa_cons (pe_var (i := 0) (x := "_law_ask") (pos := p2) rfl (.inl wf.la) (by decide) (by decide)) pa_nil).run p3 pinsZ sZ σZ HZ (fun vs H1 => vs = [.ref f] ∧ H1 = HZ) IZ ⟨_, h1, rfl, rfl⟩) fun us s1 ⟨vs, H1, I1, r, ev, eH⟩ => ⟨I1.kIn, ?_⟩) (by rfl) (by rfl)
        subst ev eH
        cases r with
        | @cons _ u _ us ru r2 =>
          cases r2
          obtain rfl : u = Value.ref f := ru
          have b : Un (frs Y.stack) [] H1 H1 s.heap s1.heap := I1.base
          exact tt (cxOf C8.CX0 Y.prog Y.w Y.K Y.mg Y.base ["_law_ask"] "_law_word" scw gw cdv Y.A Y.stack s H1 C8.E0) (fun _ _ _ _ => False) ⟨rfl, rfl, rfl, rfl, rfl, hr'⟩ pins0 σ0 H0 s0 pinsZ σZ H1 s1 F φ h k f caps ds Q I0 I1 ⟨fs ++ frs Y.stack, ex, hex, (un.mono (fun _ z => List.mem_append_left _ z) fun _ z => z).trans (b.mono (fun _ z => List.mem_append_right _ z) fun _ z => (nomatch z))⟩ hr rl hcap hlen hcs (tryV_any g)
      have hu : (cxOf C8.CX0 Y.prog Y.w Y.K Y.mg Y.base ["_law_ask"] "_law_word" scw gw cdv Y.A Y.stack s H C8.E0).A.units + 65 < cLine := by
        have := hr'.un
        show (Y.A.deeper (envOfC "_law_word" scw s.heap.objs.size gw cdv)).units + 65 < _
        omega
      refine ⟨_, pss_one (ps_ret (pos := p6) (pe_ix (pos := p5) (item_ok (X := cxOf C8.CX0 Y.prog Y.w Y.K Y.mg Y.base ["_law_ask"] "_law_word" scw gw cdv Y.A Y.stack s H C8.E0) hK hu (hwd _ rfl)) tryE (pe_int (i := 0) (j := jj) (pos := p4)) (by exact plIx _ rfl))), ?_⟩
      refine ⟨rfl, rfl, ?_⟩
      have g : GE L F φ H ((tryV P (orc k ds h)).bind fun d h => R.of (itemD P.wd d (.int 0) h) h) Q (fun c d H' => W c d σ H') := g
      refine tryV_any (G.bind g fun d h1 φ1 H1 v e1 t1 hr1 rx g1 => ?_)
      refine ⟨F, φ1, h1, d, .int 0, (fun _ _ _ => False), hr1, rx, .int 0, ?_⟩
      cases e : itemD P.wd d (.int 0) h1 with
      | none =>
        rw [e] at g1
        exact (G.no_ g1).elim
      | some z =>
        rw [e] at g1
        exact g1
    · cases r with
      | error e => exact (show False from hq).elim
      | ok fl =>
        cases fl with
        | ret u => exact I.after hq
        | next => exact False.elim hq
        | brk => exact False.elim hq
        | cont => exact False.elim hq
  · cases wx
end MV

set_option maxRecDepth 100000
set_option maxHeartbeats 2000000
/-! VHc: a comprehension whose element knows the block's start. -/
namespace MV
open PySem PySem.Spec PyProof.Rows L2
section
variable {X : Cx}
theorem lcx_core {pinsv : List (Addr × Obj)} {sv : Shared} {σ : L2.St} {Hv : Hp} {Qv : VK} {eltv tgv iterv : Expr} {ifsv : List Expr} {scopev : Scope} {ownv : List (Str × Nat)} {posv posv' : Pos} {wiv : TI} {gv : TG} {ttv : TT} {tev : TE} {usev : Option (Value → Sem Unit)} {Qfv : Value → Shared → Prop}
    (hcv : X.calm = true) (hNv : X.N.Nodup) (Iv : Inv X pinsv σ Hv sv) (hiv : PI X tgv iterv wiv) (okv : BlkOk X.N X.env.scope scopev ownv)
    (hgv : ∀ (sv : Shared) (Hv : Hp) (Cv : Addr) (clv : List (Str × Addr)) (fpv : List Addr), PG (X.blk sv Hv scopev (compEnvC scopev clv Cv X.env) fpv) tgv gv) (htv : ∀ (sv : Shared) (Hv : Hp) (Cv : Addr) (clv : List (Str × Addr)) (fpv : List Addr), PTs (X.blk sv Hv scopev (compEnvC scopev clv Cv X.env) fpv) ifsv ttv)
    (hev : ∀ (sv : Shared) (Hv : Hp) (Cv : Addr) (clv : List (Str × Addr)) (fpv : List Addr), Inv X pinsv σ Hv sv → (∀ b ∈ fpv, FpOk X pinsv Hv b ∧ b < sv.heap.objs.size) → PE (X.blk sv Hv scopev (compEnvC scopev clv Cv X.env) fpv) eltv tev) (hsv : ∀ xv, foldedSetIterable iterv X.env xv = pure xv)
    (hv : tLc wiv gv ttv tev (ownv.map (·.2)) σ Hv Qv)
    (hRRv : ∀ Dv Cv sv' mv Hv', Inv X pinsv σ Hv' sv' → Qv (.ref Dv) Hv' → sv'.heap.Ns Cv mv → FpOk X pinsv Hv' Cv → compPost (model X.prog X.w) X.A X.xe usev Qfv (.ref Dv) Cv (.ok .next) sv') :
    wpAny (model X.prog X.w) X.A (comprehension (.ListComp eltv [⟨tgv, iterv, ifsv, 0⟩] scopev posv) scopev X.env posv' (newList []) false (eval iterv X.env) usev) Qfv X.xe sv := by
  have hfreev : ∀ yv ∈ scopev.names, yv.2 = .free → ∃ c, X.env.cells.lookup yv.1 = some c := fun yv hyv ev => by
    rcases okv.free yv hyv ev with kv | kv
    · exact Iv.ok.has _ (.inl kv)
    · exact Iv.ok.has _ (.inr kv)
  refine wpAny_comprehension_free (use := usev) rfl hsv (closure_ok hfreev) okv.kind (fun yv hyv ev => by rw [okv.uniq yv hyv, ev])
    (thn (hiv.run pinsv sv σ Hv _ Iv hv) fun xvv s1v hxv => thn hxv fun itvv s2v h2v => ?_)
  obtain ⟨itv, fpv, tnv, Jv, H2v, ev, I2v, Tv, st2v, f2v, qv⟩ := h2v
  subst ev
  refine wpAny_newObj_type (newEnv_comp ?_) (by show 0 ≤ sizeLine; decide)
  generalize hDv : s2v.heap.objs.size = Dv
  have hDnv : H2v Dv = none := I2v.hok.fresh (Nat.le_of_eq hDv)
  obtain ⟨Wv, ⟨m0v, w0v⟩, turnv⟩ := qv Dv hDnv
  generalize hs3v : ({ s2v with heap := s2v.heap.push { cls := .type "list", data := .seq ([] : List Value).toArray } } : Shared) = s3v
  have I3v : Inv X pinsv σ (upd H2v Dv (.lst [])) s3v := by
    rw [← hs3v]
    refine I2v.laid (t' := s2v.toks) (fun bv o ev => Heap.get?_push_of_some _ ev) (Nat.le_of_eq hDv) ⟨Nat.zero_le _, [], 0, .nil, ?_⟩
    rw [← hDv]
    exact Heap.get?_push_size _ rfl
  have h3v : s3v.heap = s2v.heap.push { cls := .type "list", data := .seq ([] : List Value).toArray } := by rw [← hs3v]
  have szv : ∀ bv ∈ fpv, bv < s2v.heap.objs.size := fun bv hb => by
    obtain ⟨o, ev, _⟩ := Tv.obj _ _ st2v bv hb
    exact Heap.lt_size ev
  have f3v : ∀ bv ∈ fpv, FpOk X pinsv (upd H2v Dv (.lst [])) bv ∧ bv < s3v.heap.objs.size := fun bv hb => by
    have hltv := szv bv hb
    refine ⟨⟨?_, (f2v bv hb).2⟩, by rw [h3v, Heap.size_push]; exact Nat.lt_succ_of_lt hltv⟩
    rw [upd_ne (by rw [← hDv]; exact Nat.ne_of_lt hltv)]
    exact (f2v bv hb).1
  have st3v : tnv 0 s3v.heap := Tv.keep _ _ _ st2v fun bv _ o ev => by rw [h3v]; exact Heap.get?_push_of_some _ ev
  have I4v := block_start I3v okv hNv f3v
  have pgv := hgv s3v (upd H2v Dv (.lst [])) s3v.heap.objs.size (cellsFrom (s3v.heap.objs.size + 1) scopev.names (cloFrom X.env.cells scopev.names [])) fpv
  have ptv := htv s3v (upd H2v Dv (.lst [])) s3v.heap.objs.size (cellsFrom (s3v.heap.objs.size + 1) scopev.names (cloFrom X.env.cells scopev.names [])) fpv
  have pev := hev s3v (upd H2v Dv (.lst [])) s3v.heap.objs.size (cellsFrom (s3v.heap.objs.size + 1) scopev.names (cloFrom X.env.cells scopev.names [])) fpv I3v f3v
  show codeAny _ _ (.compStart (.ListComp eltv [⟨tgv, iterv, ifsv, 0⟩] scopev posv) 0 (.ref itv) (.ref Dv) (compEnvC scopev (cellsFrom (s3v.heap.objs.size + 1) scopev.names (cloFrom X.env.cells scopev.names [])) s3v.heap.objs.size X.env)) (compPost (model X.prog X.w) X.A X.xe usev Qfv (.ref Dv) s3v.heap.objs.size) { s3v with heap := pushCells (s3v.heap.push { cls := .type "dict", data := .dict #[] }) scopev.names }
  have nfpv : ∀ bv ∈ fpv, (upd H2v Dv (.lst [])) bv = none := fun bv hb => (f3v bv hb).1.1
  generalize hcev : compEnvC scopev (cellsFrom (s3v.heap.objs.size + 1) scopev.names (cloFrom X.env.cells scopev.names [])) s3v.heap.objs.size X.env = cev at I4v pgv ptv pev ⊢
  have cLv : cev.locals = s3v.heap.objs.size := by subst hcev; rfl
  generalize hH3v : upd H2v Dv (.lst []) = H3v at I3v I4v pgv ptv pev w0v nfpv f3v
  generalize hs4v : ({ s3v with heap := pushCells (s3v.heap.push { cls := .type "dict", data := .dict #[] }) scopev.names } : Shared) = s4v at I4v ⊢
  have st4v : tnv 0 s4v.heap := Tv.keep _ _ _ st3v fun bv _ o ev => by rw [← hs4v]; exact pushCells_keeps _ _ _ _ (Heap.get?_push_of_some _ ev)
  have statv : ∀ {σ' : L2.St} {Hv' : Hp} {sv' : Shared}, Inv (X.blk s3v H3v scopev cev fpv) [] σ' Hv' sv' → (∀ bv ∈ fpv, Hv' bv = none) → ∀ bv ∈ fpv, FpOk (X.blk s3v H3v scopev cev fpv) [] Hv' bv := fun {σ' Hv' sv'} Iv' hnv bv hb =>
    ⟨hnv bv hb, (Iv'.ok.exf bv hb).1, Iv'.ok.exfs bv hb, .inl hb, fun xv c ev => (Iv'.ok.exf bv hb).2 xv c ev, fun p hp => absurd (show p ∈ ([] : List (Addr × Obj)) ++ [] from hp) (by simp)⟩
  have loopv : codeAny (model X.prog X.w) X.A (.compLoop (.ListComp eltv [⟨tgv, iterv, ifsv, 0⟩] scopev posv) 0 (.ref itv) (.ref Dv) cev) (compPost (model X.prog X.w) X.A X.xe usev Qfv (.ref Dv) s3v.heap.objs.size) s4v := by
    refine compLoop_any (fun nv sv' => ∃ iv Hv', Inv (X.blk s3v H3v scopev cev fpv) [] (wipe σ (ownv.map (·.2))) Hv' sv' ∧ tnv iv sv'.heap ∧ (∀ bv ∈ fpv, Hv' bv = none) ∧ Wv iv nv Hv') ?_ m0v ⟨0, H3v, I4v, st4v, nfpv, w0v⟩
    rintro nv s5v ⟨iv, H5v, I5v, st5v, n5v, w5v⟩
    rcases turnv iv nv H5v w5v with ⟨stopv, qqv⟩ | ⟨gov, Nxv, hNxv, stepv⟩
    · have tdv := Tv.done (X.blk s3v H3v scopev cev fpv) rfl rfl rfl hcv iv [] s5v _ H5v (fun _ _ => False) I5v (statv I5v n5v) st5v stopv
      refine thnF tdv fun r s6v ⟨hrv, I6v⟩ => ?_
      subst hrv
      have I7v : Inv X pinsv σ H5v s6v := I3v.call' (ch := fpv) I6v.os I6v.base I6v.hok I6v.bare fun bv hb => ⟨(f3v bv hb).1.2.2.2.1, (f3v bv hb).1.2.1, (f3v bv hb).1.2.2.2.2.1, (f3v bv hb).1.2.2.2.2.2⟩
      have nCv : H5v s3v.heap.objs.size = none := by
        have zv : H5v cev.locals = none := I6v.free
        rw [cLv] at zv
        exact zv
      obtain ⟨mv, hnv, _⟩ := I6v.loc
      have hnv : s6v.heap.Ns cev.locals mv := hnv
      rw [cLv] at hnv
      exact hRRv Dv s3v.heap.objs.size s6v mv H5v I7v qqv hnv (I3v.fpOk (Nat.le_refl _) nCv)
    · have tiv := Tv.item (X.blk s3v H3v scopev cev fpv) rfl rfl rfl hcv iv [] s5v _ H5v (fun _ _ => False) I5v (statv I5v n5v) st5v gov
      refine thnF tiv fun r s6v ⟨uv, hrv, h6v⟩ => ?_
      subst hrv
      refine thnF h6v fun _ s7v ⟨xv, H7v, I7v, r7v, y7v, st7v, n7v⟩ => ?_
      have I7v' := I7v.pinned (statv I7v n7v) (Tv.obj _ _ st7v)
      refine thnF (pgv.run _ s7v _ H7v xv uv _ I7v' r7v (stepv xv H7v y7v)) fun _ s8v ⟨σ8v, H8v, I8v, hw8v, q8v⟩ => ?_
      refine thnF (ptv.run _ s8v σ8v H8v _ I8v q8v) fun bv s9v ⟨H9v, I9v, q9v⟩ => ?_
      have finv : ∀ {sv' : Shared} {Hv' : Hp}, Inv (X.blk s3v H3v scopev cev fpv) ([] ++ pinsAt fpv s7v.heap) σ8v Hv' sv' → Nxv Hv' → ∃ mv, mv < nv ∧ ∃ iv Hv', Inv (X.blk s3v H3v scopev cev fpv) [] (wipe σ (ownv.map (·.2))) Hv' sv' ∧ tnv iv sv'.heap ∧ (∀ bv ∈ fpv, Hv' bv = none) ∧ Wv iv mv Hv' := fun {sv' Hv'} Iv' nxv => by
        obtain ⟨mv', hmv, wv'⟩ := hNxv Hv' nxv
        have pinv' : ∀ bv ∈ fpv, ∀ o, s7v.heap.get? bv = some o → sv'.heap.get? bv = some o ∧ Hv' bv = none := fun bv hb o ev =>
          let zv := Iv'.pin (bv, o) (List.mem_append_right _ (List.mem_append_right _ (mem_pinsAt hb ev)))
          ⟨zv.1, zv.2.1⟩
        have hlv : (wipe σ (ownv.map (·.2))).length = σ8v.length := by rw [← hw8v, wipe_length]
        refine ⟨mv', hmv, iv + 1, Hv', (Iv'.unpinned (pins := [])).weak hlv (fun j v ev => ?_), Tv.keep _ _ _ st7v fun bv hb o ev => (pinv' bv hb o ev).1, fun bv hb => ?_, wv'⟩
        · rw [← hw8v] at ev
          exact (wipe_some ev).1
        · obtain ⟨o, ev, _⟩ := Tv.obj _ _ st7v bv hb
          exact (pinv' bv hb o ev).2
      cases bv with
      | false =>
        simp only [Bool.false_eq_true, if_false] at q9v ⊢
        exact finv I9v q9v
      | true =>
        simp only [if_true] at q9v ⊢
        refine thnF (pev.run _ s9v σ8v H9v _ I9v q9v) fun zv s10v ⟨yvv, H10v, I10v, r10v, accv, hD10v, hz10v, nxv⟩ => ?_
        exact app_ok (X := X.blk s3v H3v scopev cev fpv) I10v hD10v hz10v r10v fun s11v I11v => finv I11v nxv
  exact codeAny_compStart_list loopv (Tv.self X.A 0 _ _ _ st4v loopv)
theorem pe_lcx {eltv tgv iterv : Expr} {ifsv : List Expr} {scopev : Scope} {ownv : List (Str × Nat)} {posv : Pos} {wiv : TI} {gv : TG} {ttv : TT} {tev : L2.St → TE} (hcv : X.calm = true) (hNv : X.N.Nodup) (hiv : PI X tgv iterv wiv) (okv : BlkOk X.N X.env.scope scopev ownv)
    (hgv : ∀ (sv : Shared) (Hv : Hp) (Cv : Addr) (clv : List (Str × Addr)) (fpv : List Addr), PG (X.blk sv Hv scopev (compEnvC scopev clv Cv X.env) fpv) tgv gv) (htv : ∀ (sv : Shared) (Hv : Hp) (Cv : Addr) (clv : List (Str × Addr)) (fpv : List Addr), PTs (X.blk sv Hv scopev (compEnvC scopev clv Cv X.env) fpv) ifsv ttv)
    (hev : ∀ (pinsv : List (Addr × Obj)) (σ : L2.St) (sv : Shared) (Hv : Hp) (Cv : Addr) (clv : List (Str × Addr)) (fpv : List Addr), Inv X pinsv σ Hv sv → (∀ b ∈ fpv, FpOk X pinsv Hv b ∧ b < sv.heap.objs.size) → PE (X.blk sv Hv scopev (compEnvC scopev clv Cv X.env) fpv) eltv (tev σ)) (hsv : ∀ xv, foldedSetIterable iterv X.env xv = pure xv := by intro _; rfl) :
    PE X (.ListComp eltv [⟨tgv, iterv, ifsv, 0⟩] scopev posv) (fun σ Hv Qv => tLc wiv gv ttv (tev σ) (ownv.map (·.2)) σ Hv Qv) := by
  refine ⟨fun pinsv sv σ Hv Qv Iv hv => ?_⟩
  rw [eval_ListComp]
  refine lcx_core hcv hNv Iv hiv okv hgv htv (hev pinsv σ) hsv hv fun Dv Cv sv' mv Hv' Iv' qv hnv fv => ⟨mv, hnv, fun h'' sbv => ?_⟩
  obtain ⟨f0v, f1v, f2v, f3v, f4v, f5v⟩ := fv
  exact ⟨.ref Dv, Hv', Iv'.turned (t' := sv'.toks) (fun bv o hb ev => (sbv.2 bv hb).trans ev) f0v f1v f3v f4v f5v, rfl, qv⟩
theorem ps_setLcx {iv : Nat} {yv : Str} {pyv : Pos} {eltv tgv iterv : Expr} {ifsv : List Expr} {scopev : Scope} {ownv : List (Str × Nat)} {posv sposv : Pos} {wiv : TI} {gv : TG} {ttv : TT} {tev : L2.St → TE} (hcv : X.calm = true) (hNv : X.N.Nodup) (hyv : X.N[iv]? = some yv) (hylv : X.env.scope.names.lookup yv = some .local)
    (hswv : swapsWith (.ListComp eltv [⟨tgv, iterv, ifsv, 0⟩] scopev posv) (some (.Name yv pyv)) sposv.line X.env = pure true) (hiv : PI X tgv iterv wiv) (okv : BlkOk X.N X.env.scope scopev ownv)
    (hgv : ∀ (sv : Shared) (Hv : Hp) (Cv : Addr) (clv : List (Str × Addr)) (fpv : List Addr), PG (X.blk sv Hv scopev (compEnvC scopev clv Cv X.env) fpv) tgv gv) (htv : ∀ (sv : Shared) (Hv : Hp) (Cv : Addr) (clv : List (Str × Addr)) (fpv : List Addr), PTs (X.blk sv Hv scopev (compEnvC scopev clv Cv X.env) fpv) ifsv ttv)
    (hev : ∀ (pinsv : List (Addr × Obj)) (σ : L2.St) (sv : Shared) (Hv : Hp) (Cv : Addr) (clv : List (Str × Addr)) (fpv : List Addr), Inv X pinsv σ Hv sv → (∀ b ∈ fpv, FpOk X pinsv Hv b ∧ b < sv.heap.objs.size) → PE (X.blk sv Hv scopev (compEnvC scopev clv Cv X.env) fpv) eltv (tev σ)) (hsv : ∀ xv, foldedSetIterable iterv X.env xv = pure xv := by intro _; rfl) :
    PS X (.Assign [.Name yv pyv] (.ListComp eltv [⟨tgv, iterv, ifsv, 0⟩] scopev posv) sposv) (tAsg (fun σ Hv Qv => tLc wiv gv ttv (tev σ) (ownv.map (·.2)) σ Hv Qv) (gName iv)) := by
  refine ⟨fun pinsv sv σ Hv Dv Iv hv => ?_⟩
  rw [exec_Assign_Name_used _ _ _ _ hswv]
  refine wpAny_bind (wpAny_standAt (wpAny_bind ?_))
  show wpAny _ X.A (do let _ ← comprehension (.ListComp eltv [⟨tgv, iterv, ifsv, 0⟩] scopev posv) scopev X.env (firstIterPos [⟨tgv, iterv, ifsv, 0⟩] posv) (newList []) false (eval iterv X.env) (some (assign (.Name yv pyv) X.env))) _ _ sv
  have hv : tLc wiv gv ttv (tev σ) (ownv.map (·.2)) σ Hv (fun xv H1 => gName iv xv σ H1 Dv.nx) := hv
  refine wpAny_bind (thn (lcx_core (Qfv := fun _ sv' => SP X pinsv Dv .next sv') hcv hNv Iv hiv okv hgv htv (hev _ _) hsv hv fun Lv Cv sv' mv Hv' Iv' qv hnv fv => ?_) fun _ sv' hq => wpAny_pure (wpAny_pure hq))
  show wpAny _ _ (assign (.Name yv pyv) X.env (.ref Lv)) _ _ _
  refine wpAny_assign_Name (store_ok2 (v := V.ref Lv) Iv' hNv hyv (.inl hylv) rfl (fun s2v I2v ⟨av, sbv, hav⟩ => ?_) (.inr hylv))
  obtain ⟨f0v, f1v, f2v, f3v, f4v, f5v⟩ := fv
  have haCv : Cv ≠ av := by
    rcases hav with zv | zv
    · rw [zv]; exact f1v
    · exact fun ev => f4v yv av zv ev.symm
  refine ⟨mv, hnv.sameBut sbv haCv, fun h3v sb3v => ?_⟩
  exact ⟨_, Hv', I2v.turned (t' := s2v.toks) (fun bv o hb ev => (sb3v.2 bv hb).trans ev) f0v f1v f3v f4v f5v, qv⟩
end
end MV

set_option maxRecDepth 100000
set_option maxHeartbeats 1000000
/-! VHr: lambdas as values, the law's own try, in own syntax. -/
namespace MV
open PySem PySem.Spec PyProof.Rows L2
section
variable {L : Lk} {X : Cx} {pins : List (Addr × Obj)} {σ : L2.St} {H H1 : Hp} {s1 : Shared} {k : Nat} {f : Addr} {F : Fm} {φ : List Addr} {h : HH}
theorem Mkd.xt (m : Mkd L X pins σ H k f H1 s1) : XT φ H φ H1 :=
  ⟨⟨[], by simp, by simp⟩, fun a o e nt _ => m.ext a o e nt, fun a xs e => m.ext a _ e fun _ z => (nomatch z), fun a o u e => m.ext a _ e fun _ z => (nomatch z), fun a o e => by
    cases q : H1 a with
    | none => rw [m.nn a q] at e; cases e
    | some o' => exact ⟨o', rfl⟩⟩
theorem HR.ninE (x : HR L F φ h H) {a : Addr} (e : H a = none ∨ ∃ g, H a = some (.ext g)) : a ∉ φ := fun z => by
  obtain ⟨n, en⟩ := List.getElem?_of_mem z
  obtain ⟨o, _, ro⟩ := x.ro en
  obtain ⟨u, hu, _⟩ := ro.has
  rcases e with e | ⟨g, e⟩
  · rw [hu] at e
    cases e
  · cases ro with
    | lst q _ => rw [q] at e; cases e
    | dct q _ _ => rw [q] at e; cases e
    | ins q _ _ => rw [q] at e; cases e
theorem Mkd.hr (m : Mkd L X pins σ H k f H1 s1) (x : HR L F φ h H) : HR L F φ h H1 := by
  refine ⟨x.len, x.nod, fun n a o q w => ?_, x.own, fun a z => ?_, x.bn, m.tab⟩
  · have r := x.at_ n a o q w
    obtain ⟨u, hu, _⟩ := r.has
    exact r.mono m.xt ((m.ext a u hu (r.ntb hu)).trans hu.symm)
  · obtain ⟨u, hu⟩ := x.trk a z
    exact (m.xt (φ := φ)).trk a u hu
theorem Mkd.rel (m : Mkd L X pins σ H k f H1 s1) (x : HR L F φ h H) : Rel L F φ H1 (.lam k) (.ref f) := by
  obtain ⟨c', dV, a1, a2, a3, a4, a5⟩ := m.ob
  exact .lam a2 (x.ninE (.inl a1)) a3 (x.ninE (a4.imp id fun z => ⟨_, z⟩)) a5
end
section
variable {T : Tb} {L : Lk} {P : Prog} {orc : Orc} {k : Nat}
theorem ev_lamb {n : Nat} : EvOk T L P orc k (.lamb n) := by
  intro X W c x h
  unfold ck at h
  split at h
  · rename_i ps bd sc pos
    obtain ⟨h1, h⟩ := and_ h
    have la := c.lam h1
    split at h
    · rename_i pa hp
      obtain ⟨h2, h3⟩ := and_ h
      have S := lamSx_by h2
      refine ⟨fun pins s σ H Q I ⟨F, φ, ρ, hh, hr, er, g⟩ => ?_⟩
      obtain ⟨cd, Pt, e1, TB, hm, hu⟩ := la.code
      refine lam_mk I TB e1 hm hu la.q la.cells hr.tab (la.lt n ps bd sc pa hp h2 h3) hp (fun y hy e => ?_) fun f H1 s1 m => ⟨.ref f, H1, m.inv, rfl, g φ H1 _ m.xt (m.hr hr) (m.rel hr)⟩
      exact (S.free y hy e).elim (fun z => I.ok.has _ (.inl z)) fun z => I.ok.has _ (.inr z)
    · cases h
  · cases h
theorem capD_at {ρ : Env} : ∀ {caps : List Nat} {ds : List D}, capD ρ caps = some ds → ds.length = caps.length ∧ ∀ (j i : Nat) (d : D), caps[j]? = some i → ds[j]? = some d → ρ[i]? = some (some d)
  | [], ds, h => by
    cases h
    exact ⟨rfl, fun j i d e _ => by simp at e⟩
  | c :: cs, ds, h => by
    unfold capD at h
    split at h
    · rename_i d0 l0 e0 e1
      cases h
      obtain ⟨q1, q2⟩ := capD_at e1
      refine ⟨congrArg Nat.succ q1, fun j i d a b => ?_⟩
      cases j with
      | zero =>
        cases a
        cases b
        exact e0
      | succ j => exact q2 j i d a b
    · cases h
/-- the law's own try, called with what a lambda is -/
theorem pe_ltry {wd : Bool} {T0 : Tb} {X0 Y : Cx} {W : WX} {g : Addr} {x : Expr} {p pos : Pos} {a : E} {C : L2.St → Prop} (hg : Gl Y (tryN wd)) (hm : Y.mg (tryN wd) = some (.ref g)) (hk : PySem.W.keepIn Y.K (.ref g) = true) (hns : nsB x = true) (la : LamAt T0 L P X0) (t : TryAt wd L P orc X0 Y W g)
    (hx : PE Y x (rdE L W (ev P orc a))) (h0 : ∀ (pins : List (Addr × Obj)) (σ : L2.St) (H : Hp) (s : Shared), Inv Y pins σ H s → C σ → ∃ (pins0 : List (Addr × Obj)) (σ0 : L2.St) (H0 : Hp) (s0 : Shared), Inv X0 pins0 σ0 H0 s0 ∧ (∃ fs ex : List Addr, (∀ b ∈ ex, ∀ x c, X0.env.cells.lookup x = some c → c ≠ b) ∧ Un fs ex H0 H s0.heap s.heap) ∧ ∀ i ∈ T0.lc, σ0[i]? = σ[i]?) :
    PE Y (.Call (.Name (tryN wd) p) [x] [] pos) (fun σ H Q => C σ ∧ rdE L W (ev P orc (.ltry wd a)) σ H Q) := by
  refine ⟨fun pins s σ H Q I ⟨hC, F, φ, ρ, h, hr, er, gq⟩ => ?_⟩
  rw [q_ltry] at gq
  refine wpAny_Call_Name_kw (ld_glob I hg hm ?_ (by cases wd <;> decide))
  refine PySem.W.callWith_K (h₀ := Y.base) I.ok.mod.kin hk (thn ((pa_cons hx pa_nil (sEach _ _ _ hns)).run pos pins s σ H (fun vs H1 => ∃ (φ1 : List Addr) (h1 : HH) (d : D) (v : V), vs = [v] ∧ XT φ H φ1 H1 ∧ HR L F φ1 h1 H1 ∧ Rel L F φ1 H1 d v ∧ GE L F φ1 H1 (match d with
    | .lam k => (match capsJ P k with
      | some caps => (match capD ρ caps with
        | some ds => tryW P wd (orc k ds h1)
        | none => .no)
      | none => .no)
    | _ => .no) Q (fun c d H' => W c d σ H')) I ⟨F, φ, ρ, h, hr, er, G.bind gq fun d h1 φ1 H1 v e1 t1 hr1 r1 g1 => ⟨φ1, h1, d, v, rfl, t1, hr1, r1, g1⟩⟩) fun us s1 ⟨vs, H1, I1, r, φ1, h1, d, v, ev, t1, hr1, r1, g1⟩ => ⟨I1.kIn, ?_⟩) (sEach _ _ _ hns) (by rfl)
  subst ev
  cases r with
  | @cons _ u _ us ru r2 =>
    cases r2
    split at g1
    · rename_i n
      split at g1
      · rename_i caps ec
        split at g1
        · rename_i ds ed
          have r0 := r1
          cases r1 with
          | @lam _ f c' dV ho nf hc nc hdv =>
            obtain rfl : u = Value.ref f := ru
            obtain ⟨pins0, σ0, H0, s0, I0, hun, hσ⟩ := h0 pins σ H1 s1 I1 hC
            obtain ⟨ps, bd, sc, _, _, _, hlt, _, _⟩ := (show ObjOk Y.prog Y.w H1 s1.heap f (.ext _) from I1.hok f _ ho).1
            obtain ⟨pa, _, _, hlk⟩ := la.tl n ps bd sc hlt
            obtain ⟨fl, caps', z1, z2, z3, _⟩ := la.lk n sc bd hlk
            have ec2 : capsJ P n = some caps' := by
              unfold capsJ
              rw [z1]
              dsimp only
              rw [z2]
            rw [ec] at ec2
            cases ec2
            obtain ⟨q1, q2⟩ := capD_at ed
            exact t pins0 σ0 H0 s0 pins σ H1 s1 F φ1 h1 n f caps ds Q I0 I1 hun hr1 r0 ec q1 (fun j i d a b => by
              obtain ⟨v, e1, e2⟩ := (er.mono t1).at_ i d (q2 j i d a b)
              exact ⟨v, (hσ i (z3 i (List.mem_of_getElem? a))).trans e1, e2⟩) g1
        · exact (G.no_ g1).elim
      · exact (G.no_ g1).elim
    · exact (G.no_ g1).elim
theorem ev_ltry {wd : Bool} {a : E} (ha : EvOk T L P orc k a) : EvOk T L P orc k (.ltry wd a) := by
  intro X W c x h
  unfold ck at h
  split at h
  · rename_i f p1 x p2
    obtain ⟨h1, h⟩ := and_ h
    obtain ⟨hw, h⟩ := and_ h
    obtain ⟨h2, h⟩ := and_ h
    obtain ⟨h3, h⟩ := and_ h
    obtain ⟨h4, h5⟩ := and_ h
    have h1 := of_decide_eq_true h1
    subst h1
    have la := c.lam h3
    obtain ⟨g, m1, m2, m3⟩ := c.fa.ltry wd X X W hw la.tr ⟨T, rfl, la⟩ c.same c.calm rfl rfl rfl rfl rfl c.tk
    exact (pe_ltry (C := fun _ => True) (glB_ h2).1 m1 m2 h4 la m3 (ha X W c _ h5) fun pins σ H s I _ => ⟨pins, σ, H, s, I, ⟨[], [], fun b z => (nomatch z), .refl⟩, fun _ _ => rfl⟩).imp fun σ H Q q => ⟨trivial, q⟩
  · cases h
theorem GT.imp_ {F : Fm} {φ : List Addr} {H : Hp} {vs : List Nat} {σ : L2.St} {r : R Env} {Q Q' : L2.St → Hp → Prop} (g : GT L F φ H vs σ r Q) (q : ∀ s H1, Q s H1 → Q' s H1) : GT L F φ H vs σ r Q' := by
  cases r with
  | ok ρ h => exact fun φ' H' σ' a b c d => q _ _ (g φ' H' σ' a b c d)
  | exc _ _ _ _ => exact g
  | no => exact g
/-- the slots besides the block's own stay: told to the element -/
theorem tlc_keep {W Wt : WX} {fi : Env → HH → R Itr} {fg : D → Env → HH → R Env} {ft : Env → HH → R Bool} {te : TE} {vs ws : List Nat} {σ : L2.St} {H : Hp} {Q : VK} (h : tLc (rdI L W fi) (rdG L ws fg) (rdT L Wt ft) te vs σ H Q) :
    tLc (rdI L W fi) (rdG L ws fg) (rdT L Wt ft) (fun σ2 H3 Q3 => L2.wipe σ2 vs = L2.wipe σ vs ∧ te σ2 H3 Q3) vs σ H Q := by
  obtain ⟨F, φ, ρ, hh, hr, er, g⟩ := h
  refine ⟨F, φ, ρ, hh, hr, er, G.imp g fun J H1 q Dd hD => ?_⟩
  obtain ⟨U, u0, tn⟩ := q Dd hD
  refine ⟨U, u0, fun i m H2 z => ?_⟩
  rcases tn i m H2 z with z | ⟨go, Nx, n1, st⟩
  · exact .inl z
  · refine .inr ⟨go, Nx, n1, fun x H4 y => ?_⟩
    obtain ⟨F2, φ2, ρ2, h2, d2, a1, a2, a3, a4⟩ := st x H4 y
    refine ⟨F2, φ2, ρ2, h2, d2, a1, a2, a3, a4.imp_ fun σ2 H5 ⟨w1, w2⟩ => ⟨w1, ?_⟩⟩
    obtain ⟨F3, φ3, ρ3, h3, b1, b2, b3⟩ := w2
    refine ⟨F3, φ3, ρ3, h3, b1, b2, G.imp b3 fun b H6 w3 => ?_⟩
    cases b with
    | true =>
      rw [if_pos rfl] at w3 ⊢
      exact ⟨w1, w3⟩
    | false =>
      rw [if_neg Bool.false_ne_true] at w3 ⊢
      exact w3
end
end MV

set_option maxRecDepth 100000
set_option maxHeartbeats 1000000
/-! VHx: == and != of two tuples of instances, item by item by their own ==; list(range(n)). -/
namespace MV
open PySem PySem.Spec PyProof.Rows L2
section
open PySem.SeqAt
open AutoSeq1 (wpAny_loadPart')
open MeetsSeq MeetsSeq2 MeetsSeq3 SeqRoads2
variable {prog : Program} {w : World} {A : Around} {R : Result → Shared → Prop}
theorem tup_neG (l b : Addr) (items items2 : Array Value) (n n2 : Nat) (dd dd2 : Option Addr) (sl sl2 : Array (Option Value)) (hsz : items.size = items2.size) (I : Nat → Shared → Prop)
    (turn : ∀ i (h1 : i < items.size) (h2 : i < items2.size) s, I i s → wpAny (model prog w) A.in1 (eqBool items[i] items2[i]) (fun r s' => r = true ∧ I (i + 1) s') (fun e s' => R (.error e) s') s)
    (fin : ∀ s, I items.size s → R (.ok (.ret (.bool false))) s) {s : Shared} (hl1 : s.heap.get? l = some { cls := .type "tuple", dict := dd, data := .seq items n, slots := sl }) (hb1 : s.heap.get? b = some { cls := .type "tuple", dict := dd2, data := .seq items2 n2, slots := sl2 }) (h : I 0 s) :
    wpAny (model prog w) A.in1 (Builtin.«tuple.__ne__» ⟨[.ref l, .ref b], []⟩) (GQ.FinOf prog w A R) (fun e s' => R (.error e) s') s := by
  have f2 := AutoSeq1.sub_tuple_tuple
  have hZ : (items.toList.zip items2.toList).length = items.size := by simp [hsz]
  have h0 := h
  obtain ⟨hp, g, d, tk, os⟩ := s
  wp_walk using wpAny_loadPart' hl1, wpAny_loadPart' hb1, wpAny_forIn_list _ (fun rest b s' => b.1 = none ∧ ∃ i, rest = (items.toList.zip items2.toList).drop i ∧ i ≤ items.size ∧ I i s') _
  case turn =>
    rintro ⟨y, x⟩ rest b s' ⟨hb', i, hz, hi, hI⟩
    have hlt : i < (items.toList.zip items2.toList).length := by
      rcases Nat.lt_or_ge i (items.toList.zip items2.toList).length with h' | h'
      · exact h'
      · rw [List.drop_of_length_le h'] at hz; cases hz
    have h1 : i < items.size := hZ ▸ hlt
    have h2 : i < items2.size := hsz ▸ h1
    rw [List.drop_eq_getElem_cons hlt] at hz
    injection hz with hyx hrest
    have hy : y = items[i] := by have := congrArg Prod.fst hyx; simpa using this
    have hx : x = items2[i] := by have := congrArg Prod.snd hyx; simpa using this
    subst hy hx
    refine wpAny_bind (wpAny_mono (turn i h1 h2 s' hI) (fun r s2 q2 => ?_) fun _ _ x => x)
    obtain ⟨hr, q2⟩ := q2
    subst hr
    wp_walk
    exact ⟨rfl, i + 1, hrest, h1, q2⟩
  case fin =>
    rintro ⟨b1, b2⟩ s' ⟨hb', i, hz, hi, hI⟩
    simp only at hb'
    subst hb'
    have hge : items.size ≤ i := by
      rcases Nat.lt_or_ge i (items.toList.zip items2.toList).length with h' | h'
      · rw [List.drop_eq_getElem_cons h'] at hz; cases hz
      · exact hZ ▸ h'
    have hi' : i = items.size := by omega
    have hR : R (.ok (.ret (.bool false))) s' := fin s' (hi' ▸ hI)
    wp_walk
    simpa [Builtin.Tuple.tupleCompareSizes, hsz] using hR
  case h =>
    exact ⟨rfl, 0, rfl, Nat.zero_le _, h0⟩
end
section
variable {prog : Program} {w : World} {A : Around} {E : Value → Shared → Prop} {s : Shared}
theorem rc_tupNe {l b : Addr} {items items2 : Array Value} {Q : Value → Shared → Prop} (hsz : items.size = items2.size) (hu : A.units < cLine) (I : Nat → Shared → Prop)
    (hl : s.heap.IsTuple l items) (hb : s.heap.IsTuple b items2)
    (turn : ∀ i (h1 : i < items.size) (h2 : i < items2.size) s, I i s → wpAny (model prog w) A.in1 (eqBool items[i] items2[i]) (fun r s' => r = true ∧ I (i + 1) s') E s)
    (fin : ∀ s, I items.size s → Q (.bool false) s) (h : I 0 s) : wpAny (model prog w) A (richCompare .NotEq (.ref l) (.ref b)) Q E s := by
  obtain ⟨⟨cls, dd, data, sl⟩, ho, hc, n, hd⟩ := id hl
  obtain ⟨⟨cls2, dd2, data2, sl2⟩, ho2, hc2, n2, hd2⟩ := id hb
  simp only at hc hd hc2 hd2
  subst hc hd hc2 hd2
  refine wpAny_richCompare_same_room (op := .NotEq) ⟨_, ho, rfl⟩ ⟨_, ho2, rfl⟩ F.slot_tuple_ne (GQ.call_here F.slot_tuple_ne ⟨_, ho, rfl⟩ F.entry_tuple_ne (F.args_tuple_ne_2 _ _) ?_) hu
  exact tup_neG (R := wants (fun v s' => v ≠ .notImplemented ∧ Q v s') E) l b items items2 n n2 dd dd2 sl sl2 hsz I turn (fun s' q => ⟨(fun x => nomatch x), fin s' q⟩) ho ho2 h
end
section
variable {T : Tb} {L : Lk} {P : Prog} {orc : Orc} {k : Nat}
theorem purJ_ {j : Nat} (h : purJ P j = true) : ∃ s f, P.sh[j]? = some s ∧ P.fns[s.fn]? = some f ∧ f.kind = .fn true ∧ fnJ P.sh P.fns j = true := by
  unfold purJ at h
  split at h
  · rename_i s e1
    split at h
    · rename_i f e2
      split at h
      · rename_i b e3
        subst h
        exact ⟨s, f, e1, e2, e3, by unfold fnJ; rw [e1]; dsimp only; rw [e2]; dsimp only; rw [e3]⟩
      · cases h
    · cases h
  · cases h
theorem isT_ {r : R D} (h : isT r = true) : ∃ h1, r = .ok (.bl true) h1 := by
  unfold isT at h
  split at h
  · exact ⟨_, rfl⟩
  · cases h
theorem eqsO_len {alts : List (Nat × Nat)} {h : HH} : ∀ {xs ys : List D}, eqsO P orc alts xs ys h = true → xs.length = ys.length
  | [], [], _ => rfl
  | [], _ :: _, z => (nomatch z)
  | _ :: _, [], z => (nomatch z)
  | x :: xs, y :: ys, z => by
    have z : ((match ownJ P alts (insOf x h) (insOf y h) with
      | some j => purJ P j && isT (callJ P orc false j [x, y] h)
      | none => false) && eqsO P orc alts xs ys h) = true := z
    rw [List.length_cons, List.length_cons, eqsO_len (Bool.and_eq_true_iff.mp z).2]
theorem eqsO_get {alts : List (Nat × Nat)} {h : HH} : ∀ {xs ys : List D}, eqsO P orc alts xs ys h = true → ∀ (i : Nat) (x y : D), xs[i]? = some x → ys[i]? = some y → ∃ j, ownJ P alts (insOf x h) (insOf y h) = some j ∧ purJ P j = true ∧ isT (callJ P orc false j [x, y] h) = true
  | [], _, _, i, x, y, e, _ => by simp at e
  | _ :: _, [], z, _, _, _, _, _ => (nomatch z)
  | x :: xs, y :: ys, z, i, u, v, e1, e2 => by
    have z : ((match ownJ P alts (insOf x h) (insOf y h) with
      | some j => purJ P j && isT (callJ P orc false j [x, y] h)
      | none => false) && eqsO P orc alts xs ys h) = true := z
    obtain ⟨z1, z2⟩ := Bool.and_eq_true_iff.mp z
    cases i with
    | zero =>
      simp at e1 e2
      subst e1 e2
      split at z1
      · rename_i j ej
        obtain ⟨z3, z4⟩ := Bool.and_eq_true_iff.mp z1
        exact ⟨j, ej, z3, z4⟩
      · cases z1
    | succ i => exact eqsO_get z2 i u v (by simpa using e1) (by simpa using e2)
theorem callJ_pur {pg : Program} {w : World} {K : PySem.W.Frag} {mg : Str → Option Value} {base : Heap} (fa : Facts T L P orc k pg w K mg base) {j : Nat} (hp : purJ P j = true) {ds : List D} {h h1 : HH} {d : D} (e : callJ P orc false j ds h = .ok d h1) : h1 = h := by
  obtain ⟨s, f, e1, e2, e3, _⟩ := purJ_ hp
  unfold callJ at e
  rw [e1] at e
  dsimp only at e
  split at e
  · rename_i ps eps
    cases q : orc s.fn ps h with
    | ok r h2 =>
      rw [q] at e
      have := fa.pur _ _ _ _ _ _ e2 e3 q
      subst this
      have e : retD false r h2 = .ok d h1 := e
      cases r with
      | val x =>
        cases e
        rfl
      | newl l =>
        cases e
        rfl
    | exc _ _ _ _ =>
      rw [q] at e
      cases e
    | no =>
      rw [q] at e
      cases e
  · cases e
/-- the turn: two instances by their own == -/
theorem own_in {alts : List (Nat × Nat)} {X : Cx} {W : WX} (c : CX1 T L P orc k X W) (h4 : (alts.all fun p => match T.sn[p.2]? with
      | some (.meth c, m', n, []) => decide (p.1 = c) && (decide (m' = ("__eq__" : Str)) && decide (n = 2))
      | _ => false) = true) {pins : List (Addr × Obj)} {s : Shared} {σ : L2.St} {H : Hp} {F : Fm} {φ : List Addr} {h : HH} {dx dy : D} {vx vy : V} {v u : Value} (I : L2.Inv X pins σ H s) (rv : RelV vx v) (ru : RelV vy u) (hr : HR L F φ h H) (rx : Rel L F φ H dx vx) (ry : Rel L F φ H dy vy) {j : Nat}
      (ej : ownJ P alts (insOf dx h) (insOf dy h) = some j) (hp : purJ P j = true) (ht : isT (callJ P orc false j [dx, dy] h) = true) :
    wpAny (model X.prog X.w) X.A.in1 (eqBool v u) (fun r s' => r = true ∧ ∃ H', L2.Inv X pins σ H' s' ∧ XT φ H φ H' ∧ HR L F φ h H') X.xe s := by
  obtain ⟨cl, ks, vs, ks', vs', e1, e2, lc, ej, hf⟩ := ownJ_some ej
  obtain ⟨a1, d1, fs1, ev1, hH1, _, _⟩ := insOf_ok hr rx e1
  obtain ⟨a2, d2, fs2, ev2, hH2, _, _⟩ := insOf_ok hr ry e2
  subst ev1 ev2
  have e3 := List.all_eq_true.mp h4 _ (getT_mem ej)
  dsimp only at e3
  split at e3
  · rename_i cl' m' n esn
    obtain ⟨a1', a2'⟩ := and_ e3
    obtain ⟨a2', a3'⟩ := and_ a2'
    have a1' := of_decide_eq_true a1'
    have a2' := of_decide_eq_true a2'
    have a3' := of_decide_eq_true a3'
    subst a1' a2' a3'
    obtain ⟨fa, f2, f3, f4⟩ := c.fa.mein X W c.same c.tk j cl _ 2 [] esn
    obtain rfl : v = Value.ref a1 := rv
    obtain rfl : u = Value.ref a2 := ru
    obtain ⟨h1, ec⟩ := isT_ ht
    have eh := callJ_pur c.fa hp ec
    subst eh
    by_cases hab : a1 = a2
    · subst hab
      exact SeqAt.EqAt.same (A := X.A.in1) (s := s) (.ref a1) X.prog X.w X.xe _ ⟨rfl, H, I, .refl _ _, hr⟩
    · obtain ⟨mA, J, _⟩ := ins_get I.hok hH1
      obtain ⟨mB, J', _⟩ := ins_get I.hok hH2
      obtain ⟨od, J, _⟩ := J.look
      obtain ⟨od', J', _⟩ := J'.look
      obtain ⟨m, hF⟩ := I.fr
      have g' : GE L F φ H (callJ P orc false j [dx, dy] h1) (fun z H' => z = .bl true ∧ XT φ H φ H' ∧ HR L F φ h1 H') fun c d H' => W c d σ H' := by
        rw [ec]
        intro φ1 H1 z t hr1 rz
        obtain ⟨more, em, _⟩ := t.pre
        have ml : more = [] := by
          have l1 := hr1.len
          have l2 := hr.len
          rw [em, List.length_append] at l1
          exact List.length_eq_zero_iff.mp (by omega)
        subst ml
        rw [List.append_nil] at em
        subst em
        cases rz
        exact ⟨rfl, t, hr1⟩
      refine GQ.eqBool_refG hab (PySem.W.cmp_K (op := .Eq) (tb := .ref (L.cl cl)) (by have := c.hu; show X.A.in1.units < cLine; exact Nat.lt_of_le_of_lt (Nat.le_refl _) (by have := c.hu; simp only [Around.in1]; omega)) hF I.ok.mod.kin J J'.type (by simp [PySem.W.notFirst]) f2.at_ f2.fn (wpAny_mono (f4 hf false pins s σ H [.ref a1, .ref a2] [] [.ref a1, .ref a2] [] _ F φ h1 [dx, dy] I (.cons rfl (.cons rfl .nil)) .nil rfl rfl hr (.cons rx (.cons ry .nil)) g') (fun r s' z => ?_) fun _ _ e => e))
      obtain ⟨z', H', I', rz, ez, t, hr'⟩ := z
      subst ez
      cases rz
      exact SlX.cmpback (z := .bl true) rfl ⟨true, rfl, rfl, H', I', t, hr'⟩
  · cases e3
theorem own_cmpt {ne : Bool} {alts : List (Nat × Nat)} {X : Cx} {W : WX} (c : CX1 T L P orc k X W) (h4 : (alts.all fun p => match T.sn[p.2]? with
      | some (.meth c, m', n, []) => decide (p.1 = c) && (decide (m' = ("__eq__" : Str)) && decide (n = 2))
      | _ => false) = true) {pins : List (Addr × Obj)} {s : Shared} {σ : L2.St} {H : Hp} {F : Fm} {φ : List Addr} {h : HH} {dx dy : D} {vx vy : V} {v u : Value} {Q : Bool → Hp → Prop} (I : L2.Inv X pins σ H s) (rv : RelV vx v) (ru : RelV vy u) (hr : HR L F φ h H) (rx : Rel L F φ H dx vx) (ry : Rel L F φ H dy vy)
      (z : eqsT P orc alts dx dy h = true) (g : ∀ H', XT φ H φ H' → HR L F φ h H' → Q (!ne) H') :
    wpAny (model X.prog X.w) X.A (compareOp (cs' ne .NotEq .Eq) v u) (EP X pins σ fun z H' => ∃ k, z = .bl k ∧ Q k H') X.xe s := by
  unfold eqsT at z
  split at z
  · rename_i xs ys
    cases rx with
    | @tup a vs _ sx rsx =>
      cases ry with
      | @tup b ws _ sy rsy =>
        obtain rfl : v = Value.ref a := rv
        obtain rfl : u = Value.ref b := ru
        rw [← c.fa.hK] at sx sy
        obtain ⟨its, r, e, _⟩ := I.tuple sx
        obtain ⟨its2, r2, e2, _⟩ := I.tuple sy
        have len := eqsO_len z
        have l1 := rsx.length
        have l2 := rsy.length
        have l3 := r.length
        have l4 := r2.length
        have hsz : its.toArray.size = its2.toArray.size := by rw [List.size_toArray, List.size_toArray]; omega
        have turn : ∀ i (h1 : i < its.toArray.size) (h2 : i < its2.toArray.size) s', (∃ H', L2.Inv X pins σ H' s' ∧ XT φ H φ H' ∧ HR L F φ h H') →
            wpAny (model X.prog X.w) X.A.in1 (eqBool its.toArray[i] its2.toArray[i]) (fun r s2 => r = true ∧ ∃ H', L2.Inv X pins σ H' s2 ∧ XT φ H φ H' ∧ HR L F φ h H') X.xe s' := fun i h1 h2 s' ⟨H', I', t, hr'⟩ => by
          have h1' : i < its.length := by simpa using h1
          have h2' : i < its2.length := by simpa using h2
          have g1 : its[i]? = some its.toArray[i] := by
            rw [List.getElem?_eq_getElem h1'] <;> simp
          have g2 : its2[i]? = some its2.toArray[i] := by
            rw [List.getElem?_eq_getElem h2'] <;> simp
          have k1 : i < xs.length := by omega
          have k2 : i < ys.length := by omega
          obtain ⟨j, ej, hp, ht⟩ := eqsO_get z i _ _ (List.getElem?_eq_getElem k1) (List.getElem?_eq_getElem k2)
          obtain ⟨vx, ex, rxi⟩ := rsx.get (List.getElem?_eq_getElem k1)
          obtain ⟨vy, ey, ryi⟩ := rsy.get (List.getElem?_eq_getElem k2)
          obtain ⟨u1, hu1, ru1⟩ := r.get ex
          obtain ⟨u2, hu2, ru2⟩ := r2.get ey
          rw [g1] at hu1
          rw [g2] at hu2
          rw [Option.some.inj hu1, Option.some.inj hu2]
          refine wpAny_mono (own_in c h4 I' ru1 ru2 hr' (rxi.mono t) (ryi.mono t) ej hp ht) (fun rr s2 q => ?_) fun _ _ x => x
          obtain ⟨q1, H2, q2, q3, q4⟩ := q
          exact ⟨q1, H2, q2, t.trans q3, q4⟩
        have hu := c.hu
        cases ne with
        | false =>
          show wpAny (model X.prog X.w) X.A (richCompare .Eq (.ref a) (.ref b)) _ X.xe s
          refine GQ.rc_tupG hsz (by omega) (fun _ s' => ∃ H', L2.Inv X pins σ H' s' ∧ XT φ H φ H' ∧ HR L F φ h H') e e2 turn (fun s' ⟨H', I', t, hr'⟩ => ?_) ⟨H, I, .refl _ _, hr⟩
          exact ⟨.bl true, H', I', rfl, true, rfl, g H' t hr'⟩
        | true =>
          show wpAny (model X.prog X.w) X.A (richCompare .NotEq (.ref a) (.ref b)) _ X.xe s
          refine rc_tupNe hsz (by omega) (fun _ s' => ∃ H', L2.Inv X pins σ H' s' ∧ XT φ H φ H' ∧ HR L F φ h H') e e2 turn (fun s' ⟨H', I', t, hr'⟩ => ?_) ⟨H, I, .refl _ _, hr⟩
          exact ⟨.bl false, H', I', rfl, false, rfl, g H' t hr'⟩
  · cases z
theorem ck_cmpt {ne : Bool} {a b : E} {alts : List (Nat × Nat)} {N : List Str} {sc : Scope} {x : Expr} (h : ck T N (.cmpt ne a b alts) sc x = true) : ∃ x' y' p, x = .Compare x' [cs' ne .NotEq .Eq] [y'] p ∧ ck T N a sc x' = true ∧ ck T N b sc y' = true ∧ behindInMarks (cs' ne .NotEq .Eq) y' = false ∧ (alts.all fun p => match T.sn[p.2]? with
      | some (.meth c, m', n, []) => decide (p.1 = c) && (decide (m' = ("__eq__" : Str)) && decide (n = 2))
      | _ => false) = true := by
  unfold ck at h
  split at h
  · rename_i x o y p
    obtain ⟨h1, h⟩ := and_ h
    obtain ⟨h2, h⟩ := and_ h
    obtain ⟨h3, h⟩ := and_ h
    obtain ⟨h4, h5⟩ := and_ h
    have h1 := of_decide_eq_true h1
    subst h1
    exact ⟨x, y, p, rfl, h2, h3, by simpa using h4, h5⟩
  · cases h
theorem ev_cmpt {ne : Bool} {a b : E} {alts : List (Nat × Nat)} (ha : EvOk T L P orc k a) (hb : EvOk T L P orc k b) : EvOk T L P orc k (.cmpt ne a b alts) := by
  intro X W c x h
  obtain ⟨x, y, p, rfl, h2, h3, hm, h4⟩ := ck_cmpt h
  refine ⟨fun pins s σ H Q I ⟨F, φ, ρ, hh, hr, er, g⟩ => ?_⟩
  rw [q_cmpt] at g
  refine wpAny_Compare1 (binT (R := fun v u H2 => ∃ φ2 h2 dx dy, HR L F φ2 h2 H2 ∧ Rel L F φ2 H2 dx v ∧ Rel L F φ2 H2 dy u ∧ eqsT P orc alts dx dy h2 = true ∧ ∀ H', XT φ2 H2 φ2 H' → HR L F φ2 h2 H' → Q (.bl (!ne)) H') (ha X W c _ h2) (hb X W c _ h3) I ⟨F, φ, ρ, hh, hr, er, G.bind g fun dx h1 φ1 H1 v e1 t1 hr1 rx g1 => ⟨F, φ1, ρ, h1, hr1, er.mono t1, G.bind g1 fun dy h2 φ2 H2 u e2 t2 hr2 ry g2 => ?_⟩⟩ fun v u s2 vx vy H2 I2 rv ru ⟨φ2, h2, dx, dy, hr2, rx, ry, ez, g2⟩ => ?_) hm
  · split at g2
    · rename_i ez
      exact ⟨φ2, h2, dx, dy, hr2, rx.mono t2, ry, ez, fun H' t hr' => G.ok' g2 t hr' (.bl _)⟩
    · exact (G.no_ g2).elim
  · exact wpAny_mono (own_cmpt (Q := fun k H' => Q (.bl k) H') c h4 I2 rv ru hr2 rx ry ez g2) (fun r s' z => by
      obtain ⟨z', H', I', rz, k, ez, q⟩ := z
      subst ez
      exact ⟨_, H', I', rz, q⟩) fun _ _ e => e
theorem ts_cmpt {ne : Bool} {a b : E} {alts : List (Nat × Nat)} (ha : EvOk T L P orc k a) (hb : EvOk T L P orc k b) : TsOk T L P orc k (.cmpt ne a b alts) := by
  intro X W c x h
  obtain ⟨x, y, p, rfl, h2, h3, hm, h4⟩ := ck_cmpt h
  refine ⟨fun pins s σ H Q I ⟨F, φ, ρ, hh, hr, er, g⟩ => ?_⟩
  rw [t_cmptQ] at g
  refine wpAny_isTrue_Compare1 (thn ((ha X W c _ h2).run pins s σ H (fun v H1 => ∃ φ1 h1 dx, HR L F φ1 h1 H1 ∧ ER L F φ1 H1 ρ σ ∧ Rel L F φ1 H1 dx v ∧ GB L F φ1 H1 ((ev P orc b ρ h1).bind fun dy h2 => match eqsT P orc alts dx dy h2 with
    | true => .ok (!ne) h2
    | false => .no) Q fun c d H' => W c d σ H') I ⟨F, φ, ρ, hh, hr, er, G.bind g fun dx h1 φ1 H1 v e1 t1 hr1 rx g1 => ⟨φ1, h1, dx, hr1, er.mono t1, rx, g1⟩⟩) fun v s1 ⟨vx, H1, I1, rv, φ1, h1, dx, hr1, er1, rx, g1⟩ => thn ((hb X W c _ h3).run pins s1 σ H1 (fun u H2 => ∃ φ2 h2 dy, HR L F φ2 h2 H2 ∧ Rel L F φ2 H2 dx vx ∧ Rel L F φ2 H2 dy u ∧ GB L F φ2 H2 (match eqsT P orc alts dx dy h2 with
    | true => .ok (!ne) h2
    | false => .no) Q fun c d H' => W c d σ H') I1 ⟨F, φ1, ρ, h1, hr1, er1, G.bind g1 fun dy h2 φ2 H2 u e2 t2 hr2 ry g2 => ⟨φ2, h2, dy, hr2, rx.mono t2, ry, g2⟩⟩) fun u s2 ⟨vy, H2, I2, ru, φ2, h2, dy, hr2, rx2, ry, g2⟩ => ?_) hm
  split at g2
  · rename_i ez
    refine thn (own_cmpt (Q := Q) c h4 I2 rv ru hr2 rx2 ry ez fun H' t hr' => G.ok' g2 t hr' rfl) fun r s3 ⟨z, H3, I3, rz, k, ez, q⟩ => ?_
    subst ez
    cases rz
    exact wpAny_truthy_bool ⟨H3, I3, q⟩
  · exact (G.no_ g2).elim
theorem rgV_rels {F : Fm} {φ : List Addr} {H : Hp} (j : Int) : Rels L F φ H (rangeL 0 j) (rgV 0 j) := by
  unfold rangeL rgV
  generalize List.range (j - 0).toNat = l
  induction l with
  | nil => exact .nil
  | cons x r ih => exact .cons (.int _) ih
theorem ev_lrg {m : Bool} {a : E} (ha : EvOk T L P orc k a) : EvOk T L P orc k (.lrg m a) := by
  intro X W c x h
  unfold ck at h
  split at h
  · rename_i f p gg p2 y pos2 pos
    obtain ⟨h1, h⟩ := and_ h
    obtain ⟨h2, h⟩ := and_ h
    obtain ⟨h3, h⟩ := and_ h
    obtain ⟨h4, h⟩ := and_ h
    obtain ⟨h5, h6⟩ := and_ h
    have h1 := of_decide_eq_true h1
    have h2 := of_decide_eq_true h2
    subst h1 h2
    obtain ⟨g1, _⟩ := glB_ h3
    obtain ⟨g2, _⟩ := glB_ h4
    refine (pe_listRg c.calm g1 (c.fa.bf _ (by decide)) (prg_1 g2 (c.fa.bf _ (by decide)) (ha X W c _ h6) (sEach _ _ _ h5)) rfl).imp fun σ H Q ⟨F, φ, ρ, hh, hr, er, g⟩ => ?_
    rw [q_lrg] at g
    refine ⟨F, φ, ρ, hh, hr, er, G.bind g fun d h1 φ1 H1 v e1 t1 hr1 rx g1 => ?_⟩
    split at g1
    · rename_i j
      split at g1
      · rename_i sj
        cases rx
        obtain ⟨l1, l2⟩ := mkL_ok hr1 (rgV_rels j) g1
        have ls : sizeLine = 16777216 := sizeLine_eq
        rw [rgV_length] at l1
        exact ⟨j, rfl, ⟨by decide, by decide, (small_ sj).1, (small_ sj).2, by omega⟩, l2⟩
      · exact (G.no_ g1).elim
    · exact (G.no_ g1).elim
  · cases h
end
end MV

set_option maxRecDepth 100000
set_option maxHeartbeats 1000000
/-! VK: comprehensions; all expressions. -/
namespace MV
open PySem PySem.Spec PyProof.Rows L2
/-- the turns of a comprehension, told from the end -/
inductive CT (f : D → HH → R (Option D)) (I : Itr) : Nat → Nat → HH → List D → HH → Prop where
  | stop {m i : Nat} {h : HH} : itGet I i h = some none → CT f I m i h [] h
  | take {m i : Nat} {h h1 h2 : HH} {x d : D} {l : List D} : itGet I i h = some (some x) → f x h = .ok (some d) h1 → CT f I m (i + 1) h1 l h2 → CT f I (m + 1) i h (d :: l) h2
  | skip {m i : Nat} {h h1 h2 : HH} {x : D} {l : List D} : itGet I i h = some (some x) → f x h = .ok none h1 → CT f I m (i + 1) h1 l h2 → CT f I (m + 1) i h l h2
theorem bind_ok {α β : Type} {r : R α} {f : α → HH → R β} {b : β} {h : HH} (e : r.bind f = .ok b h) : ∃ a h1, r = .ok a h1 ∧ f a h1 = .ok b h := by
  cases r with
  | ok a h1 => exact ⟨a, h1, rfl, e⟩
  | exc _ _ _ _ => cases e
  | no => cases e
theorem pur_ok {α : Type} {r : R α} {a : α} {h : HH} (e : r.pur = .ok a h) : r = .ok a h := by
  cases r with
  | ok a h1 => exact e
  | exc _ _ _ _ => cases e
  | no => cases e
theorem compL_ct {f : D → HH → R (Option D)} {L : List D} : ∀ {rest : List D} {i : Nat} {h h2 : HH} {l : List D}, L.drop i = rest → compL f rest h = .ok l h2 → CT f (.items L) rest.length i h l h2
  | [], i, h, h2, l, e, q => by
    cases q
    refine .stop ?_
    show some L[i]? = some none
    rw [List.getElem?_eq_none (List.drop_eq_nil_iff.mp e)]
  | x :: r, i, h, h2, l, e, q => by
    have gi : itGet (.items L) i h = some (some x) := by
      show some L[i]? = some (some x)
      have : (L.drop i)[0]? = some x := by rw [e] <;> rfl
      rw [List.getElem?_drop, Nat.add_zero] at this
      rw [this]
    have dr : L.drop (i + 1) = r := by
      rw [← List.drop_drop, e] <;> rfl
    obtain ⟨o, h1, e1, q⟩ := bind_ok (show ((f x h).bind fun o h1 => (compL f r h1).bind fun l h2 => R.ok (match o with
      | some d => d :: l
      | none => l) h2) = .ok l h2 from q)
    obtain ⟨l', h3, e2, q⟩ := bind_ok q
    cases o with
    | some d =>
      cases q
      exact .take gi e1 (compL_ct dr e2)
    | none =>
      cases q
      exact .skip gi e1 (compL_ct dr e2)
theorem compLive_ct {f : D → HH → R (Option D)} {n : Nat} : ∀ {k i : Nat} {h h2 : HH} {l : List D}, compLive f n k i h = .ok l h2 → CT f (.live n) k i h l h2
  | 0, i, h, h2, l, q => by cases q
  | k + 1, i, h, h2, l, q => by
    unfold compLive at q
    split at q
    · rename_i L eL
      split at q
      · rename_i x ex
        have gi : itGet (.live n) i h = some (some x) := by
          unfold itGet
          dsimp only
          rw [eL, ← ex]
        obtain ⟨o, h1, e1, q⟩ := bind_ok q
        obtain ⟨l', h3, e2, q⟩ := bind_ok q
        cases o with
        | some d =>
          cases q
          exact .take gi e1 (compLive_ct e2)
        | none =>
          cases q
          exact .skip gi e1 (compLive_ct e2)
      · rename_i ex
        cases q
        refine .stop ?_
        unfold itGet
        dsimp only
        rw [eL, ← ex]
    · cases q
theorem compI_ct {f : D → HH → R (Option D)} {I : Itr} {h h2 : HH} {l : List D} (q : compI f I h = .ok l h2) : ∃ m, CT f I m 0 h l h2 := by
  cases I with
  | items L => exact ⟨_, compL_ct (L := L) (i := 0) rfl q⟩
  | live n => exact ⟨_, compLive_ct q⟩
section
variable {T : Tb} {L : Lk} {P : Prog} {orc : Orc} {k : Nat}
theorem own_map (N : List Str) : ∀ own : List Nat, (ownOf N own).map (·.2) = own
  | [] => rfl
  | i :: r => congrArg (i :: ·) (own_map N r)
theorem wipe_wipe (σ : L2.St) (ws : List Nat) : L2.wipe (L2.wipe σ ws) ws = L2.wipe σ ws := by
  refine List.ext_getElem? fun j => ?_
  by_cases hj : j ∈ ws
  · by_cases hl : j < σ.length
    · rw [wipe_in hj (by rw [wipe_length]; exact hl), wipe_in hj hl]
    · rw [List.getElem?_eq_none (by rw [wipe_length, wipe_length]; omega), List.getElem?_eq_none (by rw [wipe_length]; omega)]
  · rw [wipe_out hj]
/-- the comprehension's reading -/
theorem lc_read {W : WX} {m : Bool} {own : List Nat} {tg it ifs el : E} {N : List Str} (hs : (tgSlots tg).all (own.contains ·) = true) :
    ∀ σ H Q, rdE L W (ev P orc (.comp m own tg it ifs el)) σ H Q → tLc (rdI L W (itm P orc it)) (rdG L (tgSlots tg) (asg P orc tg)) (rdT L (fun _ _ _ _ => False) (tsts P orc ifs)) (rdE L (fun _ _ _ _ => False) (ev P orc el)) ((ownOf N own).map (·.2)) σ H Q := by
  intro σ H Q ⟨F, φ, ρ, h, hr, er, g⟩
  rw [q_comp] at g
  rw [own_map]
  have hs : ∀ i ∈ tgSlots tg, i ∈ own := fun i hi => by simpa using List.all_eq_true.mp hs i hi
  refine ⟨F, φ, ρ, h, hr, er, G.bind g fun I h1 φ1 H1 J e1 t1 hr1 io g1 => ?_⟩
  intro p hp
  clear g e1
  generalize hf : (fun x h2 => (asg P orc tg x (wipeE ρ own) h2).bind fun ρ2 h3 => (tsts P orc ifs ρ2 h3).bind fun k h4 => match k with
      | true => (ev P orc el ρ2 h4).bind fun d h5 => R.ok (some d) h5
      | false => R.ok none h4) = f at g1
  cases ec : compI f I h1 with
  | exc _ _ _ _ =>
    rw [ec] at g1
    exact (G.no_ g1).elim
  | no =>
    rw [ec] at g1
    exact (G.no_ g1).elim
  | ok l h2 =>
    rw [ec] at g1
    have g2 : GE L F φ1 H1 (mkL m l h2) Q (fun c d H' => W c d σ H') := g1
    clear g1
    obtain ⟨m0, ct0⟩ := compI_ct ec
    have hlen : l.length ≤ sizeLine := by
      unfold mkL at g2
      cases hb : Nat.ble l.length line with
      | true => exact ble_line hb
      | false =>
        rw [hb] at g2
        exact (G.no_ g2).elim
    have nb : ¬ F.bo p := hr1.nB hp
    have nn : ¬ F.no p := hr1.nF hp
    have z1 : ∀ a o, H1 a = some o → (F.plus p).no a → F.no a := fun a o q z => z.elim id fun z => by
      rw [z, hp] at q
      cases q
    have er1 : ER L (F.plus p) φ1 H1 ρ σ := by
      have e0 := er.mono t1
      exact ⟨e0.len, fun i d q => by
        obtain ⟨v, a, b⟩ := e0.at_ i d q
        exact ⟨v, a, b.frame z1 fun _ z => z⟩⟩
    refine ⟨fun i n H' => ∃ (φ' : List Addr) (h' : HH) (acc : List V) (ds rest : List D), XT φ1 H1 φ' H' ∧ HR L (F.plus p) φ' h' H' ∧ H' p = some (.lst acc) ∧ Rels L (F.plus p) φ' H' ds acc ∧ CT f I n i h' rest h2 ∧ l = ds ++ rest, ⟨m0, φ1, h1, [], [], l, .fresh hp, hr1.guard hp, upd_same, .nil, ct0, rfl⟩, ?_⟩
    rintro i n H' ⟨φ', h', acc, ds, rest, t', hr', hD, rs, ct, el'⟩
    obtain ⟨io1, io2⟩ := io (F.plus p) z1 (fun _ z => z) i φ' H' h' t' hr'
    -- a turn, whatever it gives
    have turn : ∀ {x : D} {o : Option D} {h3 : HH} {n' : Nat} {ds' : List D}, itGet I i h' = some (some x) → f x h' = .ok o h3 → CT f I n' (i + 1) h3 ds' h2 → l = ds ++ (match o with
        | some d => d :: ds'
        | none => ds') → J.go i H' ∧ ∃ Nx : Hp → Prop, (∀ H'', Nx H'' → ∃ m', m' < n' + 1 ∧ ∃ (φ' : List Addr) (h' : HH) (acc : List V) (ds rest : List D), XT φ1 H1 φ' H'' ∧ HR L (F.plus p) φ' h' H'' ∧ H'' p = some (.lst acc) ∧ Rels L (F.plus p) φ' H'' ds acc ∧ CT f I m' (i + 1) h' rest h2 ∧ l = ds ++ rest) ∧
        ∀ x H'', J.yld i H' x H'' → rdG L (tgSlots tg) (asg P orc tg) x (L2.wipe σ own) H'' fun σ2 H2 => L2.wipe σ2 own = L2.wipe σ own ∧ rdT L (fun _ _ _ _ => False) (tsts P orc ifs) σ2 H2 fun b H3 =>
          if b = true then rdE L (fun _ _ _ _ => False) (ev P orc el) σ2 H3 fun y H4 => ∃ acc, H4 p = some (.lst acc) ∧ acc.length < sizeLine ∧ Nx (upd H4 p (.lst (acc ++ [y]))) else Nx H3 := fun {x o h3 n' ds'} gi ef ct' el' => by
      obtain ⟨go, yl⟩ := io1 x gi
      refine ⟨go, fun H'' => ∃ (φ' : List Addr) (h' : HH) (acc : List V) (ds rest : List D), XT φ1 H1 φ' H'' ∧ HR L (F.plus p) φ' h' H'' ∧ H'' p = some (.lst acc) ∧ Rels L (F.plus p) φ' H'' ds acc ∧ CT f I n' (i + 1) h' rest h2 ∧ l = ds ++ rest, fun H'' q => ⟨n', Nat.lt_succ_self _, q⟩, fun v H'' y => ?_⟩
      obtain ⟨ty, hry, rx⟩ := yl v H'' y
      have np : p ∉ φ' := fun m => hr'.own p m (.inr rfl)
      have hDy := ty.keep p _ hD (fun _ z => (nomatch z)) np
      have ery : ER L (F.plus p) φ' H'' (wipeE ρ own) (L2.wipe σ own) := (er1.mono (t'.trans ty)).wipe own
      rw [← hf] at ef
      obtain ⟨ρ2, h4, ea, ef⟩ := bind_ok ef
      obtain ⟨b, h5, et, ef⟩ := bind_ok ef
      refine ⟨F.plus p, φ', wipeE ρ own, h', x, hry, ery, rx, ?_⟩
      rw [ea]
      intro φ2 H2 σ2 t2 hr2 er2 s2
      refine ⟨(s2.wipe hs).trans (wipe_wipe σ own), F.plus p, φ2, ρ2, h4, hr2, er2, ?_⟩
      rw [et]
      intro φ3 H3 b' t3 hr3 eb
      subst eb
      have np2 : p ∉ φ2 := fun m => hr2.own p m (.inr rfl)
      have hD3 := t3.keep p _ (t2.keep p _ hDy (fun _ z => (nomatch z)) np) (fun _ z => (nomatch z)) np2
      have rs3 := ((rs.mono ty).mono t2).mono t3
      have t13 := ((t'.trans ty).trans t2).trans t3
      cases b with
      | false =>
        rw [if_neg Bool.false_ne_true]
        cases ef
        exact ⟨φ3, h3, acc, ds, ds', t13, hr3, hD3, rs3, ct', el'⟩
      | true =>
        rw [if_pos rfl]
        obtain ⟨d, h6, ee, ef⟩ := bind_ok ef
        cases ef
        refine ⟨F.plus p, φ3, ρ2, h5, hr3, er2.mono t3, ?_⟩
        rw [ee]
        intro φ4 H4 w t4 hr4 rw4
        have np3 : p ∉ φ3 := fun m => hr3.own p m (.inr rfl)
        have hD4 := t4.keep p _ hD3 (fun _ z => (nomatch z)) np3
        have el' : l = ds ++ d :: ds' := el'
        refine ⟨acc, hD4, ?_, φ4, h3, acc ++ [w], ds ++ [d], ds', (t13.trans t4).poke hp, HR.poke (F := F.plus p) hD4 (Or.inr rfl) nb hr4, upd_same, ?_, ct', by rw [el', List.append_assoc] <;> rfl⟩
        · have := rs.length
          have q := congrArg List.length el'
          rw [List.length_append, List.length_cons] at q
          omega
        · exact Rels.poke (F := F.plus p) hD4 (Or.inr rfl) nb ((rs3.mono t4).snoc rw4)
    cases ct with
    | stop e =>
      refine .inl ⟨io2 e, ?_⟩
      rw [List.append_nil] at el'
      subst el'
      have np : p ∉ φ' := fun m => hr'.own p m (.inr rfl)
      unfold mkL at g2
      cases hb : Nat.ble l.length line with
      | false =>
        rw [hb] at g2
        exact (G.no_ g2).elim
      | true =>
        rw [hb] at g2
        cases m with
        | false =>
          refine G.ok' g2 t' (hr'.unguard hr1.bn) (.lst hD np nn (Rels.frame (F := F.plus p) (F' := F) (fun _ _ _ z => Or.inl z) (fun _ z => z) rs))
        | true =>
          have tb : XT φ1 H1 (φ' ++ [p]) H' := by
            obtain ⟨more, e1, e2⟩ := t'.pre
            refine ⟨⟨more ++ [p], by rw [e1, List.append_assoc], fun q hq => ?_⟩, t'.keep, t'.tup, t'.frz, t'.trk⟩
            rcases List.mem_append.mp hq with z | z
            · exact e2 q z
            · rw [List.mem_singleton.mp z]
              exact hp
          refine G.ok' g2 tb (hr'.take hr1.bn nb nn hD rs) (.ref ?_)
          rw [← hr'.len, List.getElem?_append_right (Nat.le_refl _), Nat.sub_self]
          rfl
    | take e1 e2 e3 => exact .inr (turn e1 e2 e3 el')
    | skip e1 e2 e3 => exact .inr (turn e1 e2 e3 el')
theorem CX1.blk {X : Cx} {W : WX} (c : CX1 T L P orc k X W) (s : Shared) (H : Hp) (scope : Scope) (cenv : PySem.Env) (fp : List Addr) : CX1 T.off L P orc k (X.blk s H scope cenv fp) (fun _ _ _ _ => False) :=
  ⟨c.fa.off, c.calm, c.nd, c.room, LamX.takes0, fun z => (nomatch (show false = true from z))⟩
/-- the four things that pe_lc asks -/
theorem lc_parts {X : Cx} {W : WX} (c : CX1 T L P orc k X W) {own : List Nat} {tg it ifs : E} {t i : Expr} {cs : List Expr} {scope : Scope} {last : Bool} (ht : TgOk T.off L P orc k tg) (hi : ItEx T L P orc k it) (hf : FsOk T.off L P orc k ifs)
    (h : (blkC X.N X.env.scope scope (ownOf X.N own) && (sdB i && ((tgSlots tg).all (own.contains ·) && (ckG T.off X.N tg (fun x => scope.names.lookup x == some .cell) (relS scope X.env.scope) t && (ckI T X.N it t X.env.scope i && (ckF T.off X.N ifs (relS scope X.env.scope) cs && last)))))) = true) :
    PI X t i (rdI L W (itm P orc it)) ∧ BlkOk X.N X.env.scope scope (ownOf X.N own) ∧
    (∀ (s : Shared) (H : Hp) (C : Addr) (cl : List (Str × Addr)) (fp : List Addr), PG (X.blk s H scope (compEnvC scope cl C X.env) fp) t (rdG L (tgSlots tg) (asg P orc tg))) ∧
    (∀ (s : Shared) (H : Hp) (C : Addr) (cl : List (Str × Addr)) (fp : List Addr), PTs (X.blk s H scope (compEnvC scope cl C X.env) fp) cs (rdT L (fun _ _ _ _ => False) (tsts P orc ifs))) ∧
    (∀ x, foldedSetIterable i X.env x = pure x) ∧ (tgSlots tg).all (own.contains ·) = true ∧ last = true := by
  obtain ⟨h1, h⟩ := and_ h
  obtain ⟨h2, h⟩ := and_ h
  obtain ⟨h3, h⟩ := and_ h
  obtain ⟨h4, h⟩ := and_ h
  obtain ⟨h5, h⟩ := and_ h
  obtain ⟨h6, h7⟩ := and_ h
  exact ⟨hi X W c _ _ h5, blkOk_by h1, fun s H C cl fp => ht _ _ (c.blk s H scope (compEnvC scope cl C X.env) fp) t h4, fun s H C cl fp => hf _ _ (c.blk s H scope (compEnvC scope cl C X.env) fp) cs h6,
    sdIt _ _ h2, h3, h7⟩
def elB (T : Tb) (N : List Str) (own : List Nat) (el : E) (sc : Scope) (elt : Expr) : Bool := match el with
  | .ltry w a => (match elt with
    | .Call (.Name f _) [x] [] _ => decide (f = tryN w) && ((!w || T.tw) && (glB sc f && (T.lq && (own.all (fun i => !T.lc.contains i) && (nsB x && ck T.off N a sc x)))))
    | _ => false)
  | el => ck T.off N el sc elt
/-- the element: plain, or the law's own try on the block's variable -/
theorem lc_elt {X : Cx} {W : WX} (c : CX1 T L P orc k X W) {own : List Nat} {el : E} {elt : Expr} {scope : Scope} (he : EvOk T.off L P orc k el) (hla : ∀ w a, el = .ltry w a → EvOk T.off L P orc k a) (h : elB T X.N own el (relS scope X.env.scope) elt = true) :
    ∀ (pins : List (Addr × Obj)) (σ : L2.St) (s : Shared) (H : Hp) (C : Addr) (cl : List (Str × Addr)) (fp : List Addr), Inv X pins σ H s → (∀ b ∈ fp, FpOk X pins H b ∧ b < s.heap.objs.size) →
      PE (X.blk s H scope (compEnvC scope cl C X.env) fp) elt (fun σ2 H3 Q => L2.wipe σ2 ((ownOf X.N own).map (·.2)) = L2.wipe σ ((ownOf X.N own).map (·.2)) ∧ rdE L (fun _ _ _ _ => False) (ev P orc el) σ2 H3 Q) := by
  intro pins σ s H C cl fp I hfp
  have cb := c.blk s H scope (compEnvC scope cl C X.env) fp
  unfold elB at h
  split at h
  · rename_i wd a
    split at h
    · rename_i f p1 x p2
      obtain ⟨h1, h⟩ := and_ h
      obtain ⟨hw0, h⟩ := and_ h
      obtain ⟨h2, h⟩ := and_ h
      obtain ⟨h3, h⟩ := and_ h
      obtain ⟨h4, h⟩ := and_ h
      obtain ⟨h5, h6⟩ := and_ h
      have h1 := of_decide_eq_true h1
      subst h1
      have la := c.lam h3
      obtain ⟨g, m1, m2, m3⟩ := c.fa.ltry wd X (X.blk s H scope (compEnvC scope cl C X.env) fp) (fun _ _ _ _ => False) hw0 la.tr ⟨T, rfl, la⟩ cb.same c.calm rfl rfl rfl rfl rfl cb.tk
      refine pe_ltry (C := fun σ2 => L2.wipe σ2 ((ownOf X.N own).map (·.2)) = L2.wipe σ ((ownOf X.N own).map (·.2))) (glB_ h2).1 m1 m2 h5 la m3 (hla wd a rfl _ _ cb _ h6) fun pins2 σ2 H2 s2 I2 hw => ⟨pins, σ, H, s, I, ⟨_, fp, fun b hb x c e z => ?_, I2.base⟩, fun i hi => ?_⟩
      · exact (hfp b hb).1.2.2.2.2.1 x c e z
      · rw [own_map] at hw
        have ni : i ∉ own := fun z => by
          have := List.all_eq_true.mp h4 i z
          simp [hi] at this
        have e : (L2.wipe σ2 own)[i]? = (L2.wipe σ own)[i]? := by rw [hw]
        rw [wipe_out ni, wipe_out ni] at e
        exact e.symm
    · cases h
  · refine (he _ _ cb _ h).imp fun σ2 H3 Q q => q.2
theorem ev_comp {m : Bool} {own : List Nat} {tg it ifs el : E} (ht : TgOk T.off L P orc k tg) (hi : ItEx T L P orc k it) (hf : FsOk T.off L P orc k ifs) (he : EvOk T.off L P orc k el) (hla : ∀ w a, el = .ltry w a → EvOk T.off L P orc k a) : EvOk T L P orc k (.comp m own tg it ifs el) := by
  intro X W c x h
  unfold ck at h
  split at h
  · obtain ⟨p1, p2, p3, p4, p6, p7, p8⟩ := lc_parts c ht hi hf h
    exact (pe_lcx c.calm c.nd p1 p2 p3 p4 (lc_elt c he hla p8) p6).imp fun σ H Q q => tlc_keep (lc_read p7 σ H Q q)
  · cases h
/-! ### two clauses -/
/-- the iterator of a written value -/
inductive ItV (K : PySem.W.Frag) (L : Lk) (F : Fm) (φ : List Addr) (H : Hp) : It → List D → Prop where
  | lst {d : D} {l : List D} {a : Addr} : (d = .lst l ∨ d = .bor l) → Rel L F φ H d (.ref a) → ItV K L F φ H (Itl K a) l
  | tup {d : D} {l : List D} {a : Addr} : (d = .tup l ∨ d = .wtup l) → Rel L F φ H d (.ref a) → ItV K L F φ H (Itt K a) l
theorem ItV.mono {K : PySem.W.Frag} {F : Fm} {φ φ' : List Addr} {H H' : Hp} {J : It} {l : List D} (t : XT φ H φ' H') (i : ItV K L F φ H J l) : ItV K L F φ' H' J l := by
  cases i with
  | lst e r => exact .lst e (r.mono t)
  | tup e r => exact .tup e (r.mono t)
theorem ItV.frame {K : PySem.W.Frag} {F F' : Fm} {φ : List Addr} {H : Hp} {J : It} {l : List D} (h1 : ∀ a o, H a = some o → F'.no a → F.no a) (h2 : ∀ a, F.bo a → F'.bo a) (i : ItV K L F φ H J l) : ItV K L F' φ H J l := by
  cases i with
  | lst e r => exact .lst e (r.frame h1 h2)
  | tup e r => exact .tup e (r.frame h1 h2)
theorem ItV.poke {K : PySem.W.Frag} {F : Fm} {φ : List Addr} {H : Hp} {J : It} {l : List D} {p : Addr} {xs ys : List V} (hp : H p = some (.lst xs)) (np : F.no p) (nb : ¬ F.bo p) (i : ItV K L F φ H J l) : ItV K L F φ (upd H p (.lst ys)) J l := by
  cases i with
  | lst e r => exact .lst e (r.poke hp np nb)
  | tup e r => exact .tup e (r.poke hp np nb)
theorem ItV.get {K : PySem.W.Frag} {F : Fm} {φ : List Addr} {H : Hp} {h : HH} {J : It} {l : List D} (hK : K = L.K) (x : HR L F φ h H) (i : ItV K L F φ H J l) (n : Nat) : (∀ d, l[n]? = some d → J.go n H ∧ ∀ v H'', J.yld n H v H'' → H'' = H ∧ Rel L F φ H d v) ∧ (l[n]? = none → J.stop n H) := by
  subst hK
  cases i with
  | @lst d _ a e r =>
    have e1 : listOf d h = some l := by rcases e with z | z <;> (subst z; rfl)
    obtain ⟨a', vs, ev, q, rs⟩ := listOf_ok x r e1
    cases ev
    refine ⟨fun d e => ?_, fun e => ?_⟩
    · obtain ⟨v, ev, rv⟩ := rs.get e
      refine ⟨⟨vs, v, q, ev⟩, fun x H'' y => ?_⟩
      obtain ⟨y1, y2⟩ := y
      have := y2 vs q
      rw [ev] at this
      cases this
      exact ⟨y1, rv⟩
    · refine ⟨vs, q, ?_⟩
      rw [← rs.length]
      exact List.getElem?_eq_none_iff.mp e
  | @tup d _ a e r =>
    obtain ⟨vs, q, rs⟩ : ∃ vs, SqT L.K H a vs ∧ Rels L F φ H l vs := by
      rcases e with z | z <;> subst z
      · cases r with
        | tup q r => exact ⟨_, q, r⟩
      · cases r with
        | wtup e1 e2 e3 e4 e5 e6 r => exact ⟨_, .inr ⟨_, _, _, e1, e2, e4, e5, e6⟩, r⟩
    refine ⟨fun d e => ?_, fun e => ?_⟩
    · obtain ⟨v, ev, rv⟩ := rs.get e
      refine ⟨⟨vs, v, q, ev⟩, fun x H'' y => ?_⟩
      obtain ⟨y1, y2⟩ := y
      have := y2 vs q
      rw [ev] at this
      cases this
      exact ⟨y1, rv⟩
    · refine ⟨vs, q, ?_⟩
      rw [← rs.length]
      exact List.getElem?_eq_none_iff.mp e
def rdV (K : PySem.W.Frag) (L : Lk) (W : WX) (f : Env → HH → R D) : TI := fun σ H R => ∃ F φ ρ h, HR L F φ h H ∧ ER L F φ H ρ σ ∧ G L F φ H (fun φ H l J => ItV K L F φ H J l) (itL (f ρ h)) R fun c d H' => W c d σ H'
theorem pi_val {e : E} {X : Cx} {W : WX} (he : EvOk T L P orc k e) (c : CX1 T L P orc k X W) (tg x : Expr) (h : ck T X.N e X.env.scope x = true) : PI X tg x (rdV X.K L W (ev P orc e)) := by
  have p := he X W c x h
  refine ((pi_list (tg := tg) p).or (pi_tup p)).imp fun σ H RR ⟨F, φ, ρ, hh, hr, er, g⟩ => ?_
  cases ee : ev P orc e ρ hh with
  | ok d h1 =>
    have rdE' : ∀ {QQ : VK}, (∀ φ1 H1 v, XT φ H φ1 H1 → HR L F φ1 h1 H1 → Rel L F φ1 H1 d v → QQ v H1) → rdE L W (ev P orc e) σ H QQ := fun {QQ} q => ⟨F, φ, ρ, hh, hr, er, by
      rw [ee]
      exact fun φ1 H1 v t1 hr1 rx => q φ1 H1 v t1 hr1 rx⟩
    rw [ee] at g
    have g : G L F φ H (fun φ H l J => ItV X.K L F φ H J l) (match itV d with
      | some l => R.ok l h1
      | none => .no) RR (fun c d H' => W c d σ H') := g
    have list : ∀ {l : List D}, (d = .lst l ∨ d = .bor l) → rdE L W (ev P orc e) σ H (fun x H1 => ∃ a, x = .ref a ∧ (∃ xs, SqL X.K H1 a xs) ∧ RR (Itl X.K a) H1) := fun {l} ed => rdE' fun φ1 H1 v t1 hr1 rx => by
      have e1 : listOf d h1 = some l := by rcases ed with z | z <;> (subst z; rfl)
      have e2 : itV d = some l := by rcases ed with z | z <;> (subst z; rfl)
      rw [e2] at g
      obtain ⟨a, vs, ev, q, rs⟩ := listOf_ok hr1 rx e1
      subst ev
      exact ⟨a, rfl, ⟨vs, sqK c.fa.hK q⟩, g φ1 H1 _ t1 hr1 (.lst ed rx)⟩
    have tupl : ∀ {l : List D}, (d = .tup l ∨ d = .wtup l) → rdE L W (ev P orc e) σ H (fun x H1 => ∃ a, x = .ref a ∧ (∃ xs, SqT X.K H1 a xs) ∧ RR (Itt X.K a) H1) := fun {l} ed => rdE' fun φ1 H1 v t1 hr1 rx => by
      have e2 : itV d = some l := by rcases ed with z | z <;> (subst z; rfl)
      rw [e2] at g
      obtain ⟨a, vs, ev, q⟩ : ∃ a vs, v = .ref a ∧ SqT X.K H1 a vs := by
        rw [c.fa.hK]
        rcases ed with z | z <;> subst z
        · cases rx with
          | tup q r => exact ⟨_, _, rfl, q⟩
        · cases rx with
          | wtup e1 e2 e3 e4 e5 e6 r => exact ⟨_, _, rfl, .inr ⟨_, _, _, e1, e2, e4, e5, e6⟩⟩
      subst ev
      exact ⟨a, rfl, ⟨vs, q⟩, g φ1 H1 _ t1 hr1 (.tup ed rx)⟩
    cases d with
    | tup l => exact .inr (tupl (.inl rfl))
    | wtup l => exact .inr (tupl (.inr rfl))
    | lst l => exact .inl (list (.inl rfl))
    | bor l => exact .inl (list (.inr rfl))
    | _ => exact (G.no_ g).elim
  | exc _ _ _ _ =>
    refine .inl ⟨F, φ, ρ, hh, hr, er, ?_⟩
    rw [ee] at g ⊢
    exact g
  | no =>
    rw [ee] at g
    exact (G.no_ g).elim
/-- the turns of the first clause, told from the end -/
inductive CJ (f : D → HH → R (List D)) (L : List D) : Nat → Nat → HH → List D → HH → Prop where
  | stop {m i : Nat} {h : HH} : L[i]? = none → CJ f L m i h [] h
  | step {m i : Nat} {h h1 h2 : HH} {x : D} {k l : List D} : L[i]? = some x → f x h = .ok k h1 → CJ f L m (i + 1) h1 l h2 → CJ f L (m + 1) i h (k ++ l) h2
theorem compJ_cj {f : D → HH → R (List D)} {L : List D} : ∀ {rest : List D} {i : Nat} {h h2 : HH} {l : List D}, L.drop i = rest → compJ f rest h = .ok l h2 → CJ f L rest.length i h l h2
  | [], i, h, h2, l, e, q => by
    cases q
    exact .stop (List.getElem?_eq_none (List.drop_eq_nil_iff.mp e))
  | x :: r, i, h, h2, l, e, q => by
    have gi : L[i]? = some x := by
      have : (L.drop i)[0]? = some x := by rw [e] <;> rfl
      rwa [List.getElem?_drop, Nat.add_zero] at this
    have dr : L.drop (i + 1) = r := by
      rw [← List.drop_drop, e] <;> rfl
    obtain ⟨o, h1, e1, q⟩ := bind_ok (show ((f x h).bind fun k h1 => (compJ f r h1).bind fun l h2 => R.ok (k ++ l) h2) = .ok l h2 from q)
    obtain ⟨l', h3, e2, q⟩ := bind_ok q
    cases q
    exact .step gi e1 (compJ_cj dr e2)
theorem ER.poke {F : Fm} {φ : List Addr} {H : Hp} {ρ : Env} {σ : L2.St} {p : Addr} {xs ys : List V} (hp : H p = some (.lst xs)) (np : F.no p) (nb : ¬ F.bo p) (e : ER L F φ H ρ σ) : ER L F φ (upd H p (.lst ys)) ρ σ := ⟨e.len, fun i d q => by
  obtain ⟨v, a, b⟩ := e.at_ i d q
  exact ⟨v, a, b.poke hp np nb⟩⟩
theorem lc2_read {W : WX} {K : PySem.W.Frag} (hK : K = L.K) {m : Bool} {own own2 : List Nat} {tg it tg2 it2 el : E} {N : List Str} (hs : (tgSlots tg).all (own.contains ·) = true) (hs2 : (tgSlots tg2).all (own2.contains ·) = true) :
    ∀ σ H Q, rdE L W (ev P orc (.comp2 m own own2 tg it tg2 it2 el)) σ H Q → tLc2 (rdV K L W (ev P orc it)) (rdG L (tgSlots tg) (asg P orc tg)) tYes (rdV K L (fun _ _ _ _ => False) (ev P orc it2)) (rdG L (tgSlots tg2) (asg P orc tg2)) tYes (rdE L (fun _ _ _ _ => False) (ev P orc el)) ((ownOf N own).map (·.2)) own2 σ H Q := by
  intro σ H Q ⟨F, φ, ρ, h, hr, er, g⟩
  rw [q_comp2] at g
  rw [own_map]
  have hs : ∀ i ∈ tgSlots tg, i ∈ own := fun i hi => by simpa using List.all_eq_true.mp hs i hi
  have hs2 : ∀ i ∈ tgSlots tg2, i ∈ own2 := fun i hi => by simpa using List.all_eq_true.mp hs2 i hi
  refine ⟨F, φ, ρ, h, hr, er, G.bind g fun I h1 φ1 H1 J e1 t1 hr1 io g1 => ?_⟩
  intro p hp
  clear g e1
  generalize hf : (fun x h2 => (asg P orc tg x (wipeE ρ own) h2).bind fun ρ2 h3 => (itL (ev P orc it2 ρ2 h3)).bind fun l2 h4 => compL (fun y h5 => (asg P orc tg2 y (wipeE ρ2 own2) h5).bind fun ρ3 h6 => (ev P orc el ρ3 h6).bind fun d h7 => R.ok (some d) h7) l2 h4) = f at g1
  cases ec : compJ f I h1 with
  | exc _ _ _ _ =>
    rw [ec] at g1
    exact (G.no_ g1).elim
  | no =>
    rw [ec] at g1
    exact (G.no_ g1).elim
  | ok l h2 =>
    rw [ec] at g1
    have g2 : GE L F φ1 H1 (mkL m l h2) Q (fun c d H' => W c d σ H') := g1
    clear g1
    have ct0 := compJ_cj (L := I) (i := 0) rfl ec
    have hlen : l.length ≤ sizeLine := by
      unfold mkL at g2
      cases hb : Nat.ble l.length line with
      | true => exact ble_line hb
      | false =>
        rw [hb] at g2
        exact (G.no_ g2).elim
    have nb : ¬ F.bo p := hr1.nB hp
    have nn : ¬ F.no p := hr1.nF hp
    have z1 : ∀ a o, H1 a = some o → (F.plus p).no a → F.no a := fun a o q z => z.elim id fun z => by
      rw [z, hp] at q
      cases q
    have er1 : ER L (F.plus p) φ1 H1 ρ σ := by
      have e0 := er.mono t1
      exact ⟨e0.len, fun i d q => by
        obtain ⟨v, a, b⟩ := e0.at_ i d q
        exact ⟨v, a, b.frame z1 fun _ z => z⟩⟩
    have io1 : ItV K L (F.plus p) φ1 H1 J I := io.frame z1 fun _ z => z
    refine ⟨fun i n H' => ∃ (φ' : List Addr) (h' : HH) (acc : List V) (ds rest : List D), XT φ1 H1 φ' H' ∧ HR L (F.plus p) φ' h' H' ∧ H' p = some (.lst acc) ∧ Rels L (F.plus p) φ' H' ds acc ∧ CJ f I n i h' rest h2 ∧ l = ds ++ rest, ⟨_, φ1, h1, [], [], l, .fresh hp, hr1.guard hp, upd_same, .nil, ct0, rfl⟩, ?_⟩
    rintro i n H' ⟨φ', h', acc, ds, rest, t', hr', hD, rs, ct, el'⟩
    obtain ⟨ig, is⟩ := (io1.mono t').get hK hr' i
    cases ct with
    | stop e =>
      refine .inl ⟨is e, ?_⟩
      rw [List.append_nil] at el'
      subst el'
      have np : p ∉ φ' := fun m => hr'.own p m (.inr rfl)
      unfold mkL at g2
      cases hb : Nat.ble l.length line with
      | false =>
        rw [hb] at g2
        exact (G.no_ g2).elim
      | true =>
        rw [hb] at g2
        cases m with
        | false =>
          refine G.ok' g2 t' (hr'.unguard hr1.bn) (.lst hD np nn (Rels.frame (F := F.plus p) (F' := F) (fun _ _ _ z => Or.inl z) (fun _ z => z) rs))
        | true =>
          have tb : XT φ1 H1 (φ' ++ [p]) H' := by
            obtain ⟨more, e1, e2⟩ := t'.pre
            refine ⟨⟨more ++ [p], by rw [e1, List.append_assoc], fun q hq => ?_⟩, t'.keep, t'.tup, t'.frz, t'.trk⟩
            rcases List.mem_append.mp hq with z | z
            · exact e2 q z
            · rw [List.mem_singleton.mp z]
              exact hp
          refine G.ok' g2 tb (hr'.take hr1.bn nb nn hD rs) (.ref ?_)
          rw [← hr'.len, List.getElem?_append_right (Nat.le_refl _), Nat.sub_self]
          rfl
    | @step n' _ _ h3 _ x kk l' e1 e2 e3 =>
      refine .inr ?_
      obtain ⟨go, yl⟩ := ig x e1
      refine ⟨go, fun H'' => ∃ (φ' : List Addr) (h' : HH) (acc : List V) (ds rest : List D), XT φ1 H1 φ' H'' ∧ HR L (F.plus p) φ' h' H'' ∧ H'' p = some (.lst acc) ∧ Rels L (F.plus p) φ' H'' ds acc ∧ CJ f I n' (i + 1) h' rest h2 ∧ l = ds ++ rest, fun H'' q => ⟨n', Nat.lt_succ_self _, q⟩, fun v H'' y => ?_⟩
      obtain ⟨eH, rx⟩ := yl v H'' y
      subst eH
      have np : p ∉ φ' := fun m => hr'.own p m (.inr rfl)
      have ery : ER L (F.plus p) φ' H'' (wipeE ρ own) (L2.wipe σ own) := (er1.mono t').wipe own
      rw [← hf] at e2
      obtain ⟨ρ2, h4, ea, e2⟩ := bind_ok e2
      obtain ⟨l2, h5, ei, e2⟩ := bind_ok e2
      refine ⟨F.plus p, φ', wipeE ρ own, h', x, hr', ery, rx, ?_⟩
      rw [ea]
      intro φ2 H2 σ2 t2 hr2 er2 s2
      refine ⟨(s2.wipe hs).trans (wipe_wipe σ own), ?_⟩
      simp only [tYes, if_true]
      refine ⟨F.plus p, φ2, ρ2, h4, hr2, er2, ?_⟩
      rw [ei]
      intro φ3 H3 J1 t3 hr3 jo
      have np2 : p ∉ φ2 := fun m => hr2.own p m (.inr rfl)
      have hD3 := t3.keep p _ (t2.keep p _ hD (fun _ z => (nomatch z)) np) (fun _ z => (nomatch z)) np2
      have rs3 := (rs.mono t2).mono t3
      have t13 := (t'.trans t2).trans t3
      generalize hfi : (fun y h5 => (asg P orc tg2 y (wipeE ρ2 own2) h5).bind fun ρ3 h6 => (ev P orc el ρ3 h6).bind fun d h7 => R.ok (some d) h7) = fi at e2
      have ctI := compL_ct (L := l2) (i := 0) rfl e2
      refine ⟨fun j q H' => ∃ (φ' : List Addr) (h' : HH) (acc : List V) (ds rest : List D), XT φ1 H1 φ' H' ∧ HR L (F.plus p) φ' h' H' ∧ H' p = some (.lst acc) ∧ Rels L (F.plus p) φ' H' ds acc ∧ ItV K L (F.plus p) φ' H' J1 l2 ∧ ER L (F.plus p) φ' H' ρ2 σ2 ∧ CT fi (.items l2) q j h' rest h3 ∧ l = ds ++ (rest ++ l'), ⟨_, φ3, h5, acc, ds, kk, t13, hr3, hD3, rs3, jo, er2.mono t3, ctI, el'⟩, ?_⟩
      rintro j q H5 ⟨φ5, h5', acc5, ds5, rest5, t5, hr5, hD5, rs5, jo5, er5, ctI5, el5⟩
      obtain ⟨jg, js⟩ := jo5.get hK hr5 j
      cases ctI5 with
      | stop e =>
        exact .inl ⟨js (Option.some.inj e), φ5, h3, acc5, ds5, l', t5, hr5, hD5, rs5, e3, el5⟩
      | @skip q' _ _ h6 _ y r6 g1 g2 g3 =>
        rw [← hfi] at g2
        obtain ⟨ρ3, h7, _, g2⟩ := bind_ok g2
        obtain ⟨d, h8, _, g2⟩ := bind_ok g2
        cases g2
      | @take q' _ _ h6 _ y d r6 g1 g2 g3 =>
        refine .inr ?_
        obtain ⟨go1, yl1⟩ := jg y (Option.some.inj g1)
        refine ⟨go1, fun H'' => ∃ (φ' : List Addr) (h' : HH) (acc : List V) (ds rest : List D), XT φ1 H1 φ' H'' ∧ HR L (F.plus p) φ' h' H'' ∧ H'' p = some (.lst acc) ∧ Rels L (F.plus p) φ' H'' ds acc ∧ ItV K L (F.plus p) φ' H'' J1 l2 ∧ ER L (F.plus p) φ' H'' ρ2 σ2 ∧ CT fi (.items l2) q' (j + 1) h' rest h3 ∧ l = ds ++ (rest ++ l'), fun H'' z => ⟨q', Nat.lt_succ_self _, z⟩, fun v2 H6 y6 => ?_⟩
        obtain ⟨eH6, ry⟩ := yl1 v2 H6 y6
        subst eH6
        rw [← hfi] at g2
        obtain ⟨ρ3, h7, ea2, g2⟩ := bind_ok g2
        obtain ⟨d', h8, ee, g2⟩ := bind_ok g2
        cases g2
        refine ⟨F.plus p, φ5, wipeE ρ2 own2, h5', y, hr5, er5.wipe own2, ry, ?_⟩
        rw [ea2]
        intro φ7 H7 σ3 t7 hr7 er7 s7
        refine ⟨(s7.wipe hs2).trans (wipe_wipe σ2 own2), ?_⟩
        simp only [tYes, if_true]
        refine ⟨F.plus p, φ7, ρ3, h7, hr7, er7, ?_⟩
        rw [ee]
        intro φ8 H8 w t8 hr8 rw8
        have np5 : p ∉ φ5 := fun m => hr5.own p m (.inr rfl)
        have np7 : p ∉ φ7 := fun m => hr7.own p m (.inr rfl)
        have hD8 := t8.keep p _ (t7.keep p _ hD5 (fun _ z => (nomatch z)) np5) (fun _ z => (nomatch z)) np7
        have t58 := t7.trans t8
        have np' : (F.plus p).no p := Or.inr rfl
        have nb' : ¬ (F.plus p).bo p := nb
        refine ⟨acc5, hD8, ?_, φ8, h6, acc5 ++ [w], ds5 ++ [d], r6, (t5.trans t58).poke hp, HR.poke (F := F.plus p) hD8 np' nb' hr8, upd_same, Rels.poke (F := F.plus p) hD8 np' nb' ((rs5.mono t58).snoc rw8), (jo5.mono t58).poke hD8 np' nb', ER.poke hD8 np' nb' (er5.mono t58), g3, by rw [el5, List.append_assoc] <;> rfl⟩
        have := rs5.length
        have q := congrArg List.length el5
        rw [List.length_append, List.length_append, List.length_cons] at q
        omega
theorem ev_comp2 {m : Bool} {own own2 : List Nat} {tg it tg2 it2 el : E} (ht : TgOk T.off L P orc k tg) (ht2 : TgOk T.off L P orc k tg2) (hi : EvOk T L P orc k it) (hi2 : EvOk T.off L P orc k it2) (he : EvOk T.off L P orc k el) : EvOk T L P orc k (.comp2 m own own2 tg it tg2 it2 el) := by
  intro X W c x h
  unfold ck at h
  split at h
  · rename_i elt t i t2 i2 scope pos
    obtain ⟨h1, h⟩ := and_ h
    obtain ⟨h2, h⟩ := and_ h
    obtain ⟨h3, h⟩ := and_ h
    obtain ⟨h4, h⟩ := and_ h
    obtain ⟨h5, h⟩ := and_ h
    obtain ⟨h6, h⟩ := and_ h
    obtain ⟨h7, h⟩ := and_ h
    obtain ⟨h8, h⟩ := and_ h
    obtain ⟨h9, h⟩ := and_ h
    obtain ⟨h10, h11⟩ := and_ h
    refine (pe_lc2 (vs1 := own2) c.calm c.nd (pi_val hi c t i h9) (blkOk_by h1) (fun j hj => by
        rw [own_map]
        simpa using List.all_eq_true.mp h4 j hj)
      (fun s H C cl fp => ht _ _ (c.blk s H scope (compEnvC scope cl C X.env) fp) t h7) (fun s H C cl fp => pts_nil)
      (fun s H C cl fp => pi_val hi2 (c.blk s H scope (compEnvC scope cl C X.env) fp) t2 i2 h10)
      (fun s H C cl fp => ht2 _ _ (c.blk s H scope (compEnvC scope cl C X.env) fp) t2 h8) (fun s H C cl fp => pts_nil)
      (fun s H C cl fp => he _ _ (c.blk s H scope (compEnvC scope cl C X.env) fp) elt h11) (sdIt _ _ h2) (fun env => sdIt _ env h3)).imp (lc2_read c.fa.hK h5 h6)
  · cases h
/-! ### all -/
variable (T L P orc k) in
structure AllOk (e : E) : Prop where
  ev : EvOk T L P orc k e
  ts : TsOk T L P orc k e
  tw : TwOk T L P orc k e
  es : EsOk T L P orc k e
  ks : KsOk T L P orc k e
  it : ItEx T L P orc k e
  fs : FsOk T L P orc k e
  tg : TgOk T L P orc k e
  tgs : TgsOk T L P orc k e
  la : ∀ w a, e = .ltry w a → EvOk T.off L P orc k a
/-- no such text -/
theorem no_es {e : E} (h : ∀ N sc xs, cks T N e sc xs = false) : EsOk T L P orc k e := fun X W c xs q => by rw [h] at q; cases q
theorem no_ks {e : E} (h : ∀ N sc xs ns, ckK T N e sc xs ns = false) : KsOk T L P orc k e := fun X W c xs ns q => by rw [h] at q; cases q
theorem no_it {e : E} (h : ∀ N tg sc x, ckI T N e tg sc x = false) : ItEx T L P orc k e := fun X W c tg x q => by rw [h] at q; cases q
theorem no_fs {e : E} (h : ∀ N sc x, ckF T N e sc x = false) : FsOk T L P orc k e := fun X W c x q => by rw [h] at q; cases q
theorem no_tg {e : E} (h : ∀ N fn sc x, ckG T N e fn sc x = false) : TgOk T L P orc k e := fun X W c x q => by rw [h] at q; cases q
theorem no_tgs {e : E} (h : ∀ N fn sc x, ckGs T N e fn sc x = false) : TgsOk T L P orc k e := fun X W c x q => by rw [h] at q; cases q
theorem no_ev {e : E} (h : ∀ N sc x, ck T N e sc x = false) : EvOk T L P orc k e := fun X W c x q => by rw [h] at q; cases q
theorem no_ts {e : E} (h : ∀ N sc x, ck T N e sc x = false) : TsOk T L P orc k e := fun X W c x q => by rw [h] at q; cases q
theorem no_tw {e : E} (h : ∀ N sc op l p, ck T N e sc (.BoolOp op l p) = false) : TwOk T L P orc k e := fun X W c op l p q => by rw [h] at q; cases q
/-- an expression that is tested by its truth -/
theorem all_val {e : E} (he : EvOk T L P orc k e) (hs : ∀ N sc x, ck T N e sc x = true → trB x = true) (hq : ∀ ρ h, tst P orc e ρ h = (ev P orc e ρ h).bind fun x h1 => R.of (truthD x h1) h1)
    (h1 : ∀ N sc xs, cks T N e sc xs = false) (h2 : ∀ N sc xs ns, ckK T N e sc xs ns = false) (h3 : ∀ N tg sc x, ckI T N e tg sc x = false) (h4 : ∀ N sc x, ckF T N e sc x = false) (h5 : ∀ N fn sc x, ckG T N e fn sc x = false) (h6 : ∀ N fn sc x, ckGs T N e fn sc x = false) (hla : ∀ w a, e = .ltry w a → EvOk T.off L P orc k a := by intro _ _ z; cases z) : AllOk T L P orc k e :=
  ⟨he, ts_plain he hs hq, no_tw (fun N sc op l p => by
    cases q : ck T N e sc (.BoolOp op l p) with
    | false => rfl
    | true =>
      have z := hs _ _ _ q
      cases z), no_es h1, no_ks h2, no_it h3, no_fs h4, no_tg h5, no_tgs h6, hla⟩
theorem all_tst {e : E} (he : EvOk T L P orc k e) (ht : TsOk T L P orc k e) (hw : TwOk T L P orc k e)
    (h1 : ∀ N sc xs, cks T N e sc xs = false) (h2 : ∀ N sc xs ns, ckK T N e sc xs ns = false) (h3 : ∀ N tg sc x, ckI T N e tg sc x = false) (h4 : ∀ N sc x, ckF T N e sc x = false) (h5 : ∀ N fn sc x, ckG T N e fn sc x = false) (h6 : ∀ N fn sc x, ckGs T N e fn sc x = false) (hla : ∀ w a, e = .ltry w a → EvOk T.off L P orc k a := by intro _ _ z; cases z) : AllOk T L P orc k e :=
  ⟨he, ht, hw, no_es h1, no_ks h2, no_it h3, no_fs h4, no_tg h5, no_tgs h6, hla⟩
theorem all_iter {e : E} (hi : ItEx T L P orc k e) (h0 : ∀ N sc x, ck T N e sc x = false)
    (h1 : ∀ N sc xs, cks T N e sc xs = false) (h2 : ∀ N sc xs ns, ckK T N e sc xs ns = false) (h4 : ∀ N sc x, ckF T N e sc x = false) (h5 : ∀ N fn sc x, ckG T N e fn sc x = false) (h6 : ∀ N fn sc x, ckGs T N e fn sc x = false) (hla : ∀ w a, e = .ltry w a → EvOk T.off L P orc k a := by intro _ _ z; cases z) : AllOk T L P orc k e :=
  ⟨no_ev h0, no_ts h0, no_tw fun N sc _ _ _ => h0 N sc _, no_es h1, no_ks h2, hi, no_fs h4, no_tg h5, no_tgs h6, hla⟩
theorem all_targ {e : E} (hi : TgOk T L P orc k e) (h0 : ∀ N sc x, ck T N e sc x = false)
    (h1 : ∀ N sc xs, cks T N e sc xs = false) (h2 : ∀ N sc xs ns, ckK T N e sc xs ns = false) (h3 : ∀ N tg sc x, ckI T N e tg sc x = false) (h4 : ∀ N sc x, ckF T N e sc x = false) (h6 : ∀ N fn sc x, ckGs T N e fn sc x = false) (hla : ∀ w a, e = .ltry w a → EvOk T.off L P orc k a := by intro _ _ z; cases z) : AllOk T L P orc k e :=
  ⟨no_ev h0, no_ts h0, no_tw fun N sc _ _ _ => h0 N sc _, no_es h1, no_ks h2, no_it h3, no_fs h4, hi, no_tgs h6, hla⟩
theorem exprOk : ∀ (e : E) (T : Tb), AllOk T L P orc k e
  | .v i, T => all_val (ev_v) (fun N sc x h => by unfold ck at h; split at h <;> first | rfl | cases h) (fun _ _ => rfl) (fun _ _ _ => rfl) (fun _ _ _ _ => rfl) (fun _ _ _ _ => rfl) (fun _ _ _ => rfl) (fun _ _ _ _ => rfl) (fun _ _ _ _ => rfl)
  | .c d, T => all_val (ev_c) (fun N sc x h => by unfold ck at h; split at h <;> first | rfl | cases h) (fun _ _ => rfl) (fun _ _ _ => rfl) (fun _ _ _ _ => rfl) (fun _ _ _ _ => rfl) (fun _ _ _ => rfl) (fun _ _ _ _ => rfl) (fun _ _ _ _ => rfl)
  | .g i, T => all_val (ev_g) (fun N sc x h => by unfold ck at h; split at h <;> first | rfl | cases h) (fun _ _ => rfl) (fun _ _ _ => rfl) (fun _ _ _ _ => rfl) (fun _ _ _ _ => rfl) (fun _ _ _ => rfl) (fun _ _ _ _ => rfl) (fun _ _ _ _ => rfl)
  | .bin op m a b, T => all_val (ev_bin (exprOk a T).ev (exprOk b T).ev) (fun N sc x h => by unfold ck at h; split at h <;> first | rfl | cases h) (fun _ _ => rfl) (fun _ _ _ => rfl) (fun _ _ _ _ => rfl) (fun _ _ _ _ => rfl) (fun _ _ _ => rfl) (fun _ _ _ _ => rfl) (fun _ _ _ _ => rfl)
  | .neg a, T => all_val (ev_neg (exprOk a T).ev) (fun N sc x h => by unfold ck at h; split at h <;> first | rfl | cases h) (fun _ _ => rfl) (fun _ _ _ => rfl) (fun _ _ _ _ => rfl) (fun _ _ _ _ => rfl) (fun _ _ _ => rfl) (fun _ _ _ _ => rfl) (fun _ _ _ _ => rfl)
  | .cmp op a b, T => all_tst (ev_cmp (exprOk a T).ev (exprOk b T).ev) (ts_cmp (exprOk a T).ev (exprOk b T).ev) (no_tw fun _ _ _ _ _ => rfl) (fun _ _ _ => rfl) (fun _ _ _ _ => rfl) (fun _ _ _ _ => rfl) (fun _ _ _ => rfl) (fun _ _ _ _ => rfl) (fun _ _ _ _ => rfl)
  | .chain o p a b d, T => all_tst (ev_chain (exprOk a T).ev (exprOk b T).ev (exprOk d T).ev) (ts_chain (exprOk a T).ev (exprOk b T).ev (exprOk d T).ev) (no_tw fun _ _ _ _ _ => rfl) (fun _ _ _ => rfl) (fun _ _ _ _ => rfl) (fun _ _ _ _ => rfl) (fun _ _ _ => rfl) (fun _ _ _ _ => rfl) (fun _ _ _ _ => rfl)
  | .band a b, T => all_tst (ev_band (exprOk a T).ev (exprOk b T).ev) (ts_of_tw (tw_band (exprOk a T).ts (exprOk b T).tw) (fun N sc x h => by unfold ck at h; split at h <;> first | exact ⟨_, _, _, rfl⟩ | cases h)) (tw_band (exprOk a T).ts (exprOk b T).tw) (fun _ _ _ => rfl) (fun _ _ _ _ => rfl) (fun _ _ _ _ => rfl) (fun _ _ _ => rfl) (fun _ _ _ _ => rfl) (fun _ _ _ _ => rfl)
  | .bor a b, T => all_tst (ev_bor (exprOk a T).ev (exprOk b T).ev) (ts_of_tw (tw_bor (exprOk a T).ts (exprOk b T).tw) (fun N sc x h => by unfold ck at h; split at h <;> first | exact ⟨_, _, _, rfl⟩ | cases h)) (tw_bor (exprOk a T).ts (exprOk b T).tw) (fun _ _ _ => rfl) (fun _ _ _ _ => rfl) (fun _ _ _ _ => rfl) (fun _ _ _ => rfl) (fun _ _ _ _ => rfl) (fun _ _ _ _ => rfl)
  | .b1 a, T => all_tst (ev_b1 (exprOk a T).ev) (ts_of_tw (tw_b1 (exprOk a T).ts) (fun N sc x h => by unfold ck at h; split at h <;> first | exact ⟨_, _, _, rfl⟩ | cases h)) (tw_b1 (exprOk a T).ts) (fun _ _ _ => rfl) (fun _ _ _ _ => rfl) (fun _ _ _ _ => rfl) (fun _ _ _ => rfl) (fun _ _ _ _ => rfl) (fun _ _ _ _ => rfl)
  | .bnot a, T => all_tst (ev_bnot (exprOk a T).ev) (ts_bnot (exprOk a T).ts) (no_tw fun _ _ _ _ _ => rfl) (fun _ _ _ => rfl) (fun _ _ _ _ => rfl) (fun _ _ _ _ => rfl) (fun _ _ _ => rfl) (fun _ _ _ _ => rfl) (fun _ _ _ _ => rfl)
  | .ife t a b, T => all_tst (ev_ife (exprOk t T).ts (exprOk a T).ev (exprOk b T).ev) (fun X W c x h => ⟨fun pins s σ H Q I q => by
      obtain ⟨F, φ, ρ, hh, hr, er, g⟩ := q
      rw [tq_ife] at g
      exact (G.no_ g).elim⟩) (no_tw fun _ _ _ _ _ => rfl) (fun _ _ _ => rfl) (fun _ _ _ _ => rfl) (fun _ _ _ _ => rfl) (fun _ _ _ => rfl) (fun _ _ _ _ => rfl) (fun _ _ _ _ => rfl)
  | .tup es, T => all_val (ev_tup (exprOk es T).es) (fun N sc x h => by unfold ck at h; split at h <;> first | rfl | cases h) (fun _ _ => rfl) (fun _ _ _ => rfl) (fun _ _ _ _ => rfl) (fun _ _ _ _ => rfl) (fun _ _ _ => rfl) (fun _ _ _ _ => rfl) (fun _ _ _ _ => rfl)
  | .lst m es, T => all_val (ev_lst (exprOk es T).es) (fun N sc x h => by unfold ck at h; split at h <;> first | rfl | cases h) (fun _ _ => rfl) (fun _ _ _ => rfl) (fun _ _ _ _ => rfl) (fun _ _ _ _ => rfl) (fun _ _ _ => rfl) (fun _ _ _ _ => rfl) (fun _ _ _ _ => rfl)
  | .dct, T => all_val (ev_dct) (fun N sc x h => by unfold ck at h; split at h <;> first | rfl | cases h) (fun _ _ => rfl) (fun _ _ _ => rfl) (fun _ _ _ _ => rfl) (fun _ _ _ _ => rfl) (fun _ _ _ => rfl) (fun _ _ _ _ => rfl) (fun _ _ _ _ => rfl)
  | .nil, T => ⟨no_ev fun _ _ _ => rfl, no_ts fun _ _ _ => rfl, (no_tw fun _ _ _ _ _ => rfl), es_nil, ks_nil, no_it fun _ _ _ _ => rfl, fs_nil, no_tg fun _ _ _ _ => rfl, tgs_nil, fun _ _ z => (nomatch z)⟩
  | .cons e es, T => ⟨no_ev fun _ _ _ => rfl, no_ts fun _ _ _ => rfl, (no_tw fun _ _ _ _ _ => rfl), es_cons (exprOk e T).ev (exprOk es T).es, ks_cons (exprOk e T).ev (exprOk es T).ks, no_it fun _ _ _ _ => rfl, fs_cons (exprOk e T).ts, no_tg fun _ _ _ _ => rfl, tgs_cons (exprOk e T).tg (exprOk es T).tgs, fun _ _ z => (nomatch z)⟩
  | .star e es, T => ⟨no_ev fun _ _ _ => rfl, no_ts fun _ _ _ => rfl, (no_tw fun _ _ _ _ _ => rfl), es_star (exprOk e T).ev (exprOk es T).es, no_ks fun _ _ _ _ => rfl, no_it fun _ _ _ _ => rfl, no_fs fun _ _ _ => rfl, no_tg fun _ _ _ _ => rfl, no_tgs fun _ _ _ _ => rfl, fun _ _ z => (nomatch z)⟩
  | .ix a i, T => all_val (ev_ix (exprOk a T).ev (exprOk i T).ev) (fun N sc x h => by unfold ck at h; split at h <;> first | rfl | cases h) (fun _ _ => rfl) (fun _ _ _ => rfl) (fun _ _ _ _ => rfl) (fun _ _ _ _ => rfl) (fun _ _ _ => rfl) (fun _ _ _ _ => rfl) (fun _ _ _ _ => rfl)
  | .sl m a lo hi, T => all_val (ev_sl (exprOk a T).ev (exprOk lo T).ev (exprOk hi T).ev) (fun N sc x h => by unfold ck at h; split at h <;> first | rfl | cases h) (fun _ _ => rfl) (fun _ _ _ => rfl) (fun _ _ _ _ => rfl) (fun _ _ _ _ => rfl) (fun _ _ _ => rfl) (fun _ _ _ _ => rfl) (fun _ _ _ _ => rfl)
  | .rev m a, T => all_val (ev_rev (exprOk a T).ev) (fun N sc x h => by unfold ck at h; split at h <;> first | rfl | cases h) (fun _ _ => rfl) (fun _ _ _ => rfl) (fun _ _ _ _ => rfl) (fun _ _ _ _ => rfl) (fun _ _ _ => rfl) (fun _ _ _ _ => rfl) (fun _ _ _ _ => rfl)
  | .call ad j es, T => all_val (ev_call (exprOk es T).es) (fun N sc x h => by unfold ck at h; split at h <;> first | rfl | cases h) (fun _ _ => rfl) (fun _ _ _ => rfl) (fun _ _ _ _ => rfl) (fun _ _ _ _ => rfl) (fun _ _ _ => rfl) (fun _ _ _ _ => rfl) (fun _ _ _ _ => rfl)
  | .callk ad j es ks, T => all_val (ev_callk (exprOk es T).es (exprOk ks T).ks) (fun N sc x h => by unfold ck at h; split at h <;> first | rfl | cases h) (fun _ _ => rfl) (fun _ _ _ => rfl) (fun _ _ _ _ => rfl) (fun _ _ _ _ => rfl) (fun _ _ _ => rfl) (fun _ _ _ _ => rfl) (fun _ _ _ _ => rfl)
  | .meth ad mi o alts es, T => all_val (ev_meth (exprOk o T).ev (exprOk es T).es) (fun N sc x h => by unfold ck at h; split at h <;> first | rfl | cases h) (fun _ _ => rfl) (fun _ _ _ => rfl) (fun _ _ _ _ => rfl) (fun _ _ _ _ => rfl) (fun _ _ _ => rfl) (fun _ _ _ _ => rfl) (fun _ _ _ _ => rfl)
  | .methk ad mi o alts es ks, T => all_val (ev_methk (exprOk o T).ev (exprOk es T).es (exprOk ks T).ks) (fun N sc x h => by unfold ck at h; split at h <;> first | rfl | cases h) (fun _ _ => rfl) (fun _ _ _ => rfl) (fun _ _ _ _ => rfl) (fun _ _ _ _ => rfl) (fun _ _ _ => rfl) (fun _ _ _ _ => rfl) (fun _ _ _ _ => rfl)
  | .cmeth ad mi o alts es ks, T => all_val (ev_cmeth (exprOk o T).ev (exprOk es T).es (exprOk ks T).ks) (fun N sc x h => by unfold ck at h; split at h <;> first | rfl | cases h) (fun _ _ => rfl) (fun _ _ _ => rfl) (fun _ _ _ _ => rfl) (fun _ _ _ _ => rfl) (fun _ _ _ => rfl) (fun _ _ _ _ => rfl) (fun _ _ _ _ => rfl)
  | .ccall ad o alts es ks, T => all_val (ev_ccall (exprOk o T).ev (exprOk es T).es (exprOk ks T).ks) (fun N sc x h => by unfold ck at h; split at h <;> first | rfl | cases h) (fun _ _ => rfl) (fun _ _ _ => rfl) (fun _ _ _ _ => rfl) (fun _ _ _ _ => rfl) (fun _ _ _ => rfl) (fun _ _ _ _ => rfl) (fun _ _ _ _ => rfl)
  | .kn c, T => all_val ev_kn (fun N sc x h => by unfold ck at h; split at h <;> first | rfl | cases h) (fun _ _ => rfl) (fun _ _ _ => rfl) (fun _ _ _ _ => rfl) (fun _ _ _ _ => rfl) (fun _ _ _ => rfl) (fun _ _ _ _ => rfl) (fun _ _ _ _ => rfl)
  | .att o i alts, T => all_val (ev_att (exprOk o T).ev) (fun N sc x h => by unfold ck at h; split at h <;> first | rfl | cases h) (fun _ _ => rfl) (fun _ _ _ => rfl) (fun _ _ _ _ => rfl) (fun _ _ _ _ => rfl) (fun _ _ _ => rfl) (fun _ _ _ _ => rfl) (fun _ _ _ _ => rfl)
  | .blt m b es, T => all_val (ev_blt (exprOk es T).es) (fun N sc x h => by unfold ck at h; split at h <;> first | rfl | cases h) (fun _ _ => rfl) (fun _ _ _ => rfl) (fun _ _ _ _ => rfl) (fun _ _ _ _ => rfl) (fun _ _ _ => rfl) (fun _ _ _ _ => rfl) (fun _ _ _ _ => rfl)
  | .bino op a b alts, T => all_val (ev_bino (exprOk a T).ev (exprOk b T).ev) (fun N sc x h => by unfold ck at h; split at h <;> first | rfl | cases h) (fun _ _ => rfl) (fun _ _ _ => rfl) (fun _ _ _ _ => rfl) (fun _ _ _ _ => rfl) (fun _ _ _ => rfl) (fun _ _ _ _ => rfl) (fun _ _ _ _ => rfl)
  | .cmpo ne a b alts, T => all_tst (ev_cmpo (exprOk a T).ev (exprOk b T).ev) (ts_cmpo (exprOk a T).ev (exprOk b T).ev) (no_tw fun _ _ _ _ _ => rfl) (fun _ _ _ => rfl) (fun _ _ _ _ => rfl) (fun _ _ _ _ => rfl) (fun _ _ _ => rfl) (fun _ _ _ _ => rfl) (fun _ _ _ _ => rfl)
  | .cmpt ne a b alts, T => all_tst (ev_cmpt (exprOk a T).ev (exprOk b T).ev) (ts_cmpt (exprOk a T).ev (exprOk b T).ev) (no_tw fun _ _ _ _ _ => rfl) (fun _ _ _ => rfl) (fun _ _ _ _ => rfl) (fun _ _ _ _ => rfl) (fun _ _ _ => rfl) (fun _ _ _ _ => rfl) (fun _ _ _ _ => rfl)
  | .lrg m a, T => all_val (ev_lrg (exprOk a T).ev) (fun N sc x h => by unfold ck at h; split at h <;> first | rfl | cases h) (fun _ _ => rfl) (fun _ _ _ => rfl) (fun _ _ _ _ => rfl) (fun _ _ _ _ => rfl) (fun _ _ _ => rfl) (fun _ _ _ _ => rfl) (fun _ _ _ _ => rfl)
  | .isi a ts, T => all_val (ev_isi (exprOk a T).ev) (fun N sc x h => by unfold ck at h; split at h <;> first | rfl | cases h) (fun _ _ => rfl) (fun _ _ _ => rfl) (fun _ _ _ _ => rfl) (fun _ _ _ _ => rfl) (fun _ _ _ => rfl) (fun _ _ _ _ => rfl) (fun _ _ _ _ => rfl)
  | .bm b o es, T => all_val (ev_bm (exprOk o T).ev (exprOk es T).es) (fun N sc x h => by unfold ck at h; split at h <;> first | rfl | cases h) (fun _ _ => rfl) (fun _ _ _ => rfl) (fun _ _ _ _ => rfl) (fun _ _ _ _ => rfl) (fun _ _ _ => rfl) (fun _ _ _ _ => rfl) (fun _ _ _ _ => rfl)
  | .comp m own tg it ifs el, T => all_val (ev_comp (exprOk tg T.off).tg (exprOk it T).it (exprOk ifs T.off).fs (exprOk el T.off).ev (exprOk el T).la) (fun N sc x h => by unfold ck at h; split at h <;> first | rfl | cases h) (fun _ _ => rfl) (fun _ _ _ => rfl) (fun _ _ _ _ => rfl) (fun _ _ _ _ => rfl) (fun _ _ _ => rfl) (fun _ _ _ _ => rfl) (fun _ _ _ _ => rfl)
  | .comp2 m own own2 tg it tg2 it2 el, T => all_val (ev_comp2 (exprOk tg T.off).tg (exprOk tg2 T.off).tg (exprOk it T).ev (exprOk it2 T.off).ev (exprOk el T.off).ev) (fun N sc x h => by unfold ck at h; split at h <;> first | rfl | cases h) (fun _ _ => rfl) (fun _ _ _ => rfl) (fun _ _ _ _ => rfl) (fun _ _ _ _ => rfl) (fun _ _ _ => rfl) (fun _ _ _ _ => rfl) (fun _ _ _ _ => rfl)
  | .lamb n, T => all_val ev_lamb (fun N sc x h => by unfold ck at h; split at h <;> first | rfl | cases h) (fun _ _ => rfl) (fun _ _ _ => rfl) (fun _ _ _ _ => rfl) (fun _ _ _ _ => rfl) (fun _ _ _ => rfl) (fun _ _ _ _ => rfl) (fun _ _ _ _ => rfl)
  | .ltry w a, T => all_val (ev_ltry (exprOk a T).ev) (fun N sc x h => by unfold ck at h; split at h <;> first | rfl | cases h) (fun _ _ => rfl) (fun _ _ _ => rfl) (fun _ _ _ _ => rfl) (fun _ _ _ _ => rfl) (fun _ _ _ => rfl) (fun _ _ _ _ => rfl) (fun _ _ _ _ => rfl) (fun _ b z => by cases z; exact (exprOk a T.off).ev)
  | .i_e e, T => all_iter (it_e (exprOk e T).ev) (fun _ _ _ => rfl) (fun _ _ _ => rfl) (fun _ _ _ _ => rfl) (fun _ _ _ => rfl) (fun _ _ _ _ => rfl) (fun _ _ _ _ => rfl)
  | .i_r1 a, T => all_iter (it_r1 (exprOk a T).ev) (fun _ _ _ => rfl) (fun _ _ _ => rfl) (fun _ _ _ _ => rfl) (fun _ _ _ => rfl) (fun _ _ _ _ => rfl) (fun _ _ _ _ => rfl)
  | .i_r2 a b, T => all_iter (it_r2 (exprOk a T).ev (exprOk b T).ev) (fun _ _ _ => rfl) (fun _ _ _ => rfl) (fun _ _ _ _ => rfl) (fun _ _ _ => rfl) (fun _ _ _ _ => rfl) (fun _ _ _ _ => rfl)
  | .i_en a, T => all_iter (it_en (exprOk a T).ev) (fun _ _ _ => rfl) (fun _ _ _ => rfl) (fun _ _ _ _ => rfl) (fun _ _ _ => rfl) (fun _ _ _ _ => rfl) (fun _ _ _ _ => rfl)
  | .i_zip a b, T => all_iter (it_zip (exprOk a T).ev (exprOk b T).ev) (fun _ _ _ => rfl) (fun _ _ _ => rfl) (fun _ _ _ _ => rfl) (fun _ _ _ => rfl) (fun _ _ _ _ => rfl) (fun _ _ _ _ => rfl)
  | .t_n i, T => all_targ tg_n (fun _ _ _ => rfl) (fun _ _ _ => rfl) (fun _ _ _ _ => rfl) (fun _ _ _ _ => rfl) (fun _ _ _ => rfl) (fun _ _ _ _ => rfl)
  | .t_t ts, T => all_targ (tg_t (exprOk ts T).tgs) (fun _ _ _ => rfl) (fun _ _ _ => rfl) (fun _ _ _ _ => rfl) (fun _ _ _ _ => rfl) (fun _ _ _ => rfl) (fun _ _ _ _ => rfl)
  | .t_x n ts, T => all_targ (tg_x (exprOk ts T).tgs) (fun _ _ _ => rfl) (fun _ _ _ => rfl) (fun _ _ _ _ => rfl) (fun _ _ _ _ => rfl) (fun _ _ _ => rfl) (fun _ _ _ _ => rfl)
  | .t_s o i, T => all_targ (tg_s (exprOk o T).ev (exprOk i T).ev) (fun _ _ _ => rfl) (fun _ _ _ => rfl) (fun _ _ _ _ => rfl) (fun _ _ _ _ => rfl) (fun _ _ _ => rfl) (fun _ _ _ _ => rfl)
  | .t_a o i, T => all_targ (no_tg fun _ _ _ _ => rfl) (fun _ _ _ => rfl) (fun _ _ _ => rfl) (fun _ _ _ _ => rfl) (fun _ _ _ _ => rfl) (fun _ _ _ => rfl) (fun _ _ _ _ => rfl)
end
end MV

set_option maxRecDepth 100000
set_option maxHeartbeats 1000000
/-! VL: statements. -/
namespace MV
open PySem PySem.Spec PyProof.Rows L2
/-- a statement's run is good -/
def GS (L : Lk) (F : Fm) (φ : List Addr) (H : Hp) (W : WX) (r : RS) (D : Ends) : Prop := match r with
  | .nx ρ' h' => ∀ φ' H' σ', XT φ H φ' H' → HR L F φ' h' H' → ER L F φ' H' ρ' σ' → D.nx σ' H'
  | .bk ρ' h' => ∀ φ' H' σ', XT φ H φ' H' → HR L F φ' h' H' → ER L F φ' H' ρ' σ' → D.bk σ' H'
  | .ct ρ' h' => ∀ φ' H' σ', XT φ H φ' H' → HR L F φ' h' H' → ER L F φ' H' ρ' σ' → D.ct σ' H'
  | .rt d h' => ∀ φ' H' v, XT φ H φ' H' → HR L F φ' h' H' → Rel L F φ' H' d v → D.rt v H'
  | .exc c ks vs ρ' h' => ∀ φ' H' σ' cls dd, XT φ H φ' H' → HR L F φ' h' H' → ER L F φ' H' ρ' σ' → XRel L F φ' H' c ks vs cls dd → W cls dd σ' H'
  | .no => False
def rdS (L : Lk) (W : WX) (f : Env → HH → RS) : TS := fun D σ H => ∃ F φ ρ h, HR L F φ h H ∧ ER L F φ H ρ σ ∧ GS L F φ H W (f ρ h) D
section
variable {L : Lk} {F : Fm} {φ φ1 : List Addr} {H H1 : Hp} {W : WX} {D D' : Ends} {r : RS}
theorem GS.mono (x : XT φ H φ1 H1) (g : GS L F φ H W r D) : GS L F φ1 H1 W r D := by
  cases r with
  | nx ρ h => exact fun φ' H' σ' t => g φ' H' σ' (x.trans t)
  | bk ρ h => exact fun φ' H' σ' t => g φ' H' σ' (x.trans t)
  | ct ρ h => exact fun φ' H' σ' t => g φ' H' σ' (x.trans t)
  | rt d h => exact fun φ' H' v t => g φ' H' v (x.trans t)
  | exc c ks vs ρ h => exact fun φ' H' σ' cls dd t => g φ' H' σ' cls dd (x.trans t)
  | no => exact g
theorem GS.st {α β : Type} {Rl : List Addr → Hp → α → β → Prop} {r : R α} {ρ : Env} {σ : L2.St} {f : α → HH → RS} {Q : β → Hp → Prop} (g : GS L F φ H W (r.st ρ f) D) (er : ER L F φ H ρ σ)
    (k : ∀ a h1 φ1 H1 b, r = .ok a h1 → XT φ H φ1 H1 → HR L F φ1 h1 H1 → Rl φ1 H1 a b → GS L F φ1 H1 W (f a h1) D → Q b H1) : G L F φ H Rl r Q (fun c d H' => W c d σ H') := by
  cases r with
  | ok a h1 => exact fun φ1 H1 b t hr rl => k a h1 φ1 H1 b rfl t hr rl (GS.mono t g)
  | exc c ks vs h1 => exact fun φ' H' cls dd t hr xr => g φ' H' σ cls dd t hr (er.mono t) xr
  | no => exact g
end
/-- a context of a def's body -/
structure CX2 (T : Tb) (L : Lk) (P : Prog) (orc : Orc) (k : Nat) (X : Cx) (W : WX) : Prop extends CX1 T L P orc k X W where
  fn : X.fn = fun _ => true
  kind : X.env.scope.kind = .function
  own : PassesOwn (model X.prog X.w) X.A X.env X.xe
theorem nswB_ok {env : PySem.Env} {n : Str} {q : Pos} {y : Expr} {l : Nat} (h : nswB env.scope n q y = true) : swapsWith y (some (.Name n q)) l env = pure false := by
  unfold nswB at h
  cases hn : ncB y with
  | true => exact ncSw y _ l env hn
  | false =>
    rw [hn, Bool.false_or] at h
    split at h
    · rename_i e g s p
      show (pure (env.blockKind == .function && env.kindOf n == some .local && q.line == p.line && !(s.names.any fun (m, k) => m == n && (k == .local || k == .cell))) : Sem Bool) = pure false
      rcases Bool.or_eq_true_iff.mp h with z | z
      · have e1 : (env.kindOf n == some .local) = false := by
          cases hk : env.kindOf n with
          | none => rfl
          | some kk =>
            unfold locB isLoc at z
            rw [show env.scope.names.lookup n = some kk from hk] at z
            cases kk <;> first | rfl | cases z
        rw [e1, Bool.and_false, Bool.false_and, Bool.false_and]
      · have e1 : (q.line == p.line) = false := by simpa using z
        rw [e1, Bool.and_false, Bool.false_and]
    · cases h
theorem blockFn {env : PySem.Env} (hk : env.scope.kind = .function) : env.blockKind = .function := by
  unfold Env.blockKind
  rw [hk] <;> rfl
theorem fm_lt {α β : Type} {f : α → Option β} : ∀ {l : List α}, (l.any fun x => (f x).isNone) = true → (l.filterMap f).length < l.length
  | [], h => by cases h
  | x :: xs, h => by
    rw [List.any_cons] at h
    cases hf : f x with
    | none =>
      rw [List.filterMap_cons_none hf, List.length_cons]
      exact Nat.lt_succ_of_le (List.length_filterMap_le f xs)
    | some b =>
      rw [hf] at h
      rw [List.filterMap_cons_some hf, List.length_cons, List.length_cons]
      exact Nat.succ_lt_succ (fm_lt (by simpa using h))
theorem any_imp {α : Type} {f g : α → Bool} (h : ∀ x, f x = true → g x = true) : ∀ {l : List α}, l.any f = true → l.any g = true
  | [], q => by cases q
  | x :: xs, q => by
    rw [List.any_cons] at q ⊢
    rcases Bool.or_eq_true_iff.mp q with z | z
    · rw [h x z] <;> rfl
    · rw [any_imp h z, Bool.or_true]
theorem ssNone {env : PySem.Env} {x y : Expr} (hk : env.scope.kind = .function) (h : ssB env.scope x y = true) : swappedStores [x] y env = pure none := by
  cases x with
  | Tuple ts k1 p1 =>
    cases y with
    | Tuple vs k2 p2 =>
      have h : ((!(ts.length == 2 || ts.length == 3) || vs.length != ts.length) || ts.any fun t => match t with
        | .Name x _ => !locB env.scope x
        | _ => true) = true := h
      unfold swappedStores
      simp only [pure_bind, blockFn hk]
      rcases Bool.or_eq_true_iff.mp h with z | z
      · rw [if_pos (by rw [z] <;> rfl)] <;> rfl
      · split
        · rfl
        · split
          · rfl
          · have lt : ∀ (f : Expr → Option Str), (∀ t, (match t with
              | .Name x _ => !locB env.scope x
              | _ => true) = true → (f t).isNone = true) → ((ts.filterMap f).length != ts.length) = true := fun f hf => by
              have := fm_lt (f := f) (any_imp hf z)
              rw [bne_iff_ne]
              omega
            rw [if_pos]
            · refine Bool.or_eq_true_iff.mpr (.inl (lt _ fun t ht => ?_))
              cases t <;> first | rfl | skip
              rename_i id pos
              have e1 : (env.kindOf id == some .local) = false := by
                have ht : (!locB env.scope id) = true := ht
                cases hk : env.kindOf id with
                | none => rfl
                | some kk =>
                  unfold locB isLoc at ht
                  rw [show env.scope.names.lookup id = some kk from hk] at ht
                  cases kk <;> first | rfl | cases ht
              simp [e1]
    | _ => rfl
  | List ts p1 =>
    cases y with
    | Tuple vs k2 p2 => cases h
    | _ => rfl
  | _ => rfl
/-! ### the promise for a statement -/
section
variable (T : Tb) (L : Lk) (P : Prog) (orc : Orc) (k : Nat)
def StOk (s : S) : Prop := ∀ X W, CX2 T L P orc k X W → ∀ x, s.basic = true → ckS T X.N s X.env.scope [x] = true → PS X x (rdS L W (run P orc s))
def SsOk (s : S) : Prop := ∀ X W, CX2 T L P orc k X W → ∀ xs, ckS T X.N s X.env.scope xs = true → PSs X xs (rdS L W (run P orc s))
end
section
variable {T : Tb} {L : Lk} {P : Prog} {orc : Orc} {k : Nat}
theorem ss_skip : SsOk T L P orc k .skip := by
  intro X W c xs h
  unfold ckS at h
  split at h
  · exact pss_nil.imp fun D σ H ⟨F, φ, ρ, hh, hr, er, g⟩ => g φ H σ (.refl _ _) hr er
  · cases h
theorem ss_seq {s t : S} (hs : StOk T L P orc k s) (ht : SsOk T L P orc k t) : SsOk T L P orc k (.seq s t) := by
  intro X W c xs h
  unfold ckS at h
  split at h
  · obtain ⟨h1, h⟩ := and_ h
    obtain ⟨h2, h3⟩ := and_ h
    refine (pss_cons (hs X W c _ h1 h2) (ht X W c _ h3)).imp fun D σ H ⟨F, φ, ρ, hh, hr, er, g⟩ => ⟨F, φ, ρ, hh, hr, er, ?_⟩
    have g : GS L F φ H W (match run P orc s ρ hh with
      | .nx ρ1 h1 => run P orc t ρ1 h1
      | z => z) D := g
    cases e : run P orc s ρ hh with
    | nx ρ1 h1 =>
      rw [e] at g
      exact fun φ' H' σ' tt hr' er' => ⟨F, φ', ρ1, h1, hr', er', GS.mono tt g⟩
    | _ =>
      rw [e] at g
      exact g
  · cases h
theorem basic_one {N : List Str} {s : S} {sc : Scope} {xs : List Stmt} (hb : s.basic = true) (h : ckS T N s sc xs = true) : ∃ x, xs = [x] := by
  cases s <;> first | (cases hb; done) | (unfold ckS at h; split at h <;> first | exact ⟨_, rfl⟩ | cases h)
theorem ss_one {s : S} (hb : s.basic = true) (hs : StOk T L P orc k s) : SsOk T L P orc k s := by
  intro X W c xs h
  obtain ⟨x, rfl⟩ := basic_one hb h
  exact pss_one (hs X W c x hb h)
theorem st_ex {e : E} : StOk T L P orc k (.ex e) := by
  intro X W c x hb h
  unfold ckS at h
  split at h
  · rename_i x' y p e0
    cases e0
    obtain ⟨h1, h2⟩ := and_ h
    refine (ps_expr ((exprOk e _).ev X W c.toCX1 _ h2) (ncSw _ _ _ _ h1)).imp fun D σ H ⟨F, φ, ρ, hh, hr, er, g⟩ => ⟨F, φ, ρ, hh, hr, er, ?_⟩
    exact GS.st (Rl := fun φ H d v => Rel L F φ H d v) (show GS L F φ H W ((ev P orc e ρ hh).st ρ fun _ h1 => .nx ρ h1) D from g) er fun a h1 φ1 H1 b _ t hr1 _ g1 => g1 φ1 H1 σ (.refl _ _) hr1 (er.mono t)
  · cases h
theorem st_ret {e : E} : StOk T L P orc k (.ret e) := by
  intro X W c x hb h
  unfold ckS at h
  split at h
  · rename_i x' y p e0
    cases e0
    refine (ps_ret ((exprOk e _).ev X W c.toCX1 _ h)).imp fun D σ H ⟨F, φ, ρ, hh, hr, er, g⟩ => ⟨F, φ, ρ, hh, hr, er, ?_⟩
    exact GS.st (Rl := fun φ H d v => Rel L F φ H d v) (show GS L F φ H W ((ev P orc e ρ hh).st ρ fun d h1 => .rt d h1) D from g) er fun a h1 φ1 H1 b _ t hr1 rx g1 => g1 φ1 H1 b (.refl _ _) hr1 rx
  · cases h
theorem st_retN : StOk T L P orc k .retN := by
  intro X W c x hb h
  unfold ckS at h
  split at h
  · rename_i x' p e0
    cases e0
    exact ps_retN.imp fun D σ H ⟨F, φ, ρ, hh, hr, er, g⟩ => g φ H _ (.refl _ _) hr .non
  · cases h
theorem st_brk : StOk T L P orc k .brk := by
  intro X W c x hb h
  unfold ckS at h
  split at h
  · rename_i x' p e0
    cases e0
    exact ps_break.imp fun D σ H ⟨F, φ, ρ, hh, hr, er, g⟩ => g φ H _ (.refl _ _) hr er
  · cases h
theorem st_cnt : StOk T L P orc k .cnt := by
  intro X W c x hb h
  unfold ckS at h
  split at h
  · rename_i x' p e0
    cases e0
    exact ps_continue.imp fun D σ H ⟨F, φ, ρ, hh, hr, er, g⟩ => g φ H _ (.refl _ _) hr er
  · cases h
theorem st_pass : StOk T L P orc k .pass := by
  intro X W c x hb h
  unfold ckS at h
  split at h
  · rename_i x' p e0
    cases e0
    exact ps_pass.imp fun D σ H ⟨F, φ, ρ, hh, hr, er, g⟩ => g φ H _ (.refl _ _) hr er
  · cases h
theorem st_rais {n : Nat} {es : E} : StOk T L P orc k (.rais n es) := by
  intro X W c x hb h
  unfold ckS at h
  split at h
  · rename_i x' y q args p0 p e0
    cases e0
    obtain ⟨h1, h⟩ := and_ h
    obtain ⟨h2, h⟩ := and_ h
    obtain ⟨h3, h4⟩ := and_ h
    have h1 := of_decide_eq_true h1
    have r := c.fa.rais X c.same c.calm n y args.length h1 args q p0 _ rfl h3 (glB_ h2).1 (glB_ h2).2 ((exprOk es _).es X W c.toCX1 args h4)
    refine (ps_raise c.calm c.tk r).imp fun D σ H ⟨F, φ, ρ, hh, hr, er, g⟩ => ⟨F, φ, ρ, hh, hr, er, ?_⟩
    refine GS.st (Rl := fun φ H d v => Rels L F φ H d v) (show GS L F φ H W ((evs P orc es ρ hh).st ρ fun ds h1 => match P.xs[n]? with
      | some x => (match x.n == ds.length with
        | true => (match selD ds (x.fs.map (·.2)) with
          | some vs => .exc n (x.fs.map (·.1)) vs ρ h1
          | none => .no)
        | false => .no)
      | none => .no) D from g) er fun ds h1 φ1 H1 vs _ t hr1 rs g1 => ?_
    split at g1
    · rename_i xc ex
      split at g1
      · rename_i en
        split at g1
        · rename_i zs ez
          exact ⟨F, φ1, h1, ds, xc, zs, hr1, rs, ex, beq_iff_eq.mp en, ez, fun φ2 H2 cls dd t2 hr2 xr => g1 φ2 H2 σ cls dd t2 hr2 ((er.mono t).mono t2) xr⟩
        · exact g1.elim
      · exact g1.elim
    · exact g1.elim
  · cases h
theorem st_ite {c : E} {s t : S} (hs : SsOk T L P orc k s) (ht : SsOk T L P orc k t) : StOk T L P orc k (.ite c s t) := by
  intro X W cx x hb h
  unfold ckS at h
  split at h
  · rename_i x' z a b p e0
    cases e0
    obtain ⟨h1, h⟩ := and_ h
    obtain ⟨h2, h3⟩ := and_ h
    refine (ps_if ((exprOk c _).ts X W cx.toCX1 _ h1) (hs X W cx _ h2) (ht X W cx _ h3)).imp fun D σ H ⟨F, φ, ρ, hh, hr, er, g⟩ => ⟨F, φ, ρ, hh, hr, er, ?_⟩
    refine GS.st (Rl := fun _ _ a b => a = b) (show GS L F φ H W ((tst P orc c ρ hh).st ρ fun k h1 => match k with
      | true => run P orc s ρ h1
      | false => run P orc t ρ h1) D from g) er fun a h1 φ1 H1 b _ tt hr1 rx g1 => ?_
    subst rx
    cases a with
    | true =>
      rw [if_pos rfl]
      exact ⟨F, φ1, ρ, h1, hr1, er.mono tt, g1⟩
    | false =>
      rw [if_neg Bool.false_ne_true]
      exact ⟨F, φ1, ρ, h1, hr1, er.mono tt, g1⟩
  · cases h
end
end MV

set_option maxRecDepth 100000
set_option maxHeartbeats 1000000
/-! VM: stores, loops; all statements. -/
namespace MV
open PySem PySem.Spec PyProof.Rows L2
section
variable {T : Tb} {L : Lk} {P : Prog} {orc : Orc} {k : Nat}
theorem ns_tg {t : E} {N : List Str} {fn : Str → Bool} {sc : Scope} {x : Expr} (h : ckG T N t fn sc x = true) : nsB x = true := by
  cases x <;> first | rfl | (cases t <;> first | (unfold ckG at h; cases h; done) | cases h)
/-- target = value -/
theorem asg_gen {X : Cx} {W : WX} (c : CX2 T L P orc k X W) {t e : E} {x y : Expr} {p : Pos} (h : ((ncB y || isTupE x) && (ssB X.env.scope x y && (ckG T X.N t (fun _ => true) X.env.scope x && ck T X.N e X.env.scope y))) = true) : PS X (.Assign [x] y p) (rdS L W (run P orc (.asg t e))) := by
  obtain ⟨h1, h⟩ := and_ h
  obtain ⟨h2, h⟩ := and_ h
  obtain ⟨h3, h4⟩ := and_ h
  have hg : PG X x (rdG L (tgSlots t) (asg P orc t)) := (exprOk t _).tg X W c.toCX1 x (by rw [c.fn]; exact h3)
  refine (ps_asg ((exprOk e _).ev X W c.toCX1 _ h4) hg (tupSw _ _ _ _ h1) (ssNone c.kind h2) ?_).imp fun D σ H ⟨F, φ, ρ, hh, hr, er, g⟩ => ?_
  · rw [aEach x [] X.env (ns_tg h3)]
    rfl
  · refine ⟨F, φ, ρ, hh, hr, er, ?_⟩
    refine GS.st (Rl := fun φ H d v => Rel L F φ H d v) (show GS L F φ H W ((ev P orc e ρ hh).st ρ fun d h1 => (asg P orc t d ρ h1).pur.st ρ fun ρ1 h2 => .nx ρ1 h2) D from g) er fun a h1 φ1 H1 b _ tt hr1 rx g1 => ?_
    refine ⟨F, φ1, ρ, h1, a, hr1, er.mono tt, rx, ?_⟩
    cases ea : asg P orc t a ρ h1 with
    | ok ρ1 h2 =>
      rw [ea] at g1
      exact fun φ' H' σ' t2 hr2 er2 _ => g1 φ' H' σ' t2 hr2 er2
    | exc _ _ _ _ =>
      rw [ea] at g1
      exact (show False from g1).elim
    | no =>
      rw [ea] at g1
      exact (show False from g1).elim
theorem name_run {Dn : Ends} {W : WX} {F : Fm} {φ φ1 : List Addr} {H H1 : Hp} {ρ : Env} {σ : L2.St} {h1 : HH} {i : Nat} {a : D} {b : V} (er : ER L F φ H ρ σ) (tt : XT φ H φ1 H1) (hr1 : HR L F φ1 h1 H1) (rx : Rel L F φ1 H1 a b) (g1 : GS L F φ1 H1 W ((asg P orc (.t_n i) a ρ h1).pur.st ρ fun ρ1 h2 => .nx ρ1 h2) Dn) : Dn.nx (σ.set i (some b)) H1 := by
  rw [q_t_n] at g1
  exact g1 φ1 H1 _ (.refl _ _) hr1 ((er.mono tt).set rx)
/-- name = value -/
theorem asg_name {X : Cx} {W : WX} (c : CX2 T L P orc k X W) {i : Nat} {e : E} {n : Str} {q p : Pos} {y : Expr} (h1 : X.N[i]? = some n) (h2 : stoB X.env.scope n = true) (h3 : ck T X.N e X.env.scope y = true) (h4 : nswB X.env.scope n q y = true) : PS X (.Assign [.Name n q] y p) (rdS L W (run P orc (.asg (.t_n i) e))) :=
  (ps_set c.nd h1 (stoB_ h2) ((exprOk e _).ev X W c.toCX1 _ h3) (nswB_ok h4) (.inl (by rw [c.fn]))).imp fun D σ H ⟨F, φ, ρ, hh, hr, er, g⟩ =>
    ⟨F, φ, ρ, hh, hr, er, GS.st (Rl := fun φ H d v => Rel L F φ H d v) (show GS L F φ H W ((ev P orc e ρ hh).st ρ fun d h1 => (asg P orc (.t_n i) d ρ h1).pur.st ρ fun ρ1 h2 => .nx ρ1 h2) D from g) er fun a h1 φ1 H1 b _ tt hr1 rx g1 => name_run er tt hr1 rx g1⟩
/-- name = [.. for .. for ..] on one line -/
theorem asg_lc2 {X : Cx} {W : WX} (c : CX2 T L P orc k X W) {i : Nat} {n : Str} {q p : Pos} {elt : Expr} {gs : List Comprehension} {scope : Scope} {lp : Pos} {m : Bool} {own own2 : List Nat} {tg it tg2 it2 el : E} (h1 : X.N[i]? = some n) (hl : X.env.scope.names.lookup n = some .local)
    (hsw : swapsWith (.ListComp elt gs scope lp) (some (.Name n q)) p.line X.env = pure true) (h : ck T X.N (.comp2 m own own2 tg it tg2 it2 el) X.env.scope (.ListComp elt gs scope lp) = true) : PS X (.Assign [.Name n q] (.ListComp elt gs scope lp) p) (rdS L W (run P orc (.asg (.t_n i) (.comp2 m own own2 tg it tg2 it2 el)))) := by
  unfold ck at h
  split at h
  · rename_i elt' t' i' t2 i2 scope' p' e0
    cases e0
    obtain ⟨g1, h⟩ := and_ h
    obtain ⟨g2, h⟩ := and_ h
    obtain ⟨g3, h⟩ := and_ h
    obtain ⟨g4, h⟩ := and_ h
    obtain ⟨g5, h⟩ := and_ h
    obtain ⟨g6, h⟩ := and_ h
    obtain ⟨g7, h⟩ := and_ h
    obtain ⟨g8, h⟩ := and_ h
    obtain ⟨g9, h⟩ := and_ h
    obtain ⟨g10, g11⟩ := and_ h
    have cb := fun s H C cl fp => c.toCX1.blk s H scope (compEnvC scope cl C X.env) fp
    refine (ps_setLc2 (vs1 := own2) (wi1 := rdV X.K L (fun _ _ _ _ => False) (ev P orc it2)) c.calm c.nd h1 hl hsw (pi_val (exprOk it _).ev c.toCX1 t' i' g9) (blkOk_by g1) (fun j hj => by
        rw [own_map]
        simpa using List.all_eq_true.mp g4 j hj)
      (fun s H C cl fp => (exprOk tg _).tg _ _ (cb s H C cl fp) t' g7) (fun s H C cl fp => pts_nil)
      (fun s H C cl fp => pi_val (exprOk it2 _).ev (cb s H C cl fp) t2 i2 g10)
      (fun s H C cl fp => (exprOk tg2 _).tg _ _ (cb s H C cl fp) t2 g8) (fun s H C cl fp => pts_nil)
      (fun s H C cl fp => (exprOk el _).ev _ _ (cb s H C cl fp) elt g11) (sdIt _ _ g2) (fun env => sdIt _ env g3)).imp fun D σ H ⟨F, φ, ρ, hh, hr, er, g⟩ => ?_
    unfold tAsg
    refine lc2_read (m := m) (P := P) (orc := orc) (el := el) (N := X.N) c.toCX1.fa.hK g5 g6 σ H _ ⟨F, φ, ρ, hh, hr, er, ?_⟩
    exact GS.st (Rl := fun φ H d v => Rel L F φ H d v) (show GS L F φ H W ((ev P orc (.comp2 m own own2 tg it tg2 it2 el) ρ hh).st ρ fun d h1 => (asg P orc (.t_n i) d ρ h1).pur.st ρ fun ρ1 h2 => .nx ρ1 h2) D from g) er fun a h1 φ1 H1 b _ tt hr1 rx g1 => name_run er tt hr1 rx g1
  · cases h
/-- name = [..] on one line -/
theorem asg_lc {X : Cx} {W : WX} (c : CX2 T L P orc k X W) {i : Nat} {e : E} {n : Str} {q p : Pos} {y : Expr} (h1 : X.N[i]? = some n) (h3 : ck T X.N e X.env.scope y = true) (h4 : swB X.env.scope n q y = true) : PS X (.Assign [.Name n q] y p) (rdS L W (run P orc (.asg (.t_n i) e))) := by
  unfold swB at h4
  split at h4
  · rename_i elt gs scope lp
    obtain ⟨z, z3⟩ := and_ h4
    obtain ⟨z1, z2⟩ := and_ z
    have h30 := h3
    cases e <;> first | (unfold ck at h3; cases h3; done) | skip
    rotate_left
    · rename_i m own own2 tg it tg2 it2 el
      exact asg_lc2 c h1 (locB_ z1) (sw_true c.kind (locB_ z1) z2 (by simpa using z3)) h30
    rename_i m own tg it ifs el
    unfold ck at h3
    split at h3
    · rename_i elt' t' i' cs' scope' p' e0
      cases e0
      obtain ⟨p1, p2, p3, p4, p6, p7, p8⟩ := lc_parts c.toCX1 (exprOk tg _).tg (exprOk it _).it (exprOk ifs _).fs h3
      refine (ps_setLcx c.calm c.nd h1 (locB_ z1) (sw_true c.kind (locB_ z1) z2 (by simpa using z3)) p1 p2 p3 p4 (lc_elt c.toCX1 (exprOk el _).ev (exprOk el _).la p8) p6).imp fun D σ H ⟨F, φ, ρ, hh, hr, er, g⟩ => ?_
      unfold tAsg
      refine tlc_keep (lc_read (m := m) (P := P) (orc := orc) (el := el) p7 σ H _ ⟨F, φ, ρ, hh, hr, er, ?_⟩)
      exact GS.st (Rl := fun φ H d v => Rel L F φ H d v) (show GS L F φ H W ((ev P orc (.comp m own tg it ifs el) ρ hh).st ρ fun d h1 => (asg P orc (.t_n i) d ρ h1).pur.st ρ fun ρ1 h2 => .nx ρ1 h2) D from g) er fun a h1 φ1 H1 b _ tt hr1 rx g1 => name_run er tt hr1 rx g1
    · cases h3
  · cases h4
theorem putF_ok {nm : Nat → Str} (inj : ∀ i j, nm i = nm j → i = j) {F : Fm} {φ : List Addr} {H : Hp} {k : Nat} {d : D} {v : V} (rd : Rel L F φ H d v) : ∀ {fs : List (Str × V)} {ks : List Nat} {ds : List D}, fs.map (·.1) = ks.map nm → Rels L F φ H ds (fs.map (·.2)) →
    (L2.putF (nm k) v fs).map (·.1) = (MV.putF ks ds k d).1.map nm ∧ Rels L F φ H (MV.putF ks ds k d).2 ((L2.putF (nm k) v fs).map (·.2))
  | [], ks, ds, e, r => by
    cases ks with
    | nil =>
      cases r
      exact ⟨rfl, .cons rd .nil⟩
    | cons _ _ => cases e
  | (g, x) :: fs, ks, ds, e, r => by
    cases ks with
    | nil => cases e
    | cons k' ks =>
      cases r with
      | @cons d' _ ds' _ r1 r2 =>
        have e1 : g = nm k' := (List.cons.inj e).1
        have e2 : fs.map (·.1) = ks.map nm := (List.cons.inj e).2
        obtain ⟨a, b⟩ := putF_ok inj rd e2 r2
        by_cases hk : k' = k
        · subst hk
          have q1 : L2.putF (nm k') v ((g, x) :: fs) = (g, v) :: fs := by
            show (if g = nm k' then _ else _) = _
            rw [if_pos e1]
          have q2 : MV.putF (k' :: ks) (d' :: ds') k' d = (k' :: ks, d :: ds') := by
            show (if (k' == k') = true then _ else _) = _
            rw [if_pos (beq_self_eq_true k')]
          rw [q1, q2]
          exact ⟨e, .cons rd r2⟩
        · have n1 : g ≠ nm k := fun z => hk (inj _ _ (e1.symm.trans z))
          have q1 : L2.putF (nm k) v ((g, x) :: fs) = (g, x) :: L2.putF (nm k) v fs := by
            show (if g = nm k then _ else _) = _
            rw [if_neg n1]
          have q2 : MV.putF (k' :: ks) (d' :: ds') k d = (k' :: (MV.putF ks ds' k d).1, d' :: (MV.putF ks ds' k d).2) := by
            show (if (k' == k) = true then _ else _) = _
            rw [if_neg (by simpa using hk)]
          rw [q1, q2]
          refine ⟨?_, .cons r1 b⟩
          rw [List.map_cons, List.map_cons, a, e1]
/-- o.f = value -/
theorem asg_fld {X : Cx} {W : WX} (c : CX2 T L P orc k X W) {i : Nat} {o e : E} {f : Str} {q p : Pos} {y z : Expr} (hnm : T.nm[i]? = some f) (h2 : ncB y = true) (h3 : ck T X.N o X.env.scope z = true) (h4 : ck T X.N e X.env.scope y = true) : PS X (.Assign [.Attribute z f q] y p) (rdS L W (run P orc (.asg (.t_a o i) e))) := by
  refine (ps_fld ((exprOk o _).ev X W c.toCX1 _ h3) ((exprOk e _).ev X W c.toCX1 _ h4) (ncSw _ _ _ _ h2)).imp fun D σ H ⟨F, φ, ρ, hh, hr, er, g⟩ => ?_
  refine ⟨F, φ, ρ, hh, hr, er, ?_⟩
  refine GS.st (Rl := fun φ H d v => Rel L F φ H d v) (show GS L F φ H W ((ev P orc e ρ hh).st ρ fun d h1 => (asg P orc (.t_a o i) d ρ h1).pur.st ρ fun ρ1 h2 => .nx ρ1 h2) D from g) er fun a h1 φ1 H1 b _ tt hr1 rx g1 => ?_
  refine ⟨F, φ1, ρ, h1, hr1, er.mono tt, ?_⟩
  rw [q_t_a] at g1
  cases eo : ev P orc o ρ h1 with
  | exc _ _ _ _ =>
    rw [eo] at g1
    exact (show False from g1).elim
  | no =>
    rw [eo] at g1
    exact (show False from g1).elim
  | ok x h2 =>
    rw [eo] at g1
    intro φ2 H2 u t2 hr2 ru
    have g1 : GS L F φ1 H1 W ((match setF P.fld x i a h2 with
      | some h3 => R.ok ρ h3
      | none => R.no).pur.st ρ fun ρ1 h2 => .nx ρ1 h2) D := g1
    unfold setF at g1
    split at g1
    · rename_i hh2 es
      split at es
      · rename_i n
        cases ru with
        | @ref _ ad eφ =>
          obtain ⟨w, e1, ro⟩ := hr2.ro eφ
          rw [e1] at es
          cases ro with
          | @ins dx fs c' ks ds q1 q2 q3 =>
            dsimp only at es
            split at es
            · rename_i hc
              cases es
              obtain ⟨hc1, hc2⟩ := and_ hc
              have hl := Nat.le_of_ble_eq_true hc2
              obtain ⟨k1, k2⟩ := c.fa.fld c' i hc1
              have en := c.fa.nm i f hnm
              have hw : XT φ2 H2 φ2 (upd H2 ad (.ins (L.cl c') dx (L2.putF f b fs))) := XT.write hr2 (List.mem_of_getElem? eφ)
              obtain ⟨p1, p2⟩ := putF_ok c.fa.inj ((rx.mono t2).mono hw) q2 (q3.mono hw) (k := i)
              rw [en] at p1 p2 k2
              refine ⟨ad, L.cl c', dx, fs, rfl, q1, k1, k2, ?_, ?_⟩
              · have := congrArg List.length q2
                rw [List.length_map, List.length_map] at this
                omega
              · exact g1 φ2 _ σ (t2.trans hw) (HR.write hr2 eφ (.ins upd_same p1 p2)) (((er.mono tt).mono t2).mono hw)
            · cases es
          | _ => cases es
      · cases es
    · exact (show False from g1).elim
theorem st_asg {t e : E} : StOk T L P orc k (.asg t e) := by
  intro X W c x hb h
  unfold ckS at h
  split at h
  · rename_i x' x y p e0
    cases e0
    split at h
    · obtain ⟨h1, h⟩ := and_ h
      obtain ⟨h2, h⟩ := and_ h
      obtain ⟨h3, h4⟩ := and_ h
      rcases Bool.or_eq_true_iff.mp h4 with z | z
      · exact asg_name c (of_decide_eq_true h1) h2 h3 z
      · exact asg_lc c (of_decide_eq_true h1) h3 z
    · obtain ⟨h1, h⟩ := and_ h
      obtain ⟨h2, h⟩ := and_ h
      obtain ⟨h3, h4⟩ := and_ h
      exact asg_fld c (of_decide_eq_true h1) h2 h3 h4
    · exact asg_gen c h
  · cases h
end
end MV

set_option maxRecDepth 100000
set_option maxHeartbeats 1000000
/-! VN: stores in a row, loops; all statements. -/
namespace MV
open PySem PySem.Spec PyProof.Rows L2
section
variable {T : Tb} {L : Lk} {P : Prog} {orc : Orc} {k : Nat}
/-! ### a, b = x, y -/
theorem ckPar_nil {N : List Str} {sc : Scope} {ts : List Expr} {l : Nat} (h : ckPar N sc [] ts l = true) : ts = [] := by
  cases ts with
  | nil => rfl
  | cons _ _ => cases h
theorem ckPar_cons {N : List Str} {sc : Scope} {i : Nat} {is : List Nat} {ts : List Expr} {l : Nat} (h : ckPar N sc (i :: is) ts l = true) : ∃ x p r, ts = .Name x p :: r ∧ N[i]? = some x ∧ locB sc x = true ∧ (p.line == l) = true ∧ ckPar N sc is r l = true := by
  cases ts with
  | nil => cases h
  | cons t r =>
    cases t <;> first | (cases h; done) | skip
    rename_i x p
    have h : (decide (N[i]? = some x) && (locB sc x && ((p.line == l) && ckPar N sc is r l))) = true := h
    obtain ⟨h1, h⟩ := and_ h
    obtain ⟨h2, h⟩ := and_ h
    obtain ⟨h3, h4⟩ := and_ h
    exact ⟨x, p, r, rfl, of_decide_eq_true h1, h2, h3, h4⟩
theorem nsAny : ∀ {vs : List Expr}, nsAll vs = true → (vs.any fun | .Starred .. => true | _ => false) = false
  | [], _ => rfl
  | v :: vs, h => by
    obtain ⟨h1, h2⟩ := and_ (show (nsB v && nsAll vs) = true from h)
    rw [List.any_cons, nsAny h2, Bool.or_false]
    cases v <;> first | rfl | cases h1
theorem kindLoc {env : PySem.Env} {x : Str} (h : locB env.scope x = true) : (env.kindOf x == some .local) = true := by
  have : env.kindOf x = some .local := locB_ h
  rw [this]
  rfl
theorem ssSome {env : PySem.Env} {ts vs : List Expr} {k1 k2 : Nat} {p1 p2 : Pos} {ns : List Str} (hk : env.scope.kind = .function) (hl : ((ts.length == 2 || ts.length == 3) && vs.length == ts.length) = true) (hs : nsAll vs = true)
    (hn : (ts.filterMap fun
      | .Name id pos => if env.kindOf id == some .local && pos.line == (ts.head?.map (·.pos.line)).getD 0 then some id else none
      | _ => none) = ns) (hnl : ns.length = ts.length) (hnd : ns.eraseDups.length = ns.length) (c1 : (vs.all (foldedForSure 8)) = false) (c2 : (vs.all (constantsAlone 8)) = false) :
    swappedStores [.Tuple ts k1 p1] (.Tuple vs k2 p2) env = pure (some ns) := by
  obtain ⟨l1, l2⟩ := and_ hl
  unfold swappedStores
  simp only [pure_bind, blockFn hk]
  refine (if_neg ?_).trans ?_
  · rw [l1, show (vs.length != ts.length) = false by simpa using l2]
    simp
  refine (if_neg (fun q => Bool.noConfusion ((nsAny hs).symm.trans q))).trans ?_
  have hn' : (ts.filterMap fun
      | .Name id pos => if env.kindOf id == some .local && pos.line == (ts.head?.map (·.pos.line)).getD 0 then some id else none
      | _ => none) = ns := hn
  refine (if_neg (fun q => ?_)).trans ?_
  · have e1 : (ns.length != ts.length || ns.eraseDups.length != ns.length) = true := by
      rw [← hn']
      exact q
    rw [hnl, hnd, hnl] at e1
    simp at e1
  refine (if_neg (by rw [c1]; simp)).trans ?_
  refine (if_neg (by rw [c2]; simp)).trans ?_
  exact congrArg (fun z => pure (some z)) hn'
theorem dup2 {x y : Str} (h : x ≠ y) : ([x, y] : List Str).eraseDups.length = 2 := by
  have e : (y == x) = false := by simpa using Ne.symm h
  simp [List.eraseDups_cons, e]
theorem dup3 {x y z : Str} (h1 : x ≠ y) (h2 : x ≠ z) (h3 : y ≠ z) : ([x, y, z] : List Str).eraseDups.length = 3 := by
  have e1 : (y == x) = false := by simpa using Ne.symm h1
  have e2 : (z == x) = false := by simpa using Ne.symm h2
  have e3 : (z == y) = false := by simpa using Ne.symm h3
  simp [List.eraseDups_cons, e1, e2, e3]
theorem fm2 {f : Expr → Option Str} {a b : Expr} {x y : Str} (h1 : f a = some x) (h2 : f b = some y) : [a, b].filterMap f = [x, y] := by
  rw [List.filterMap_cons_some h1, List.filterMap_cons_some h2, List.filterMap_nil]
theorem fm3 {f : Expr → Option Str} {a b c : Expr} {x y z : Str} (h1 : f a = some x) (h2 : f b = some y) (h3 : f c = some z) : [a, b, c].filterMap f = [x, y, z] := by
  rw [List.filterMap_cons_some h1, List.filterMap_cons_some h2, List.filterMap_cons_some h3, List.filterMap_nil]
theorem nne {N : List Str} {i j : Nat} {x y : Str} (nd : N.Nodup) (hi : N[i]? = some x) (hj : N[j]? = some y) (h : i ≠ j) : x ≠ y := fun z => by
  subst z
  exact h ((List.getElem?_inj (List.getElem?_eq_some_iff.mp hi).1 nd).mp (hi.trans hj.symm))
theorem par_read {Dn : Ends} {W : WX} {ns : List Nat} {es : E} {σ : L2.St} {H : Hp} (q : rdS L W (run P orc (.par ns es)) Dn σ H) : rdA L W (evs P orc es) σ H fun vs H1 => ∃ (F : Fm) (φ1 : List Addr) (ρ : Env) (h1 : HH) (ds : List D), HR L F φ1 h1 H1 ∧ ER L F φ1 H1 ρ σ ∧ Rels L F φ1 H1 ds vs ∧ ds.length = ns.length ∧ GS L F φ1 H1 W (.nx (setAll ns ds ρ) h1) Dn := by
  obtain ⟨F, φ, ρ, hh, hr, er, g⟩ := q
  refine ⟨F, φ, ρ, hh, hr, er, ?_⟩
  refine GS.st (Rl := fun φ H d v => Rels L F φ H d v) (show GS L F φ H W ((evs P orc es ρ hh).st ρ fun ds h1 => match ds.length == ns.length with
    | true => .nx (setAll ns ds ρ) h1
    | false => .no) Dn from g) er fun a h1 φ1 H1 b _ tt hr1 rx g1 => ?_
  split at g1
  · rename_i e
    exact ⟨F, φ1, ρ, h1, a, hr1, er.mono tt, rx, beq_iff_eq.mp e, g1⟩
  · exact g1.elim
theorem st_par {ns : List Nat} {es : E} : StOk T L P orc k (.par ns es) := by
  intro X W c x hb h
  unfold ckS at h
  split at h
  · rename_i x' ts k1 p1 vs k2 p2 p e0
    cases e0
    obtain ⟨h1, h⟩ := and_ h
    obtain ⟨h2, h⟩ := and_ h
    obtain ⟨h3, h⟩ := and_ h
    obtain ⟨h4, h⟩ := and_ h
    obtain ⟨h5, h⟩ := and_ h
    obtain ⟨h6, h⟩ := and_ h
    obtain ⟨h7, h8⟩ := and_ h
    have h4 := of_decide_eq_true h4
    have h7 := of_decide_eq_true h7
    have h5 : vs.all (constantsAlone 8) = false := by simpa using h5
    have h6 : vs.all (foldedForSure 8) = false := by simpa using h6
    match ns, h1, h7, h8, h4 with
    | [i, j], h1, h7, h8, h4 =>
      obtain ⟨x1, q1, r1, rfl, n1, l1, e1, h1⟩ := ckPar_cons h1
      obtain ⟨x2, q2, r2, rfl, n2, l2, e2, h1⟩ := ckPar_cons h1
      cases ckPar_nil h1
      have ij : i ≠ j := fun z => by simp [z] at h7
      have hv : vs.length = 2 := h4
      obtain ⟨a, b, rfl⟩ : ∃ a b, vs = [a, b] := by
        match vs, hv with
        | [a, b], _ => exact ⟨a, b, rfl⟩
      refine (ps_par c.calm c.nd n1 n2 ij (locB_ l1) (locB_ l2) ((exprOk es _).es X W c.toCX1 _ h2) (ssSome c.kind rfl h3 ?_ rfl (dup2 (nne c.nd n1 n2 ij)) h6 h5)).imp fun D σ H q => ?_
      · refine fm2 (if_pos ?_) (if_pos ?_)
        · show (X.env.kindOf x1 == some .local && q1.line == q1.line) = true
          rw [kindLoc l1]
          simp
        · show (X.env.kindOf x2 == some .local && q2.line == q1.line) = true
          rw [kindLoc l2, show (q2.line == q1.line) = true from e2]
          rfl
      · obtain ⟨F, φ, ρ, hh, hr, er, g⟩ := par_read q
        refine ⟨F, φ, ρ, hh, hr, er, G.imp g fun vs H1 ⟨F, φ1, ρ, h1, ds, hr1, er1, rs, hl, g1⟩ => ?_⟩
        match ds, hl, rs with
        | [d1, d2], _, .cons r1 (.cons r2 .nil) => exact ⟨_, _, rfl, g1 φ1 H1 _ (.refl _ _) hr1 ((er1.set r1).set r2)⟩
    | [i, j, l], h1, h7, h8, h4 =>
      obtain ⟨x1, q1, r1, rfl, n1, l1, e1, h1⟩ := ckPar_cons h1
      obtain ⟨x2, q2, r2, rfl, n2, l2, e2, h1⟩ := ckPar_cons h1
      obtain ⟨x3, q3, r3, rfl, n3, l3, e3, h1⟩ := ckPar_cons h1
      cases ckPar_nil h1
      have ij : i ≠ j := fun z => by simp [z] at h7
      have il : i ≠ l := fun z => by simp [z] at h7
      have jl : j ≠ l := fun z => by simp [z] at h7
      have hv : vs.length = 3 := h4
      obtain ⟨a, b, d, rfl⟩ : ∃ a b d, vs = [a, b, d] := by
        match vs, hv with
        | [a, b, d], _ => exact ⟨a, b, d, rfl⟩
      refine (ps_par3 c.calm c.nd n1 n2 n3 ij il jl (locB_ l1) (locB_ l2) (locB_ l3) ((exprOk es _).es X W c.toCX1 _ h2) (ssSome c.kind rfl h3 ?_ rfl (dup3 (nne c.nd n1 n2 ij) (nne c.nd n1 n3 il) (nne c.nd n2 n3 jl)) h6 h5)).imp fun D σ H q => ?_
      · refine fm3 (if_pos ?_) (if_pos ?_) (if_pos ?_)
        · show (X.env.kindOf x1 == some .local && q1.line == q1.line) = true
          rw [kindLoc l1]
          simp
        · show (X.env.kindOf x2 == some .local && q2.line == q1.line) = true
          rw [kindLoc l2, show (q2.line == q1.line) = true from e2]
          rfl
        · show (X.env.kindOf x3 == some .local && q3.line == q1.line) = true
          rw [kindLoc l3, show (q3.line == q1.line) = true from e3]
          rfl
      · obtain ⟨F, φ, ρ, hh, hr, er, g⟩ := par_read q
        refine ⟨F, φ, ρ, hh, hr, er, G.imp g fun vs H1 ⟨F, φ1, ρ, h1, ds, hr1, er1, rs, hl, g1⟩ => ?_⟩
        match ds, hl, rs with
        | [d1, d2, d3], _, .cons r1 (.cons r2 (.cons r3 .nil)) => exact ⟨_, _, _, rfl, g1 φ1 H1 _ (.refl _ _) hr1 (((er1.set r1).set r2).set r3)⟩
    | [], _, _, h8, _ => cases h8
    | [_], _, _, h8, _ => cases h8
    | _ :: _ :: _ :: _ :: _, _, _, h8, _ => simp at h8
  · cases h
/-! ### name op= e -/
theorem ip_mul {X : Cx} : PIp X .Mult (fun x y H Q => ∃ i j, x = .int i ∧ y = .int j ∧ mulOk i j = true ∧ Q (.int (i * j)) H) := by
  intro pins s σ H x y v u Q I r1 r2 h
  obtain ⟨i, j, e1, e2, hm, q⟩ := h
  subst e1; subst e2
  obtain ⟨t, rfl⟩ := r1
  obtain ⟨t', rfl⟩ := r2
  exact PySem.AutoIntOps.imul_0 (show (Made.int (i * j)).post _ s from ⟨V.int _, H, I.tok _, ⟨_, rfl⟩, q⟩) (mulOk_ok hm)
def binI (op : Operator) (a b : Int) : Option Int := match op with
  | .Add => some (a + b)
  | .Sub => some (a - b)
  | .Mult => if mulOk a b then some (a * b) else none
  | .FloorDiv => if divOk b then some (a.fdiv b) else none
  | .Mod => if b != 0 then some (a.fmod b) else none
  | .Pow => if powOk a b then some (a ^ b.toNat) else none
  | _ => none
theorem binI_eq (op : Operator) (m : Bool) (a b : Int) (h : HH) : binD op m (.int a) (.int b) h = R.of ((binI op a b).map D.int) h := by
  cases op <;> first | rfl | skip
  · simp only [binD, mulD, binI]
    cases mulOk a b <;> rfl
  · simp only [binD, modD, binI]
    cases (b != 0) <;> rfl
  · simp only [binD, powD, binI]
    cases powOk a b <;> rfl
  · simp only [binD, divD, binI]
    cases divOk b <;> rfl
theorem bin_same {op : Operator} {a b m m' : Int} {h1 h2 : HH} (e : binD op false (.int a) (.int b) h1 = .ok (.int m) h1) (e' : binD op false (.int a) (.int b) h2 = .ok (.int m') h2) : m = m' := by
  rw [binI_eq] at e e'
  cases h : binI op a b with
  | none =>
    rw [h] at e
    cases e
  | some z =>
    rw [h] at e e'
    cases e
    cases e'
    rfl
theorem aug_read {D : Ends} {W : WX} {i : Nat} {op : Operator} {e : E} {σ : L2.St} {H : Hp} {ti : TIp} (q : rdS L W (run P orc (.aug i op e)) D σ H)
    (ht : ∀ (a b : Int) (H1 : Hp) (Q : VK), (∀ (h1 : HH) (m : Int), binD op false (.int a) (.int b) h1 = .ok (.int m) h1 → True) → (∀ h1, ∃ m, binD op false (.int a) (.int b) h1 = .ok (.int m) h1) → (∀ h1 m, binD op false (.int a) (.int b) h1 = .ok (.int m) h1 → Q (.int m) H1) → ti (.int a) (.int b) H1 Q) 
    (hu : ∀ (a b : Int) (h1 : HH), binD op false (.int a) (.int b) h1 ≠ .no → ∀ h2, ∃ m, binD op false (.int a) (.int b) h2 = .ok (.int m) h2) : tAug i (rdE L W (ev P orc e)) ti D σ H := by
  obtain ⟨F, φ, ρ, hh, hr, er, g⟩ := q
  have g : GS L F φ H W (match ρ[i]? with
    | some (some x) => (ev P orc e ρ hh).st ρ fun y h1 => (match x, y with
      | .int _, .int _ => (binD op false x y h1).st ρ fun z h2 => .nx (ρ.set i (some z)) h2
      | _, _ => .no)
    | _ => .no) D := g
  split at g
  · rename_i x e1
    obtain ⟨v, e2, rv⟩ := er.at_ i x e1
    refine ⟨v, e2, F, φ, ρ, hh, hr, er, ?_⟩
    refine GS.st (Rl := fun φ H d v => Rel L F φ H d v) g er fun a h1 φ1 H1 b _ tt hr1 rx g1 => ?_
    split at g1
    · rename_i n1 n2 _
      cases rv
      cases rx
      have hn : binD op false (.int n1) (.int n2) h1 ≠ .no := fun z => by
        rw [z] at g1
        exact g1.elim
      refine ht _ _ _ _ (fun _ _ _ => trivial) (hu _ _ _ hn) fun h2 m em => ?_
      obtain ⟨m', em'⟩ := hu _ _ _ hn h1
      have hm : m = m' := bin_same em em'
      subst hm
      rw [em'] at g1
      exact g1 φ1 H1 _ (.refl _ _) hr1 ((er.mono tt).set (.int m))
    · exact g1.elim
  · exact g.elim
theorem st_aug {i : Nat} {op : Operator} {e : E} : StOk T L P orc k (.aug i op e) := by
  intro X W c x hb h
  unfold ckS at h
  split at h
  · rename_i x' n q o y p e0
    cases e0
    obtain ⟨h1, h⟩ := and_ h
    obtain ⟨h2, h⟩ := and_ h
    obtain ⟨h3, h⟩ := and_ h
    obtain ⟨h4, h5⟩ := and_ h
    have h4 := of_decide_eq_true h4
    subst h4
    have fnx : X.fn n = true ∨ X.env.scope.names.lookup n = some .local := .inl (by rw [c.fn])
    have hy := (exprOk e _).ev X W c.toCX1 _ h5
    have h1 := of_decide_eq_true h1
    cases o <;> first | (cases h3; done) | skip
    · refine (ps_aug c.nd h1 (stoB_ h2) hy ip_add fnx).imp fun D σ H q => aug_read q (fun a b H1 Q _ _ hq => ⟨a, b, rfl, rfl, hq [] _ rfl⟩) fun a b h1 _ h2 => ⟨_, rfl⟩
    · refine (ps_aug c.nd h1 (stoB_ h2) hy ip_sub fnx).imp fun D σ H q => aug_read q (fun a b H1 Q _ _ hq => ⟨a, b, rfl, rfl, hq [] _ rfl⟩) fun a b h1 _ h2 => ⟨_, rfl⟩
    · have key : ∀ (a b : Int) (h1 : HH), binD .Mult false (.int a) (.int b) h1 = (match mulOk a b with
        | true => R.ok (.int (a * b)) h1
        | false => .no) := fun _ _ _ => rfl
      refine (ps_aug c.nd h1 (stoB_ h2) hy ip_mul fnx).imp fun D σ H q => aug_read q (fun a b H1 Q _ he hq => ?_) fun a b h1 hn h2 => ?_
      · obtain ⟨m, em⟩ := he []
        rw [key] at em
        cases hm : mulOk a b with
        | false =>
          rw [hm] at em
          cases em
        | true => exact ⟨a, b, rfl, rfl, hm, hq [] _ (by rw [key, hm])⟩
      · rw [key] at hn ⊢
        cases hm : mulOk a b with
        | false =>
          rw [hm] at hn
          exact absurd rfl hn
        | true => exact ⟨_, rfl⟩
  · cases h
/-! ### loops -/
def loopAt (f : D → Env → HH → RS) (I : Itr) (m i : Nat) (ρ : Env) (h : HH) : RS := match I with
  | .items l => (match m == l.length - i with
    | true => loopL f (l.drop i) ρ h
    | false => .no)
  | .live n => loopLive f n m i ρ h
theorem loop_step {f : D → Env → HH → RS} {I : Itr} {m i : Nat} {ρ : Env} {h : HH} {r : RS} (e : loopAt f I m i ρ h = r) (hn : r ≠ .no) :
    (itGet I i h = some none ∧ r = .nx ρ h) ∨ ∃ m' x, m = m' + 1 ∧ itGet I i h = some (some x) ∧ r = (match f x ρ h with
      | .nx ρ1 h1 => loopAt f I m' (i + 1) ρ1 h1
      | .ct ρ1 h1 => loopAt f I m' (i + 1) ρ1 h1
      | .bk ρ1 h1 => .nx ρ1 h1
      | z => z) := by
  cases I with
  | items l =>
    unfold loopAt at e
    dsimp only at e
    split at e
    · rename_i em
      have em := beq_iff_eq.mp em
      cases hd : l.drop i with
      | nil =>
        rw [hd] at e
        refine .inl ⟨?_, e.symm⟩
        show some l[i]? = some none
        rw [List.getElem?_eq_none (List.drop_eq_nil_iff.mp hd)]
      | cons x rest =>
        rw [hd] at e
        have hi : i < l.length := Nat.lt_of_not_le fun z => by
          rw [List.drop_eq_nil_iff.mpr z] at hd
          cases hd
        have hx : l[i]? = some x := by
          have : (l.drop i)[0]? = some x := by rw [hd] <;> rfl
          rw [List.getElem?_drop, Nat.add_zero] at this
          exact this
        have hr : l.drop (i + 1) = rest := by
          rw [← List.drop_drop, hd] <;> rfl
        have hb : (l.length - (i + 1) == l.length - (i + 1)) = true := beq_self_eq_true _
        refine .inr ⟨l.length - (i + 1), x, by omega, congrArg some hx, ?_⟩
        rw [← e]
        have la : ∀ ρ1 h1, loopAt f (.items l) (l.length - (i + 1)) (i + 1) ρ1 h1 = loopL f rest ρ1 h1 := fun ρ1 h1 => by
          unfold loopAt
          dsimp only
          rw [hb, hr]
        show (match f x ρ h with
          | .nx ρ1 h1 => loopL f rest ρ1 h1
          | .ct ρ1 h1 => loopL f rest ρ1 h1
          | .bk ρ1 h1 => .nx ρ1 h1
          | z => z) = _
        cases f x ρ h <;> first | rfl | (dsimp only; rw [la])
    · exact absurd e.symm hn
  | live n =>
    have e : loopLive f n m i ρ h = r := e
    cases m with
    | zero => exact absurd e.symm hn
    | succ m =>
      unfold loopLive at e
      split at e
      · rename_i l el
        split at e
        · rename_i x ex
          refine .inr ⟨m, x, rfl, ?_, e.symm⟩
          unfold itGet
          dsimp only
          rw [el, ← ex]
        · rename_i ex
          refine .inl ⟨?_, e.symm⟩
          unfold itGet
          dsimp only
          rw [el, ← ex]
      · exact absurd e.symm hn
theorem loopI_at (f : D → Env → HH → RS) (I : Itr) (ρ : Env) (h : HH) : ∃ m, loopI f I ρ h = loopAt f I m 0 ρ h := by
  cases I with
  | items l =>
    refine ⟨l.length, ?_⟩
    unfold loopAt
    dsimp only
    rw [show (l.length == l.length - 0) = true by simp]
    rfl
  | live n => exact ⟨fuel, rfl⟩
theorem gs_ne {F : Fm} {φ : List Addr} {H : Hp} {W : WX} {r : RS} {D : Ends} (g : GS L F φ H W r D) : r ≠ .no := fun z => by
  rw [z] at g
  exact g
theorem st_loop {t it : E} {b : S} (hb : SsOk T L P orc k b) : StOk T L P orc k (.loop t it b) := by
  intro X W c x hbs h
  unfold ckS at h
  split at h
  · rename_i x' tg y body p e0
    cases e0
    obtain ⟨h1, h⟩ := and_ h
    obtain ⟨h2, h⟩ := and_ h
    obtain ⟨h3, h4⟩ := and_ h
    have hg : PG X tg (rdG L (tgSlots t) (asg P orc t)) := (exprOk t _).tg X W c.toCX1 tg (by rw [c.fn]; exact h2)
    refine (ps_for c.own c.calm ((exprOk it _).it X W c.toCX1 tg y h3) hg (hb X W c body h4) (sdIt _ _ h1)).imp fun D σ H ⟨F, φ, ρ, hh, hr, er, g⟩ => ?_
    refine ⟨F, φ, ρ, hh, hr, er, ?_⟩
    refine GS.st (Rl := fun φ H I J => ItOk L F φ H J I) (show GS L F φ H W ((itm P orc it ρ hh).st ρ fun I h1 => loopI (fun x ρ1 h2 => (asg P orc t x ρ1 h2).pur.st ρ1 fun ρ2 h3 => run P orc b ρ2 h3) I ρ h1) D from g) er fun I h1 φ1 H1 J _ tt hr1 io g1 => ?_
    generalize hf : (fun x ρ1 h2 => (asg P orc t x ρ1 h2).pur.st ρ1 fun ρ2 h3 => run P orc b ρ2 h3) = f at g1
    obtain ⟨m0, e0⟩ := loopI_at f I ρ h1
    rw [e0] at g1
    refine ⟨fun i m σ' H' => ∃ (φ' : List Addr) (ρ' : Env) (h' : HH), XT φ1 H1 φ' H' ∧ HR L F φ' h' H' ∧ ER L F φ' H' ρ' σ' ∧ GS L F φ' H' W (loopAt f I m i ρ' h') D, ⟨m0, φ1, ρ, h1, .refl _ _, hr1, er.mono tt, g1⟩, ?_⟩
    rintro i m σ' H' ⟨φ', ρ', h', t', hr', er', g'⟩
    obtain ⟨io1, io2⟩ := io F (fun _ _ _ z => z) (fun _ z => z) i φ' H' h' t' hr'
    rcases loop_step rfl (gs_ne g') with ⟨e1, e2⟩ | ⟨m', x, rfl, e1, e2⟩
    · rw [e2] at g'
      exact .inl ⟨io2 e1, g' φ' H' σ' (.refl _ _) hr' er'⟩
    · rw [e2] at g'
      obtain ⟨go, yl⟩ := io1 x e1
      refine .inr ⟨go, fun σ2 H2 => ∃ m2, m2 < m' + 1 ∧ ∃ (φ' : List Addr) (ρ' : Env) (h' : HH), XT φ1 H1 φ' H2 ∧ HR L F φ' h' H2 ∧ ER L F φ' H2 ρ' σ2 ∧ GS L F φ' H2 W (loopAt f I m2 (i + 1) ρ' h') D, fun _ _ q => q, fun v H2 y => ?_⟩
      obtain ⟨ty, hry, rx⟩ := yl v H2 y
      refine ⟨F, φ', ρ', h', x, hry, er'.mono ty, rx, ?_⟩
      rw [← hf] at g'
      dsimp only at g'
      cases ea : asg P orc t x ρ' h' with
      | exc _ _ _ _ =>
        rw [ea] at g'
        exact (show False from g').elim
      | no =>
        rw [ea] at g'
        exact (show False from g').elim
      | ok ρ2 h3 =>
        rw [ea] at g'
        rw [hf] at g'
        intro φ3 H3 σ3 t3 hr3 er3 _
        refine ⟨F, φ3, ρ2, h3, hr3, er3, ?_⟩
        have g' : GS L F φ' H' W (match run P orc b ρ2 h3 with
          | .nx ρ1 h1 => loopAt f I m' (i + 1) ρ1 h1
          | .ct ρ1 h1 => loopAt f I m' (i + 1) ρ1 h1
          | .bk ρ1 h1 => .nx ρ1 h1
          | z => z) D := g'
        have t13 := (t'.trans ty).trans t3
        have g3 := GS.mono (ty.trans t3) g'
        cases er : run P orc b ρ2 h3 with
        | nx ρ4 h4 =>
          rw [er] at g3
          exact fun φ5 H5 σ5 t5 hr5 er5 => ⟨m', Nat.lt_succ_self _, φ5, ρ4, h4, t13.trans t5, hr5, er5, GS.mono t5 g3⟩
        | ct ρ4 h4 =>
          rw [er] at g3
          exact fun φ5 H5 σ5 t5 hr5 er5 => ⟨m', Nat.lt_succ_self _, φ5, ρ4, h4, t13.trans t5, hr5, er5, GS.mono t5 g3⟩
        | bk ρ4 h4 =>
          rw [er] at g3
          exact g3
        | rt d h4 =>
          rw [er] at g3
          exact g3
        | exc _ _ _ _ _ =>
          rw [er] at g3
          exact g3
        | no =>
          rw [er] at g3
          exact g3
  · cases h
theorem st_whil {e : E} {b : S} (hb : SsOk T L P orc k b) : StOk T L P orc k (.whil e b) := by
  intro X W c x hbs h
  unfold ckS at h
  split at h
  · rename_i x' y body p e0
    cases e0
    obtain ⟨h1, h2⟩ := and_ h
    refine (ps_while c.own ((exprOk e _).ts X W c.toCX1 _ h1) (hb X W c body h2)).imp fun D σ H ⟨F, φ, ρ, hh, hr, er, g⟩ => ?_
    refine ⟨fun m σ' H' => ∃ (φ' : List Addr) (ρ' : Env) (h' : HH), XT φ H φ' H' ∧ HR L F φ' h' H' ∧ ER L F φ' H' ρ' σ' ∧ GS L F φ' H' W (whileL (tst P orc e) (run P orc b) m ρ' h') D, ⟨fuel, φ, ρ, hh, .refl _ _, hr, er, g⟩, ?_⟩
    rintro m σ' H' ⟨φ', ρ', h', t', hr', er', g'⟩
    cases m with
    | zero => exact g'.elim
    | succ m =>
      refine ⟨F, φ', ρ', h', hr', er', ?_⟩
      refine GS.st (Rl := fun _ _ a b => a = b) (show GS L F φ' H' W ((tst P orc e ρ' h').st ρ' fun b1 h1 => match b1 with
        | true => (match run P orc b ρ' h1 with
          | .nx ρ1 h1 => whileL (tst P orc e) (run P orc b) m ρ1 h1
          | .ct ρ1 h1 => whileL (tst P orc e) (run P orc b) m ρ1 h1
          | .bk ρ1 h1 => .nx ρ1 h1
          | z => z)
        | false => .nx ρ' h1) D from g') er' fun a h1 φ1 H1 b1 _ tt hr1 rx g1 => ?_
      subst rx
      cases a with
      | false =>
        rw [if_neg Bool.false_ne_true]
        exact g1 φ1 H1 _ (.refl _ _) hr1 (er'.mono tt)
      | true =>
        rw [if_pos rfl]
        refine ⟨fun σ2 H2 => ∃ m2, m2 < m + 1 ∧ ∃ (φ' : List Addr) (ρ' : Env) (h' : HH), XT φ H φ' H2 ∧ HR L F φ' h' H2 ∧ ER L F φ' H2 ρ' σ2 ∧ GS L F φ' H2 W (whileL (tst P orc e) (run P orc b) m2 ρ' h') D, fun _ _ q => q, F, φ1, ρ', h1, hr1, er'.mono tt, ?_⟩
        have t13 := t'.trans tt
        dsimp only at g1
        cases er : run P orc b ρ' h1 with
        | nx ρ4 h4 =>
          rw [er] at g1
          exact fun φ5 H5 σ5 t5 hr5 er5 => ⟨m, Nat.lt_succ_self _, φ5, ρ4, h4, t13.trans t5, hr5, er5, GS.mono t5 g1⟩
        | ct ρ4 h4 =>
          rw [er] at g1
          exact fun φ5 H5 σ5 t5 hr5 er5 => ⟨m, Nat.lt_succ_self _, φ5, ρ4, h4, t13.trans t5, hr5, er5, GS.mono t5 g1⟩
        | bk ρ4 h4 =>
          rw [er] at g1
          exact g1
        | rt d h4 =>
          rw [er] at g1
          exact g1
        | exc _ _ _ _ _ =>
          rw [er] at g1
          exact g1
        | no =>
          rw [er] at g1
          exact g1
  · cases h
/-! ### all -/
theorem stmtOk : ∀ s : S, StOk T L P orc k s ∧ SsOk T L P orc k s
  | .skip => ⟨fun X W c x hb => (nomatch hb), ss_skip⟩
  | .seq s t => ⟨fun X W c x hb => (nomatch hb), ss_seq (stmtOk s).1 (stmtOk t).2⟩
  | .ex e => ⟨st_ex, ss_one rfl st_ex⟩
  | .asg t e => ⟨st_asg, ss_one rfl st_asg⟩
  | .par ns es => ⟨st_par, ss_one rfl st_par⟩
  | .aug i op e => ⟨st_aug, ss_one rfl st_aug⟩
  | .ite c s t => ⟨st_ite (stmtOk s).2 (stmtOk t).2, ss_one rfl (st_ite (stmtOk s).2 (stmtOk t).2)⟩
  | .loop t it b => ⟨st_loop (stmtOk b).2, ss_one rfl (st_loop (stmtOk b).2)⟩
  | .whil c b => ⟨st_whil (stmtOk b).2, ss_one rfl (st_whil (stmtOk b).2)⟩
  | .ret e => ⟨st_ret, ss_one rfl st_ret⟩
  | .retN => ⟨st_retN, ss_one rfl st_retN⟩
  | .brk => ⟨st_brk, ss_one rfl st_brk⟩
  | .cnt => ⟨st_cnt, ss_one rfl st_cnt⟩
  | .pass => ⟨st_pass, ss_one rfl st_pass⟩
  | .rais n es => ⟨st_rais, ss_one rfl st_rais⟩
end
end MV

set_option maxRecDepth 100000
set_option maxHeartbeats 1000000
/-! VNx: own exceptions are made and raised. -/
namespace MV
open PySem PySem.Spec PyProof.Rows L2
def selW (vs : List V) : Sel → Option V
  | .a k => vs[k]?
  | .d (.str t) => some (.str t)
  | _ => none
/-- the fields' values, by the arguments -/
inductive Fw (nm : Nat → Str) (vs : List V) : List (Nat × Sel) → List (Str × V) → Prop
  | nil : Fw nm vs [] []
  | cons {p : Nat × Sel} {v : V} {r : List (Nat × Sel)} {l : List (Str × V)} : selW vs p.2 = some v → Fw nm vs r l → Fw nm vs (p :: r) ((nm p.1, v) :: l)
section
variable {nm : Nat → Str} {vs : List V}
theorem Fw.app : ∀ {a c : List (Nat × Sel)} {b d : List (Str × V)}, Fw nm vs a b → Fw nm vs c d → Fw nm vs (a ++ c) (b ++ d)
  | _, _, _, _, .nil, y => y
  | _, _, _, _, .cons e x, y => .cons e (x.app y)
theorem Fw.rev : ∀ {a : List (Nat × Sel)} {b : List (Str × V)}, Fw nm vs a b → Fw nm vs a.reverse b.reverse
  | _, _, .nil => .nil
  | _, _, .cons e x => by
    rw [List.reverse_cons, List.reverse_cons]
    exact x.rev.app (.cons e .nil)
theorem Fw.len : ∀ {a : List (Nat × Sel)} {b : List (Str × V)}, Fw nm vs a b → b.length = a.length
  | _, _, .nil => rfl
  | _, _, .cons _ x => congrArg Nat.succ x.len
theorem Fw.names : ∀ {a : List (Nat × Sel)} {b : List (Str × V)}, Fw nm vs a b → b.map (·.1) = (a.map (·.1)).map nm
  | _, _, .nil => rfl
  | _, _, .cons _ x => congrArg (List.cons _) x.names
end
/-- the text of an exception's own start: its fields, the first one first -/
def iniB (T : Tb) (N : List Str) (sc : Scope) : List (Nat × Sel) → List Stmt → Bool
  | [], l => (match l with
    | [] => true
    | _ => false)
  | (i, sl) :: r, l => (match l with
    | .Assign [.Attribute o f _] y _ :: m => decide (T.nm[i]? = some f) && (ck T N (.v 0) sc o && ((match sl with
      | .a k => ck T N (.v (k + 1)) sc y
      | .d x => (match x, y with
        | .str t, .Constant (.str u) _ _ => decide (t = u)
        | _, _ => false)) && (ncB y && iniB T N sc r m)))
    | _ => false)
theorem var_pe {T : Tb} {X : Cx} {i : Nat} {x : Expr} (h : ck T X.N (.v i) X.env.scope x = true) : PE X x (tVar i) := by
  unfold ck at h
  split at h
  · obtain ⟨h1, h⟩ := and_ h
    obtain ⟨h2, h⟩ := and_ h
    obtain ⟨h3, h4⟩ := and_ h
    exact pe_var (of_decide_eq_true h1) (visB_ h2) (by simpa using h3) (by simpa using h4)
  · cases h
theorem upd_upd {H : Hp} {a : Addr} {o u : HO} : upd (upd H a o) a u = upd H a u := by
  funext b
  by_cases z : b = a
  · rw [z, upd_same, upd_same]
  · rw [upd_ne z, upd_ne z, upd_ne z]
theorem upd_back {H : Hp} {a : Addr} {o : HO} (e : H a = some o) : upd H a o = H := by
  funext b
  by_cases z : b = a
  · rw [z, upd_same, e]
  · rw [upd_ne z]
theorem upd_comm {H : Hp} {a b : Addr} {o u : HO} (n : a ≠ b) : upd (upd H a o) b u = upd (upd H b u) a o := by
  funext c
  by_cases z : c = a
  · subst z
    rw [upd_ne n, upd_same, upd_same]
  · by_cases y : c = b
    · subst y
      rw [upd_same, upd_ne z, upd_same]
    · rw [upd_ne y, upd_ne z, upd_ne z, upd_ne y]
section
variable {T : Tb} {nm : Nat → Str} {X : Cx}
/-- the slots hold self and the arguments -/
def SlW (σ : L2.St) (a : Addr) (vs : List V) : Prop := σ[0]? = some (some (.ref a)) ∧ ∀ i v, vs[i]? = some v → σ[i + 1]? = some (some v)
theorem sel_pe (hN : ∀ (i : Nat) (x : Str), T.nm[i]? = some x → nm i = x) {sl : Sel} {y : Expr} (h : (match sl with
      | .a k => ck T X.N (.v (k + 1)) X.env.scope y
      | .d x => (match x, y with
        | .str t, .Constant (.str u) _ _ => decide (t = u)
        | _, _ => false)) = true) : PE X y (fun σ H Q => ∃ a vs v, SlW σ a vs ∧ selW vs sl = some v ∧ Q v H) := by
  cases sl with
  | a k => exact (var_pe h).imp fun σ H Q ⟨a, vs, v, sw, e, q⟩ => ⟨v, sw.2 k v e, q⟩
  | d x =>
    dsimp only at h
    split at h
    · have h := of_decide_eq_true h
      subst h
      exact pe_str.imp fun σ H Q ⟨a, vs, v, sw, e, q⟩ => by
        cases e
        exact q
    · cases h
theorem ini_old (hN : ∀ (i : Nat) (x : Str), T.nm[i]? = some x → nm i = x) : ∀ {r : List (Nat × Sel)} {b : List Stmt}, iniB T X.N X.env.scope r b = true →
    PSs X b (fun D σ H => ∃ (a C dx : Addr) (vs : List V) (fs ws : List (Str × V)), SlW σ a vs ∧ OexC X.K C ∧ (∀ p ∈ r, PySem.W.findIn X.K (.ref C) (nm p.1) = some none) ∧ dx ≠ a ∧ H a = some (exo a C (some dx)) ∧ H dx = some (exd dx fs) ∧ fs.length + r.length ≤ 900 ∧ Fw nm vs r ws ∧ D.nx σ (upd H dx (exd dx (ws.reverse ++ fs))))
  | [], b, h => by
    unfold iniB at h
    split at h
    · refine pss_nil.imp fun D σ H ⟨a, C, dx, vs, fs, ws, sw, oc, no, hd, e1, e2, hl, fw, q⟩ => ?_
      cases fw
      rw [List.reverse_nil, List.nil_append, upd_back e2] at q
      exact q
    · cases h
  | (i, sl) :: r, b, h => by
    unfold iniB at h
    split at h
    · rename_i o f p0 y p1 m
      obtain ⟨h1, h⟩ := and_ h
      obtain ⟨h2, h⟩ := and_ h
      obtain ⟨h3, h⟩ := and_ h
      obtain ⟨h4, h5⟩ := and_ h
      have ef := hN i f (of_decide_eq_true h1)
      subst ef
      refine (pss_cons (ps_ost (var_pe h2) (sel_pe hN h3) (ncSw _ _ _ _ h4)) (ini_old hN h5)).imp fun D σ H ⟨a, C, dx, vs, fs, ws, sw, oc, no, hd, e1, e2, hl, fw, q⟩ => ?_
      cases fw with
      | @cons _ v _ l ev fw =>
        refine ⟨a, vs, v, sw, ev, .ref a, sw.1, a, C, rfl, oc, no _ List.mem_cons_self, .inr ⟨dx, fs, e1, e2, by have := hl; rw [List.length_cons] at this; omega, ?_⟩⟩
        refine ⟨a, C, dx, vs, (nm i, v) :: fs, l, sw, oc, fun p hp => no p (List.mem_cons_of_mem _ hp), hd, (upd_ne (Ne.symm hd)).trans e1, upd_same, by rw [List.length_cons] at hl ⊢; omega, fw, ?_⟩
        rw [upd_upd]
        rw [List.reverse_cons, List.append_assoc] at q
        exact q
    · cases h
theorem ini_new (hN : ∀ (i : Nat) (x : Str), T.nm[i]? = some x → nm i = x) {r : List (Nat × Sel)} {b : List Stmt} (hr : r ≠ []) (h : iniB T X.N X.env.scope r b = true) :
    PSs X b (fun D σ H => ∃ (a C : Addr) (vs : List V) (ws : List (Str × V)), SlW σ a vs ∧ OexC X.K C ∧ (∀ p ∈ r, PySem.W.findIn X.K (.ref C) (nm p.1) = some none) ∧ H a = some (exo a C none) ∧ r.length ≤ 900 ∧ Fw nm vs r ws ∧ ∀ dx, H dx = none → dx ≠ a → D.nx σ (upd (upd H dx (exd dx ws.reverse)) a (exo a C (some dx)))) := by
  cases r with
  | nil => exact absurd rfl hr
  | cons p r =>
    obtain ⟨i, sl⟩ := p
    unfold iniB at h
    split at h
    · rename_i o f p0 y p1 m
      obtain ⟨h1, h⟩ := and_ h
      obtain ⟨h2, h⟩ := and_ h
      obtain ⟨h3, h⟩ := and_ h
      obtain ⟨h4, h5⟩ := and_ h
      have ef := hN i f (of_decide_eq_true h1)
      subst ef
      refine (pss_cons (ps_ost (var_pe h2) (sel_pe hN h3) (ncSw _ _ _ _ h4)) (ini_old hN h5)).imp fun D σ H ⟨a, C, vs, ws, sw, oc, no, e1, hl, fw, q⟩ => ?_
      cases fw with
      | @cons _ v _ l ev fw =>
        refine ⟨a, vs, v, sw, ev, .ref a, sw.1, a, C, rfl, oc, no _ List.mem_cons_self, .inl ⟨e1, fun dx nd hd => ?_⟩⟩
        refine ⟨a, C, dx, vs, [(nm i, v)], l, sw, oc, fun p hp => no p (List.mem_cons_of_mem _ hp), hd, upd_same, (upd_ne hd).trans upd_same, by rw [List.length_cons] at hl ⊢; simp only [List.length_nil]; omega, fw, ?_⟩
        have z := q dx nd hd
        rw [List.reverse_cons] at z
        rw [← upd_comm hd, upd_upd]
        exact z
    · cases h
end
/-- an own exception class as it stands -/
structure ExF (T : Tb) (L : Lk) (P : Prog) (K : PySem.W.Frag) (mg : Str → Option Value) (j : Nat) (x : Str) (n : Nat) : Prop where
  m : mg x = some (.ref (L.xc j))
  t : OexC K (L.xc j)
  nn : n ≤ 100
  ini : ∃ (fI : Addr) (fd : FuncData) (qual : Str) (params : Arguments) (bd : List Stmt) (sc : Scope) (N : List Str) (xc : Xc), P.xs[j]? = some xc ∧ xc.n = n ∧ PySem.W.findIn K (.ref (L.xc j)) "__init__" = some (some (.ref fI)) ∧ PySem.W.typeIn K (.ref fI) = some (.type "function")
    ∧ FunD K "__init__" qual params bd sc [] [] fI fd ∧ FnScope N N sc ∧ N.length = n + 1 ∧ L2.Binds K fd N [] ∧ xc.fs ≠ [] ∧ xc.fs.length ≤ 100 ∧ iniB T N sc xc.fs.reverse bd = true ∧ ∀ p ∈ xc.fs, PySem.W.findIn K (.ref (L.xc j)) (L.nm p.1) = some none
/-- what it promises -/
def spX (L : Lk) (K : PySem.W.Frag) (C : Addr) (n : Nat) (xc : Xc) : Sp := fun vs H Q _ => ∃ (a : Addr) (us : List V) (ws : List (Str × V)), vs = .ref a :: us ∧ us.length = n ∧ H a = some (exo a C none) ∧ Fw L.nm us xc.fs ws ∧ ∀ dx, H dx = none → dx ≠ a → Q .non (upd (upd H dx (exd dx ws)) a (exo a C (some dx)))
theorem ini_fn {T : Tb} {L : Lk} {pg : Program} {w : World} {K : PySem.W.Frag} {mg : Str → Option Value} {base : Heap} {C fI : Addr} {fd : FuncData} {qual : Str} {params : Arguments} {bd : List Stmt} {sc : Scope} {N : List Str} {xc : Xc} {n k : Nat}
    (hN : ∀ (i : Nat) (x : Str), T.nm[i]? = some x → L.nm i = x) (oc : OexC K C) (D : FunD K "__init__" qual params bd sc [] [] fI fd) (S : FnScope N N sc) (hn : N.length = n + 1) (h0 : xc.fs ≠ []) (h1 : xc.fs.length ≤ 100) (h2 : iniB T N sc xc.fs.reverse bd = true)
    (h3 : ∀ p ∈ xc.fs, PySem.W.findIn K (.ref C) (L.nm p.1) = some none) : FnOk pg w K mg base C8.CX0 (k + 1) fI fd N (spX L K C n xc) := by
  refine D.ok S (fun vs H Q E ⟨a, us, ws, e, hl, _⟩ => by rw [e, List.length_cons, hl, hn]) fun cdv A outer s H vs Q E hr hsp => ?_
  obtain ⟨a, us, ws, e, hl, ea, fw, q⟩ := hsp
  subst e
  refine ⟨_, ini_new (X := cxOf C8.CX0 pg w K mg base N qual sc fI cdv A outer s H E) (nm := L.nm) hN (by simpa using h0) h2, a, C, us, ws.reverse, ⟨rfl, fun i v e => ?_⟩, oc, fun p hp => h3 p (List.mem_reverse.mp hp), ea, by rw [List.length_reverse]; omega, fw.rev, fun dx nd hd => ?_⟩
  · unfold L2.start
    rw [List.getElem?_append_left (by rw [List.length_map, List.length_cons]; exact Nat.succ_lt_succ (List.getElem?_eq_some_iff.mp e).1), List.getElem?_map, List.getElem?_cons_succ, e]
    rfl
  · rw [List.reverse_reverse]
    exact q dx nd hd
theorem selD_fw {L : Lk} {F : Fm} {φ : List Addr} {H : Hp} {ds : List D} {vs : List V} (rs : Rels L F φ H ds vs) (T : Tb) {N : List Str} {sc : Scope} : ∀ {fs : List (Nat × Sel)} {zs : List D}, (∀ p ∈ fs, ∀ x, p.2 = .d x → ∃ t, x = .str t) → selD ds (fs.map (·.2)) = some zs → ∃ ws, Fw L.nm vs fs ws ∧ Rels L F φ H zs (ws.map (·.2))
  | [], zs, _, h => by
    cases h
    exact ⟨[], .nil, .nil⟩
  | (i, .a k) :: r, zs, hs, h => by
    unfold selD at h
    rw [List.map_cons] at h
    dsimp only at h
    split at h
    · rename_i d l e1 e2
      cases h
      obtain ⟨ws, w1, w2⟩ := selD_fw rs T (N := N) (sc := sc) (fun p hp => hs p (List.mem_cons_of_mem _ hp)) e2
      obtain ⟨v, e3, rv⟩ := rs.get e1
      exact ⟨_, .cons e3 w1, .cons rv w2⟩
    · cases h
  | (i, .d x) :: r, zs, hs, h => by
    unfold selD at h
    rw [List.map_cons] at h
    dsimp only at h
    split at h
    · rename_i l e2
      cases h
      obtain ⟨ws, w1, w2⟩ := selD_fw rs T (N := N) (sc := sc) (fun p hp => hs p (List.mem_cons_of_mem _ hp)) e2
      obtain ⟨t, rfl⟩ := hs _ List.mem_cons_self x rfl
      exact ⟨_, .cons rfl w1, .cons (.str t) w2⟩
    · cases h
/-- C(), C's own start keeping sp -/
theorem pmk_o0 {X : Cx} {CX : CXT} {x : Str} {C fI : Addr} {k : Nat} {fd : FuncData} {ps : List Str} {sp : Sp} {p pos : Pos} (oc : OexC X.K C) (q1 : PySem.W.findIn X.K (.ref C) "__init__" = some (some (.ref fI))) (q2 : PySem.W.typeIn X.K (.ref fI) = some (.type "function"))
    (fn : FnOk X.prog X.w X.K X.mg X.base CX k fI fd ps sp) (room : Room (k + 1) X.A) (bi : L2.Binds X.K fd ps []) (pa : Passes CX X (fun _ _ _ => False)) (gl : Gl X x) (at_ : X.mg x = some (.ref C)) (nd : (x == ("__debug__" : Str)) = false) :
    PMk X (.Call (.Name x p) [] [] pos) (fun σ H Q => ∀ a, H a = none → sp [.ref a] (upd H a (exo a C none)) (fun v H2 => v = .non ∧ ∃ (d : Addr) (fs : List (Str × V)), H2 a = some (exo a C (some d)) ∧ H2 d = some (exd d fs) ∧ H d = none ∧ Q (.ref C) (some d) (upd (del H2 a) d (.xd fs))) (fun _ _ _ => False)) := by
  intro pins s σ H Q I want
  obtain ⟨_, _, _, _, bm, _, _, _, _, _, _, _, _, _, _, hC, hbm⟩ := oc.cls
  refine wpAny_Call_Name_kw (ld_glob I gl at_ ?_ nd)
  obtain ⟨hp, gs, dr, tk, os⟩ := s
  refine PySem.W.callWith_K0 I.kIn oc.kC ?_
  show wpAny _ _ (call (.ref C) []) _ _ _
  have hn : H (hp.objs.size + 1) = none := I.hok.fresh (Nat.le_succ _)
  have told := want (hp.objs.size + 1) hn
  have keep2 : ∀ b o, hp.get? b = some o → ((hp.push (PySem.W.kdv_tup [])).push (PySem.HandSPX.excO C hp.objs.size)).get? b = some o := fun b o z => Heap.get?_push_of_some _ (Heap.get?_push_of_some _ z)
  have get2 : ((hp.push (PySem.W.kdv_tup [])).push (PySem.HandSPX.excO C hp.objs.size)).get? (hp.objs.size + 1) = some (PySem.HandSPX.excO C hp.objs.size) := by heap_get
  have J : Inv X pins σ (upd H (hp.objs.size + 1) (exo (hp.objs.size + 1) C none)) ⟨(hp.push (PySem.W.kdv_tup [])).push (PySem.HandSPX.excO C hp.objs.size), gs, dr, tk, os⟩ :=
    I.laid (t' := tk) (a := hp.objs.size + 1) (h' := (hp.push (PySem.W.kdv_tup [])).push (PySem.HandSPX.excO C hp.objs.size)) keep2 (Nat.le_succ _) (exo_ok get2)
  have hv : Vals [V.ref (hp.objs.size + 1)] [Value.ref (hp.objs.size + 1)] := .cons rfl .nil
  have hl : [Value.ref (hp.objs.size + 1)].length = ps.length := fn.len _ _ _ _ told
  have b := bi ⟨(hp.push (PySem.W.kdv_tup [])).push (PySem.HandSPX.excO C hp.objs.size), gs, dr, tk, os⟩ [Value.ref (hp.objs.size + 1)] J.kIn hl
  refine wpAny_call (PySem.HandSPX.call_own F.excBase_ValueError (fun Y => PySem.HandSPX.refsVE_contains Y bm hbm) (I.kIn _ _ hC) (PySem.W.looks_findIn I.kIn q1) (fun self => PySem.W.bind_fn I.kIn self q2) (Nat.zero_le _)
    (codeAny_mono (fn.run _ X.stack _ _ ⟨[Value.ref (hp.objs.size + 1)], []⟩ _ _ _ (fun _ _ _ => False) (room.make C [] []) (J.env0.make C [] []) b hv told) fun r s2 z => ?_))
  cases r with
  | error er => exact pa pins σ _ _ er s2 J z
  | ok fl =>
    cases fl with
    | ret u =>
      obtain ⟨v, H2, os2, bare2, un2, hok2, rv, ev, d, fs, ea, ed, hd1, q3⟩ := z
      subst ev
      obtain ⟨h2, g2, d2, t2, os'⟩ := s2
      exact ⟨rv, mk_end (raises_own oc.exC oc.tyC) I (Nat.le_succ _) keep2 un2 hok2 os2 bare2 ea ed hd1 q3⟩
    | next => exact z.elim
    | brk => exact z.elim
    | cont => exact z.elim
theorem ini_str {T : Tb} {N : List Str} {sc : Scope} : ∀ {r : List (Nat × Sel)} {b : List Stmt}, iniB T N sc r b = true → ∀ p ∈ r, ∀ x, p.2 = .d x → ∃ t, x = .str t
  | [], _, _, p, hp => by cases hp
  | (i, sl) :: r, b, h, p, hp => by
    unfold iniB at h
    split at h
    · obtain ⟨_, h⟩ := and_ h
      obtain ⟨_, h⟩ := and_ h
      obtain ⟨h3, h⟩ := and_ h
      obtain ⟨_, h5⟩ := and_ h
      rcases List.mem_cons.mp hp with z | z
      · rw [z]
        intro x e
        dsimp only at e
        subst e
        dsimp only at h3
        split at h3
        · exact ⟨_, rfl⟩
        · cases h3
      · exact ini_str h5 p z
    · cases h
/-- raising an own exception -/
theorem rais_ok {T : Tb} {L : Lk} {P : Prog} {pg : Program} {w : World} {K : PySem.W.Frag} {mg : Str → Option Value} {base : Heap} {X : Cx} {j n k : Nat} {x : Str} (e : ExF T L P K mg j x n) (hN : ∀ (i : Nat) (x : Str), T.nm[i]? = some x → L.nm i = x) (sm : Same pg w K mg base (k + 2) X) : RaisV L P X j x n := by
  intro args p pos ta hl hns hg hdb ha
  obtain ⟨fI, fd, qual, params, bd, sc, N, xc, ex, en0, i1, i2, Dd, S, hn, hb, h0, h1, h2, h3⟩ := e.ini
  have F1 := ini_fn (pg := pg) (w := w) (mg := mg) (base := base) (k := k) (n := n) hN e.t Dd S hn h0 h1 h2 h3
  have esp := sm.p
  have esw := sm.w
  have esK := sm.K
  have esm := sm.m
  have esb := sm.b
  subst esp esw esK esm esb
  -- what is told of the new exception is what was wished
  have told : ∀ {F : Fm} {φ : List Addr} {h : HH} {ds zs : List D} {vs : List V} {H1 : Hp} {Q : XK}, HR L F φ h H1 → Rels L F φ H1 ds vs → xc.n = ds.length → selD ds (xc.fs.map (·.2)) = some zs → GX L F φ H1 j (xc.fs.map (·.1)) zs h Q → vs.length = n →
      ∀ a, H1 a = none → spX L X.K (L.xc j) n xc (.ref a :: vs) (upd H1 a (exo a (L.xc j) none)) (fun v H2 => v = .non ∧ ∃ (d : Addr) (fs : List (Str × V)), H2 a = some (exo a (L.xc j) (some d)) ∧ H2 d = some (exd d fs) ∧ H1 d = none ∧ Q (.ref (L.xc j)) (some d) (upd (del H2 a) d (.xd fs))) (fun _ _ _ => False) := by
    intro F φ h ds zs vs H1 Q hr rs en es g hv a na
    obtain ⟨ws, w1, w2⟩ := selD_fw rs T (N := N) (sc := sc) (fun p hp => ini_str h2 p (List.mem_reverse.mpr hp)) es
    refine ⟨a, vs, ws, rfl, hv, upd_same, w1, fun dx nd hd => ⟨rfl, dx, ws, upd_same, (upd_ne hd).trans upd_same, by rwa [upd_ne hd] at nd, ?_⟩⟩
    have nd : H1 dx = none := by rwa [upd_ne hd] at nd
    have eH : upd (del (upd (upd (upd H1 a (exo a (L.xc j) none)) dx (exd dx ws)) a (exo a (L.xc j) (some dx))) a) dx (.xd ws) = upd H1 dx (.xd ws) := by
      funext b
      by_cases zb : b = dx
      · rw [zb, upd_same, upd_same]
      · rw [upd_ne zb, upd_ne zb]
        by_cases za : b = a
        · rw [za, del_same, na]
        · rw [del_ne za, upd_ne za, upd_ne zb, upd_ne za]
    rw [eH]
    exact g φ _ _ _ (XT.fresh nd) (hr.fresh nd) ⟨dx, ws, rfl, rfl, upd_same, w1.names, w2.mono (XT.fresh nd)⟩
  cases args with
  | nil =>
    intro pins s σ H Q I want Γ pp hΓ
    have r := pmk_o0 (X := X) (CX := C8.CX0) (x := x) (C := L.xc j) (fI := fI) (k := k + 1) (p := p) (pos := pos) e.t i1 i2 F1 sm.r hb C8.pass0 hg e.m hdb
    obtain ⟨vs, H1, I1, r1, F, φ, h, ds, xc', zs, hr, rs, e1, e2, e3, g⟩ := ha.run p pins s σ H _ I want Γ pp hΓ
    rw [ex] at e1
    cases e1
    cases r1
    exact r pins s σ H1 Q I1 (told hr rs e2 e3 g (hl ▸ rfl)) Γ pp hΓ
  | cons a0 as =>
    obtain ⟨n1, n2⟩ := and_ (show (nsB a0 && nsAll as) = true from hns)
    have ha2 : PA X (a0 :: as) (fun σ H K => ∃ R : List V → Hp → Prop, ta σ H R ∧ ∀ vs H1, R vs H1 → K vs H1) := ⟨fun pos pins s σ H K I ⟨R, h, hm⟩ => wpAny_mono (ha.run pos pins s σ H R I h) (fun us s2 ⟨vs, H1, I1, r1, q⟩ => ⟨vs, H1, I1, r1, hm _ _ q⟩) fun _ _ z => z⟩
    have r := pmk_oex (X := X) (CX := C8.CX0) (x := x) (C := L.xc j) (fI := fI) (k := k + 1) (p := p) (pos := pos) (dvs := []) (ds := []) e.t i1 i2 F1 sm.r hb .nil C8.pass0 hg e.m ha2 hdb (sEach _ _ _ n1) (nsPlain _ _ _ n2)
    intro pins s σ H Q I want
    refine r pins s σ H Q I ⟨_, want, fun vs H1 ⟨F, φ, h, ds, xc', zs, hr, rs, e1, e2, e3, g⟩ => ?_⟩
    rw [ex] at e1
    cases e1
    have hv : vs.length = n := by rw [← rs.length, ← e2, en0]
    refine ⟨by have := e.nn; omega, fun a na => ?_⟩
    rw [List.append_nil]
    exact told hr rs e2 e3 g hv a na
end MV

set_option maxRecDepth 100000
set_option maxHeartbeats 1000000
/-! VO: defs keep the promise of their run; all levels. -/
namespace MV
open PySem PySem.Spec PyProof.Rows L2
/-! ### a def -/
theorem body_sound {T : Tb} {L : Lk} {P : Prog} {orc : Orc} {k : Nat} {CX : CXT} {pg : Program} {w : World} {K : PySem.W.Frag} {mg : Str → Option Value} {base : Heap} {qual : Str} {bd : List Stmt} {scope : Scope} {a : Addr} {N ps : List Str} {f : Fn} {cdv : Value} {A : Around} {outer : List PySem.Env} {s : Shared} {H : Hp} {vs : List V} {Q : VK} {E : XK}
    (c : CX2 T L P orc k (cxOf CX pg w K mg base N qual scope a cdv A outer s H E) (fun cls d _ H => E cls d H)) (S : FnScope N ps scope) (hp : f.np = ps.length) (hl : f.nl = N.length) (hc : ckS T N f.body scope bd = true) (hsp : spB L P orc f vs H Q E) :
    ∃ t, PSs (cxOf CX pg w K mg base N qual scope a cdv A outer s H E) bd t ∧ t { nx := fun _ H' => Q .non H', rt := Q } (L2.start N vs) H := by
  refine ⟨_, (stmtOk f.body).2 _ _ c bd hc, ?_⟩
  have hln := (spB_len hsp).trans hp
  obtain ⟨F, φ, h, ds, x, r, g⟩ := hsp
  unfold body at g
  split at g
  · rename_i hd
    have hd := beq_iff_eq.mp hd
    refine ⟨F, φ, startE f.nl ds, h, x, ?_, ?_⟩
    · refine ⟨?_, fun i d q => ?_⟩
      · have := S.nd
        have hle : ps.length ≤ N.length := by
          have := congrArg List.length S.pre
          rw [List.length_take] at this
          omega
        have e1 : (L2.start N vs).length = N.length := by
          unfold L2.start
          rw [List.length_append, List.length_map, List.length_replicate]
          omega
        rw [e1]
        unfold startE
        rw [List.length_append, List.length_map, List.length_replicate]
        omega
      · unfold startE at q
        have hi : i < ds.length := Nat.lt_of_not_le fun z => by
          rw [List.getElem?_append_right (by simpa using z), List.getElem?_replicate] at q
          split at q <;> cases q
        rw [List.getElem?_append_left (by simpa using hi), List.getElem?_map] at q
        cases e : ds[i]? with
        | none =>
          rw [e] at q
          cases q
        | some d' =>
          rw [e] at q
          cases q
          obtain ⟨v, e1, rv⟩ := r.get e
          refine ⟨v, ?_, rv⟩
          unfold L2.start
          rw [List.getElem?_append_left (by rw [List.length_map]; exact (List.getElem?_eq_some_iff.mp e1).1), List.getElem?_map, e1]
          rfl
    · cases er : run P orc f.body (startE f.nl ds) h with
      | nx ρ h1 =>
        rw [er] at g
        exact fun φ' H' σ' t hr _ => g φ' H' .non t hr .non
      | rt d h1 =>
        rw [er] at g
        exact g
      | exc c ks vs _ h1 =>
        rw [er] at g
        exact fun φ' H' σ' cls dd t hr _ xr => g φ' H' cls dd t hr xr
      | bk ρ h1 =>
        rw [er] at g
        exact g.elim
      | ct ρ h1 =>
        rw [er] at g
        exact g.elim
      | no =>
        rw [er] at g
        exact g.elim
  · exact (G.no_ g).elim
theorem fn_sound {T : Tb} {L : Lk} {P : Prog} {orc : Orc} {k : Nat} {pg : Program} {w : World} {K : PySem.W.Frag} {mg : Str → Option Value} {base : Heap} {x qual : Str} {params : Arguments} {bd : List Stmt} {scope : Scope} {dvs : List V} {kws : List (Str × V)} {a : Addr} {fd : FuncData} {N ps : List Str} {f : Fn}
    (fa : Facts T L P orc k pg w K mg base) (hq : T.lq = false) (D : FunD K x qual params bd scope dvs kws a fd) (S : FnScope N ps scope) (hp : f.np = ps.length) (hl : f.nl = N.length) (hc : ckS T N f.body scope bd = true) :
    FnOk pg w K mg base (L2.CX pg w) (k + 1) a fd ps (spB L P orc f) := by
  refine D.ok S (fun vs H Q E h => (spB_len h).trans hp) fun cdv A outer s H vs Q E hr hsp => ?_
  have c : CX2 T L P orc k (cxOf (L2.CX pg w) pg w K mg base N qual scope a cdv A outer s H E) (fun cls d _ H => E cls d H) :=
    { fa := fa, calm := rfl, nd := S.nd, room := hr, tk := takes_of rfl rfl rfl rfl, lam := fun z => (by rw [hq] at z; cases z), fn := rfl, kind := S.kind, own := passes_of rfl }
  exact body_sound c S hp hl hc hsp
/-! ### the text's links -/
/-- the def at fa is the i-th of P -/
def FnFact (T : Tb) (P : Prog) (K : PySem.W.Frag) (i : Nat) (fa : Addr) (fd : FuncData) (ps : List Str) : Prop :=
  ∃ (x qual : Str) (params : Arguments) (bd : List Stmt) (scope : Scope) (dvs : List V) (kws : List (Str × V)) (N : List Str) (f : Fn),
    P.fns[i]? = some f ∧ FunD K x qual params bd scope dvs kws fa fd ∧ FnScope N ps scope ∧ f.np = ps.length ∧ f.nl = N.length ∧ ckS T N f.body scope bd = true
/-- what is called at a, in the shape j -/
def CallF (T : Tb) (L : Lk) (P : Prog) (K : PySem.W.Frag) (a : Addr) (n : Nat) (ks : List Str) (j : Nat) : Prop :=
  ∃ (s : Shape) (f : Fn) (fa : Addr) (fd : FuncData) (ps : List Str) (g : List Value → List Value → List Value) (gV : List V → List V → List V),
    P.sh[j]? = some s ∧ P.fns[s.fn]? = some f ∧ FnFact T P K s.fn fa fd ps ∧
      ((∃ b, f.kind = .fn b ∧ a = fa ∧ KBn K fd ps n ks g gV ∧ FillOk L s n ks gV) ∨
        ∃ (c : Nat) (b : Bool) (gW : List V → List V → List V), f.kind = .ctor c b ∧ L.cl c = a ∧ Mk K a fa ∧ KBn K fd ps (n + 1) ks g gV ∧ (∀ p vs zs, gV (.ref p :: vs) zs = .ref p :: gW vs zs) ∧ FillOk L s n ks gW)
/-- a def called at a, in the shape j -/
def CallF1 (T : Tb) (L : Lk) (P : Prog) (K : PySem.W.Frag) (a : Addr) (n : Nat) (ks : List Str) (j : Nat) : Prop :=
  ∃ (s : Shape) (f : Fn) (fd : FuncData) (ps : List Str) (g : List Value → List Value → List Value) (gV : List V → List V → List V) (b : Bool),
    P.sh[j]? = some s ∧ P.fns[s.fn]? = some f ∧ FnFact T P K s.fn a fd ps ∧ f.kind = .fn b ∧ KBn K fd ps n ks g gV ∧ FillOk L s n ks gV
def PropF (T : Tb) (L : Lk) (P : Prog) (K : PySem.W.Frag) (c : Nat) (m : Str) (j : Nat) : Prop :=
  ∃ (s : Shape) (f : Fn) (p fa : Addr) (fd : FuncData) (ps : List Str) (b : Bool), P.sh[j]? = some s ∧ P.fns[s.fn]? = some f ∧ f.kind = .fn b ∧ FnFact T P K s.fn fa fd ps ∧ Cls K (L.cl c) ∧ PropOf K (L.cl c) m p fa ∧ Binds K fd ps [] ∧ s.n = 1 ∧ s.sel = [.a 0]
structure Links (T : Tb) (L : Lk) (P : Prog) (K : PySem.W.Frag) (mg : Str → Option Value) : Prop where
  call : ∀ (j : Nat) (g : Str) (n : Nat) (ks : List Str), T.sn[j]? = some (.glob, g, n, ks) → ∃ a, mg g = some (.ref a) ∧ PySem.W.keepIn K (.ref a) = true ∧ CallF T L P K a n ks j
  meth : ∀ (j c : Nat) (m : Str) (n : Nat) (ks : List Str), T.sn[j]? = some (.meth c, m, n, ks) → Cls K (L.cl c) ∧ ∃ a, Meth K (L.cl c) m a ∧ CallF T L P K a n ks j
  cmet : ∀ (j c : Nat) (m : Str) (n : Nat) (ks : List Str), T.sn[j]? = some (.cmet c, m, n, ks) → ∃ (mc : Value) (p a : Addr), ClX.CRead K (L.cl c) mc ∧ ClX.CMet K (L.cl c) mc m p a ∧ CallF1 T L P K a n ks j
  prop : ∀ (j c : Nat) (m : Str), T.sn[j]? = some (.prop c, m, 1, []) → PropF T L P K c m j
structure Stat (T : Tb) (L : Lk) (P : Prog) (pg : Program) (w : World) (K : PySem.W.Frag) (mg : Str → Option Value) (base : Heap) : Prop where
  hK : K = L.K
  gl : ∀ (i : Nat) (x : Str) (d : D), T.gn[i]? = some x → P.gl[i]? = some d → ∃ v u, mg x = some u ∧ RelV v u ∧ ∀ F φ H, Rel L F φ H d v
  bf : ∀ x ∈ bNames, mg x = none
  wd : ∀ X : Cx, X.K = K → WdOk X L P.wd
  inj : ∀ i j, L.nm i = L.nm j → i = j
  nm : ∀ (i : Nat) (x : Str), T.nm[i]? = some x → L.nm i = x
  fld : ∀ c i, P.fld.contains (c, i) = true → Cls K (L.cl c) ∧ NoAttr K (L.cl c) (L.nm i)
  ncl : ∀ (c : Nat) (x : Str), T.cn[c]? = some x → mg x = some (.ref (L.cl c))
  isc : ∀ c, c < P.nc → IsiC K (L.cl c)
  kit : ∀ (t : TyV) (u : Ty), (∀ c, t = .own c → c < P.nc) → (∀ c, u = .cls c → ∃ x, T.cn[c]? = some x) → PySem.W.kitOne K (tvV L t) (tyV' L u) = some (tyIs t u)
  off : T.lq = false
  rais : ∀ (j : Nat) (x : Str) (n : Nat), T.xn[j]? = some (x, n) → ExF T L P K mg j x n
  tryf : T.tr = true → ∃ (gt gf C0 : Addr) (fdt fdf : FuncData) (pst psf : Arguments) (bdt bdf : List Stmt) (sct scf : Scope), TryF L P K mg gt gf C0 fdt fdf pst psf bdt bdf sct scf
  wordf : T.tw = true → ∃ (gw : Addr) (fdw : FuncData) (psw : Arguments) (bdw : List Stmt) (scw : Scope), WordF K mg gw fdw psw bdw scw
section
variable {T : Tb} {L : Lk} {P : Prog} {pg : Program} {w : World} {K : PySem.W.Frag} {mg : Str → Option Value} {base : Heap}
theorem fnFact_ok {orc : Orc} {k i : Nat} {a : Addr} {fd : FuncData} {ps : List Str} {f : Fn} (fa : Facts T L P orc k pg w K mg base) (hq : T.lq = false) (h : FnFact T P K i a fd ps) (e : P.fns[i]? = some f) : FnOk pg w K mg base (L2.CX pg w) (k + 1) a fd ps (spB L P orc f) := by
  obtain ⟨x, qual, params, bd, scope, dvs, kws, N, f', h1, h2, h3, h4, h5, h6⟩ := h
  rw [e] at h1
  cases h1
  exact fn_sound fa hq h2 h3 h4 h5 h6
theorem callJ_no {ad : Bool} {j : Nat} {ds : List D} {h : HH} : callJ P (callN P 0) ad j ds h = .no := by
  unfold callJ
  split
  · split <;> rfl
  · rfl
theorem callV_call {k m n j : Nat} {ks : List Str} {a : Addr} {X : Cx} {W : WX} (sm : Same pg w K mg base (k + 2) X) (tk : Takes X W) (fa : Facts T L P (callN P m) k pg w K mg base) (hq : T.lq = false) (h : CallF T L P K a n ks j) : CallV L P (callN P (m + 1)) X W a n ks j := by
  obtain ⟨s, f, fa', fd, ps, g, gV, h1, h2, h3, h4⟩ := h
  have Fk := fnFact_ok fa hq h3 h2
  rw [← sm.p, ← sm.w, ← sm.K, ← sm.m, ← sm.b] at Fk
  rcases h4 with ⟨b, e1, e2, e3, e4⟩ | ⟨c, b, gW, e1, e2, e3, e4, e5, e6⟩
  · subst e2
    rw [← sm.K] at e3
    exact callV_fn h1 h2 e1 Fk (sm.r.mono (by omega)) tk e3 e4
  · rw [← sm.K] at e3 e4
    exact callV_mk h1 h2 e2 e1 e3 Fk sm.r tk e4 e5 e6
theorem callVI_call {k m n j : Nat} {ks : List Str} {a : Addr} {X : Cx} {W : WX} (sm : Same pg w K mg base (k + 2) X) (tk : Takes X W) (fa : Facts T L P (callN P m) k pg w K mg base) (hq : T.lq = false) (h : CallF T L P K a n ks j) : CallVI L P (callN P (m + 1)) X W a n ks j := by
  obtain ⟨s, f, fa', fd, ps, g, gV, h1, h2, h3, h4⟩ := h
  have Fk := fnFact_ok fa hq h3 h2
  rw [← sm.p, ← sm.w, ← sm.K, ← sm.m, ← sm.b] at Fk
  rcases h4 with ⟨b, e1, e2, e3, e4⟩ | ⟨c, b, gW, e1, e2, e3, e4, e5, e6⟩
  · subst e2
    rw [← sm.K] at e3
    exact callVI_fn h1 h2 e1 Fk (sm.r.mono (by omega)) tk e3 e4
  · intro z
    exfalso
    unfold fnJ at z
    rw [h1] at z
    dsimp only at z
    rw [h2] at z
    dsimp only at z
    rw [e1] at z
    cases z
theorem callM_call {k m n j : Nat} {ks : List Str} {a C : Addr} {X : Cx} {W : WX} (sm : Same pg w K mg base (k + 2) X) (tk : Takes X W) (fa : Facts T L P (callN P m) k pg w K mg base) (hq : T.lq = false) (h : CallF1 T L P K a n ks j) : CallM L P (callN P (m + 1)) X W a C n ks j := by
  obtain ⟨s, f, fd, ps, g, gV, b, h1, h2, h3, e1, e3, e4⟩ := h
  have Fk := fnFact_ok fa hq h3 h2
  rw [← sm.p, ← sm.w, ← sm.K, ← sm.m, ← sm.b] at Fk
  rw [← sm.K] at e3
  exact callM_fn h1 h2 e1 Fk (sm.r.mono (by omega)) tk e3 e4
theorem callN_pur {n i : Nat} {f : Fn} {ds : List D} {h h1 : HH} {r : Ret} (e1 : P.fns[i]? = some f) (e2 : f.kind = .fn true) (e : callN P (n + 1) i ds h = .ok r h1) : h1 = h := by
  have e : (match P.fns[i]? with
    | none => R.no
    | some f => match f.kind with
      | .fn true => pureRun P (callN P n) f ds h
      | .fn false => (body P (callN P n) f ds h).bind fun d h1 => .ok (.val d) h1
      | .ctor c true => makeRun P (callN P n) c f ds h
      | .ctor c false => (body P (callN P n) f (.ref h.length :: ds) (h ++ [O.ins c [] []])).bind fun d h1 => match d with
        | .non => .ok (.val (.ref h.length)) h1
        | _ => .no
      | .lam caps => (ev P (callN P n) (retOf f.body) (lamE f.nl caps ds) h).bind fun d h1 => .ok (.val d) h1) = .ok r h1 := e
  rw [e1] at e
  dsimp only at e
  rw [e2] at e
  dsimp only at e
  unfold pureRun at e
  split at e
  · split at e
    · split at e
      · cases e
        rfl
      · cases e
    · split at e <;> cases e
    · cases e
  · cases e
theorem facts_all (st : Stat T L P pg w K mg base) (lk : Links T L P K mg) : ∀ m : Nat, Facts T L P (callN P m) (3 * m + 3) pg w K mg base
  | 0 => { hK := st.hK, pur := fun _ _ _ _ _ _ _ _ z => (nomatch z), gl := st.gl, bf := st.bf, wd := fun X s => st.wd X s.K, inj := st.inj, nm := st.nm, fld := st.fld, ncl := st.ncl, isc := st.isc, kit := st.kit
           call := fun X W _ _ j g n ks e => by
             obtain ⟨a, h1, h2, _⟩ := lk.call j g n ks e
             refine ⟨a, h1, h2, fun ad pins s σ H vs zs us ws Q F φ h ds _ _ _ _ _ _ _ q => ?_⟩
             rw [callJ_no] at q
             exact (G.no_ q).elim
           meth := fun X W _ _ j c m n ks e => by
             obtain ⟨h0, a, h1, _⟩ := lk.meth j c m n ks e
             refine ⟨h0, a, h1, fun ad pins s σ H vs zs us ws Q F φ h ds _ _ _ _ _ _ _ q => ?_⟩
             rw [callJ_no] at q
             exact (G.no_ q).elim
           mein := fun X W _ _ j c m n ks e => by
             obtain ⟨h0, a, h1, _⟩ := lk.meth j c m n ks e
             refine ⟨a, h1, fun ad pins s σ H vs zs us ws Q F φ h ds _ _ _ _ _ _ _ q => ?_, fun _ ad pins s σ H vs zs us ws Q F φ h ds _ _ _ _ _ _ _ q => ?_⟩
             · rw [callJ_no] at q
               exact (G.no_ q).elim
             · rw [callJ_no] at q
               exact (G.no_ q).elim
           cmet := fun X W _ _ j c m n ks e => by
             obtain ⟨mc, p, a, h1, h2, _⟩ := lk.cmet j c m n ks e
             refine ⟨mc, p, a, h1, h2, fun ad pins s σ H q' vs zs us ws Q F φ h ds _ _ _ _ _ _ _ q => ?_⟩
             rw [callJ_no] at q
             exact (G.no_ q).elim
           prop := fun X _ j c m e pins s σ H a dx fs Q F φ h d E _ _ _ _ q => by
             rw [callJ_no] at q
             exact (G.no_ q).elim
           rais := fun X sm _ j x n e => rais_ok (st.rais j x n e) st.nm sm
           ltry := fun wd X0 Y W hw htr _ sm _ _ _ _ _ _ _ => by
             cases wd with
             | false =>
               obtain ⟨gt, gf, C0, fdt, fdf, pst, psf, bdt, bdf, sct, scf, tf⟩ := st.tryf htr
               exact ⟨gt, tf.mt, tf.dt.kp, fun _ _ _ _ _ _ _ _ _ _ _ _ _ _ _ _ _ _ _ _ _ _ _ _ g => (G.no_ g).elim⟩
             | true =>
               obtain ⟨gw, fdw, psw, bdw, scw, wf⟩ := st.wordf hw
               exact ⟨gw, wf.mw, wf.dw.kp, fun _ _ _ _ _ _ _ _ _ _ _ _ _ _ _ _ _ _ _ _ _ _ _ _ g => (G.no_ g).elim⟩ }
  | m + 1 => by
    have ih := facts_all st lk m
    exact
    { hK := st.hK, pur := fun _ _ _ _ _ _ e1 e2 e => callN_pur e1 e2 e, gl := st.gl, bf := st.bf, wd := fun X s => st.wd X s.K, inj := st.inj, nm := st.nm, fld := st.fld, ncl := st.ncl, isc := st.isc, kit := st.kit
      call := fun X W sm tk j g n ks e => by
        have sm := sm.low
        obtain ⟨a, h1, h2, h3⟩ := lk.call j g n ks e
        exact ⟨a, h1, h2, callV_call sm tk ih st.off h3⟩
      meth := fun X W sm tk j c mm n ks e => by
        have sm := sm.low
        obtain ⟨h0, a, h1, h3⟩ := lk.meth j c mm n ks e
        exact ⟨h0, a, h1, callV_call sm tk ih st.off h3⟩
      mein := fun X W sm tk j c mm n ks e => by
        have sm := sm.low
        obtain ⟨h0, a, h1, h3⟩ := lk.meth j c mm n ks e
        exact ⟨a, h1, callV_call sm tk ih st.off h3, callVI_call sm tk ih st.off h3⟩
      cmet := fun X W sm tk j c mm n ks e => by
        have sm := sm.low
        obtain ⟨mc, p, a, h1, h2, h3⟩ := lk.cmet j c mm n ks e
        exact ⟨mc, p, a, h1, h2, callM_call sm tk ih st.off h3⟩
      prop := fun X sm j c mm e pins s σ H a dx fs Q F φ h d E I ea hr rd q => by
        have sm := sm.low
        obtain ⟨s', f, p, fa', fd, ps, b, h1, h2, h3, h4, h5, h6, h7, h8, h9⟩ := lk.prop j c mm e
        have Fk := fnFact_ok ih st.off h4 h2
        rw [← sm.p, ← sm.w, ← sm.K, ← sm.m, ← sm.b] at Fk
        have hlen : s'.fill [d] = some [d] := by
          unfold Shape.fill
          rw [h8, h9]
          rfl
        have cj : ∀ orc : Orc, callJ P orc false j [d] h = (orc s'.fn [d] h).bind fun r h1 => retD false r h1 := fun orc => by
          unfold callJ
          rw [h1]
          dsimp only
          rw [hlen]
        have q' : GE L F φ H (callJ P (callN P (m + 1)) false j [d] h) Q (fun _ _ _ => False) := by
          cases ec : callJ P (callN P (m + 1)) false j [d] h with
          | ok x h1 =>
            rw [ec] at q
            exact q
          | exc _ _ _ _ =>
            rw [ec] at q
            exact (G.no_ q).elim
          | no =>
            rw [ec] at q
            exact (G.no_ q).elim
        rw [cj, orc_succ h2, h3] at q'
        have sp : spB L P (callN P m) f (V.ref a :: []) H Q (fun _ _ _ => False) := by
          cases b with
          | true => exact pureGE hr (.cons rd .nil) q'
          | false => exact bodyGE hr (.cons rd .nil) q'
        rw [← sm.K] at h5 h6 h7
        exact getprop_ok I ea h5 h6 Fk (sm.r.mono (by omega)) h7 .nil passL sp
      rais := fun X sm _ j x n e => rais_ok (st.rais j x n e) st.nm sm
      ltry := fun wd X0 Y W hw htr hla sm cy p1 p2 p3 p4 p5 tk => by
        obtain ⟨T0, hT, la⟩ := hla
        obtain ⟨gt, gf, C0, fdt, fdf, pst, psf, bdt, bdf, sct, scf, tf⟩ := st.tryf htr
        have tt : ∀ (Z : Cx) (Wz : WX), Same pg w K mg base (3 * m + 3 + 2) Z → TryAt false L P (callN P (m + 1)) X0 Z Wz gt := fun Z Wz smz => by
          refine try_at tf st.hK st.inj la smz p1 p2 p3 p4 p5 fun k fl E ps bd sc A outer s H f c' ef hlt hroom => ?_
          obtain ⟨pa, _, _, hlk⟩ := la.tl k ps bd sc hlt
          obtain ⟨fl', caps, z1, z2, _, z3, z4⟩ := la.lk k sc bd hlk
          rw [ef] at z1
          cases z1
          rw [hT] at z4
          subst p1 p2 p3 p4 p5
          exact (exprOk (retOf fl.body) T.off).ev (LamX.lamCx X0 A outer s H E sc f c') _ { fa := ih.off, calm := rfl, nd := la.nd, room := hroom, tk := takes_of rfl rfl rfl rfl, lam := fun z => (nomatch (show false = true from z)) } bd z4
        cases wd with
        | false => exact ⟨gt, tf.mt, tf.dt.kp, tt Y W sm.low⟩
        | true =>
          obtain ⟨gw, fdw, psw, bdw, scw, wf⟩ := st.wordf hw
          exact ⟨gw, wf.mw, wf.dw.kp, word_at wf tf.mt tf.dt.kp st.hK st.wd sm tt⟩ }
end
end MV

set_option maxRecDepth 100000
set_option maxHeartbeats 1000000
/-! VP: what stands in the modules, by one Bool. -/
namespace MV
open PySem PySem.Spec PyProof.Rows L2
/-! ### the text's tables -/
structure Tx extends Tb where
  /-- the names of the written dicts -/
  wn : List Str
  /-- the law's own def: its names, its scope -/
  lN : List Str := []
  lS : Option Scope := none
def far (i : Nat) : Str := ⟨(List.replicate (1000 + i) 35).toArray⟩
def nmOf (l : List Str) (i : Nat) : Str := l.getD i (far i)
def shortB (l : List Str) : Bool := decide l.Nodup && l.all fun x => Nat.blt x.cps.size 1000
theorem far_size (i : Nat) : (far i).cps.size = 1000 + i := by
  unfold far
  simp
theorem nmOf_inj {l : List Str} (h : shortB l = true) (i j : Nat) (e : nmOf l i = nmOf l j) : i = j := by
  obtain ⟨h1, h2⟩ := and_ h
  have h1 : l.Nodup := of_decide_eq_true h1
  have sz : ∀ i, i < l.length → (nmOf l i).cps.size < 1000 := fun i hi => by
    unfold nmOf
    rw [List.getD_eq_getElem?_getD, List.getElem?_eq_getElem hi]
    exact Nat.le_of_ble_eq_true (List.all_eq_true.mp h2 _ (List.getElem_mem hi))
  have sf : ∀ i, ¬ i < l.length → (nmOf l i).cps.size = 1000 + i := fun i hi => by
    unfold nmOf
    rw [List.getD_eq_getElem?_getD, List.getElem?_eq_none (Nat.le_of_not_lt hi)]
    exact far_size i
  by_cases hi : i < l.length
  · by_cases hj : j < l.length
    · unfold nmOf at e
      rw [List.getD_eq_getElem?_getD, List.getElem?_eq_getElem hi, List.getD_eq_getElem?_getD, List.getElem?_eq_getElem hj] at e
      exact (List.getElem_inj h1).mp e
    · have a := sz i hi
      rw [e, sf j hj] at a
      omega
  · by_cases hj : j < l.length
    · have a := sz j hj
      rw [← e, sf i hi] at a
      omega
    · have a := sf i hi
      rw [e, sf j hj] at a
      omega
def lkOf (T : Tx) (K : PySem.W.Frag) (tb : List (Addr × Str)) (cl : List (Str × Addr)) : Lk := { K := K, nm := nmOf T.nm, cl := fun c => He.ga K (T.cn.getD c ""), wa := fun k => He.ga K (T.wn.getD k ""), xc := fun c => He.ga K (T.xn.getD c ("PoseError", 0)).1, tabs := tb, lq := "law.<locals>.<lambda>", lcl := cl,
                                                                                                  lt := fun k ps bd sc => ∃ (ls : Scope) (pa : Option Str), T.lS = some ls ∧ lamPs ps = some pa ∧ lamSB ls sc T.lN pa = true ∧ T.lk k sc bd = true }
/-- alike, as far as written data go -/
structure Sim (L L' : Lk) : Prop where
  K : L'.K = L.K
  cl : L'.cl = L.cl
  wa : L'.wa = L.wa
theorem Sim.lk {T : Tx} {K : PySem.W.Frag} {tb : List (Addr × Str)} {cl : List (Str × Addr)} : Sim (lkOf T K [] []) (lkOf T K tb cl) := ⟨rfl, rfl, rfl⟩
/-! ### written data -/
mutual
def relK (L : Lk) : D → Value → Bool
  | .non, u => (match u with
    | .none => true
    | _ => false)
  | .bl b, u => (match u with
    | .bool c => b == c
    | _ => false)
  | .int i, u => (match u with
    | .int j _ => decide (i = j)
    | _ => false)
  | .str x, u => (match u with
    | .str y _ => decide (x = y)
    | _ => false)
  | .cls c, u => (match u with
    | .ref a => decide (L.cl c = a)
    | _ => false)
  | .wd c, u => (match u with
    | .ref a => decide (L.wa c = a)
    | _ => false)
  | .wtup l, u => (match u with
    | .ref a => (match L.K.lookup a with
      | some ⟨.type c, none, .seq its _, _⟩ => decide (c = "tuple") && (Nat.ble its.size line && relKs L l its.toList)
      | _ => false)
    | _ => false)
  | _, _ => false
def relKs (L : Lk) : List D → List Value → Bool
  | [], us => (match us with
    | [] => true
    | _ => false)
  | d :: ds, us => (match us with
    | u :: us => relK L d u && relKs L ds us
    | _ => false)
end
def tv : Value → V
  | .none => .non
  | .bool b => .bl b
  | .int i _ => .int i
  | .str x _ => .str x
  | .ref a => .ref a
  | _ => .non
mutual
theorem relK_ok {L : Lk} : ∀ {d : D} {u : Value}, relK L d u = true → RelV (tv u) u ∧ ∀ L', Sim L L' → ∀ F φ H, Rel L' F φ H d (tv u)
  | .non, u, h => by
    cases u <;> first | (cases h; done) | skip
    exact ⟨rfl, fun _ _ _ _ _ => .non⟩
  | .bl b, u, h => by
    cases u <;> first | (cases h; done) | skip
    rename_i c
    have e : b = c := by simpa [relK] using h
    subst e
    exact ⟨rfl, fun _ _ _ _ _ => .bl _⟩
  | .int i, u, h => by
    cases u <;> first | (cases h; done) | skip
    have e := of_decide_eq_true (by simpa only [relK] using h)
    subst e
    exact ⟨⟨_, rfl⟩, fun _ _ _ _ _ => .int _⟩
  | .str i, u, h => by
    cases u <;> first | (cases h; done) | skip
    have e := of_decide_eq_true (by simpa only [relK] using h)
    subst e
    exact ⟨⟨_, rfl⟩, fun _ _ _ _ _ => .str _⟩
  | .cls c, u, h => by
    cases u <;> first | (cases h; done) | skip
    have e := of_decide_eq_true (by simpa only [relK] using h)
    subst e
    exact ⟨rfl, fun L' e _ _ _ => e.cl ▸ .cls _⟩
  | .wd c, u, h => by
    cases u <;> first | (cases h; done) | skip
    have e := of_decide_eq_true (by simpa only [relK] using h)
    subst e
    exact ⟨rfl, fun L' e _ _ _ => e.wa ▸ .wd _⟩
  | .wtup l, u, h => by
    cases u <;> first | (cases h; done) | skip
    rename_i a
    have h : (match L.K.lookup a with
      | some ⟨.type c, none, .seq its _, _⟩ => decide (c = "tuple") && (Nat.ble its.size line && relKs L l its.toList)
      | _ => false) = true := by simpa only [relK] using h
    split at h
    · rename_i c its n sl e
      obtain ⟨h1, h⟩ := and_ h
      obtain ⟨h2, h3⟩ := and_ h
      obtain ⟨k1, k2⟩ := relKs_ok h3
      exact ⟨rfl, fun L' eq F φ H => .wtup (eq.K ▸ e) (congrArg Value.type (of_decide_eq_true h1)) rfl rfl (ble_line h2) k1 (k2 L' eq F φ H)⟩
    · cases h
  | .tup _, u, h => by cases u <;> cases h
  | .lst _, u, h => by cases u <;> cases h
  | .bor _, u, h => by cases u <;> cases h
  | .dct _ _, u, h => by cases u <;> cases h
  | .obj _ _ _, u, h => by cases u <;> cases h
  | .ref _, u, h => by cases u <;> cases h
theorem relKs_ok {L : Lk} : ∀ {ds : List D} {us : List Value}, relKs L ds us = true → Vals (us.map tv) us ∧ ∀ L', Sim L L' → ∀ F φ H, Rels L' F φ H ds (us.map tv)
  | [], [], _ => ⟨.nil, fun _ _ _ _ _ => .nil⟩
  | [], _ :: _, h => by cases h
  | _ :: _, [], h => by cases h
  | d :: ds, u :: us, h => by
    obtain ⟨h1, h2⟩ := and_ (by simpa only [relKs] using h)
    obtain ⟨a1, a2⟩ := relK_ok h1
    obtain ⟨b1, b2⟩ := relKs_ok h2
    exact ⟨.cons a1 b1, fun L' eq F φ H => .cons (a2 L' eq F φ H) (b2 L' eq F φ H)⟩
end
/-! ### written dicts, int keys -/
def wdGo (L : Lk) : List DictEntry → List Key → List D → Bool
  | [], [], [] => true
  | e :: es, .inl i :: ks, d :: ds => ((match e.key with
    | .int j _ => decide (i = j)
    | _ => false) && (decide (e.hash = hashInt i) && relK L d e.val)) && wdGo L es ks ds
  | _, _, _ => false
def wdB (L : Lk) (a : Addr) (w : List Key × List D) : Bool := match L.K.lookup a with
  | some ⟨.type c, none, .dict es _, sl⟩ => decide (c = "dict") && (sl.isEmpty && wdGo L es.toList w.1 w.2)
  | _ => false
theorem wdGo_ok {L : Lk} : ∀ {es : List DictEntry} {ks : List Key} {ds : List D}, wdGo L es ks ds = true → (∀ e ∈ es, ∃ i t, e.key = .int i t ∧ e.hash = hashInt i) ∧
    ∀ q d, findK ks ds q = some d → ∃ e, (es.find? fun e => keyIs q e.key) = some e ∧ relK L d e.val = true
  | [], [], [], _ => ⟨fun e h => (by cases h), fun q d h => (by cases h)⟩
  | e :: es, .inl i :: ks, d :: ds, h => by
    obtain ⟨h1, h2⟩ := and_ (by simpa only [wdGo] using h)
    obtain ⟨h3, h4⟩ := and_ h1
    obtain ⟨h5, h6⟩ := and_ h4
    obtain ⟨ih1, ih2⟩ := wdGo_ok h2
    obtain ⟨t, ek⟩ : ∃ t, e.key = .int i t := by
      cases hk : e.key <;> rw [hk] at h3 <;> first | (cases h3; done) | skip
      rename_i j t
      have e := of_decide_eq_true h3
      subst e
      exact ⟨t, rfl⟩
    refine ⟨fun z hz => ?_, fun q d' hq => ?_⟩
    · rcases List.mem_cons.mp hz with z1 | z1
      · subst z1
        exact ⟨i, t, ek, of_decide_eq_true h5⟩
      · exact ih1 z z1
    · have hq : (if decide ((Sum.inl i : Key) = q) = true then some d else findK ks ds q) = some d' := hq
      by_cases hi : (Sum.inl i : Key) = q
      · subst hi
        rw [if_pos (decide_eq_true rfl)] at hq
        cases hq
        refine ⟨e, List.find?_cons_of_pos ?_, h6⟩
        rw [ek]
        exact keyIs_int i t
      · rw [if_neg (by simpa using hi)] at hq
        obtain ⟨z, z1, z2⟩ := ih2 q d' hq
        refine ⟨z, ?_, z2⟩
        rw [List.find?_cons_of_neg]
        · exact z1
        · rw [ek]
          cases q with
          | inl j =>
            have : j ≠ i := fun z => hi (by rw [z])
            simpa [keyIs, Value.isInt] using fun z => this z.symm
          | inr x => simp [keyIs, Value.isStrOf]
  | [], _ :: _, _, h => by simp [wdGo] at h
  | [], [], _ :: _, h => by simp [wdGo] at h
  | _ :: _, [], _, h => by simp [wdGo] at h
  | _ :: _, .inr _ :: _, _, h => by simp [wdGo] at h
  | _ :: _, .inl _ :: _, [], h => by simp [wdGo] at h
theorem wdOk_of {L0 L : Lk} (sim : Sim L0 L) {W : Wds} (h : ∀ k w, W[k]? = some w → wdB L0 (L0.wa k) w = true) (X : Cx) (hK : X.K = L.K) : WdOk X L W := by
  intro value slice pins s σ H x y v u Q I rx ry ⟨k, w, q, d, e1, e2, e3, e4, hQ⟩ hs
  have hb := h k w e2
  unfold wdB at hb
  subst e1 e3
  rw [← sim.wa] at hb
  obtain rfl : v = Value.ref (L.wa k) := rx
  split at hb
  · rename_i c es n sl hl
    obtain ⟨h1, hb⟩ := and_ hb
    obtain ⟨h2, h3⟩ := and_ hb
    have h1 := of_decide_eq_true h1
    subst h1
    obtain ⟨k1, k2⟩ := wdGo_ok h3
    obtain ⟨e, f1, f2⟩ := k2 q d e4
    rw [← sim.K, ← hK] at hl
    have hm : s.heap.MapOf (mixKind X.prog X.w) (L.wa k) (fun q => findBy keyIs es q) :=
      ⟨_, es, n, I.kIn _ _ hl, ⟨rfl, rfl, Array.isEmpty_iff.mp h2⟩, rfl, fun e he => by
        obtain ⟨i, t, g1, g2⟩ := k1 e (Array.mem_toList_iff.mpr he)
        exact ⟨Sum.inl i, by rw [g1]; exact mixKind_int X.prog X.w i t, g2⟩, fun _ => rfl⟩
    have hf : findBy keyIs es q = some e.val := by
      obtain ⟨l⟩ := es
      unfold findBy
      rw [List.find?_toArray]
      rw [show (l.find? fun e => keyIs q e.key) = some e from f1]
      rfl
    obtain ⟨r1, r2⟩ := relK_ok f2
    have hq : keyIs q u = true := by
      cases q with
      | inl i =>
        obtain ⟨t, rfl⟩ := (show ∃ t, u = Value.int i t from ry)
        exact keyIs_int i t
      | inr z =>
        obtain ⟨t, rfl⟩ := (show ∃ t, u = Value.str z t from ry)
        exact keyIs_str z t
    exact tail_any hm.typeIs slot_dict_getitem.lookup (wpAny_getItem_of (knd := mixKind X.prog X.w) (k := q) hq hm hf ⟨tv e.val, H, I.tok _, r1, hQ _ (r2 L sim)⟩) hs
  · cases hb
/-! ### the Bool -/
def glB1 (T : Tx) (K : PySem.W.Frag) : List Str → List D → Bool
  | x :: xs, d :: ds => (match PySem.W.nsIn K mainGlobals x with
    | some (some u) => relK (lkOf T K [] []) d u
    | _ => false) && glB1 T K xs ds
  | _, _ => true
theorem glB1_ok {tb : List (Addr × Str)} {cl : List (Str × Addr)} {T : Tx} {K : PySem.W.Frag} {h : Heap} {mg : Str → Option Value} (X : K.In h) (G : h.Ns mainGlobals mg) : ∀ {xs : List Str} {ds : List D}, glB1 T K xs ds = true → ∀ (i : Nat) (x : Str) (d : D), xs[i]? = some x → ds[i]? = some d →
    ∃ v u, mg x = some u ∧ RelV v u ∧ ∀ F φ H, Rel (lkOf T K tb cl) F φ H d v
  | [], _, _, i, x, d, e, _ => by simp at e
  | _ :: _, [], _, i, x, d, _, e => by simp at e
  | x :: xs, d :: ds, h, i, y, c, e1, e2 => by
    obtain ⟨h1, h2⟩ := and_ (by simpa only [glB1] using h)
    cases i with
    | succ i => exact glB1_ok X G h2 i y c (by simpa using e1) (by simpa using e2)
    | zero =>
      simp at e1 e2
      subst e1 e2
      split at h1
      · rename_i u hu
        obtain ⟨r1, r2⟩ := relK_ok h1
        exact ⟨tv u, u, PySem.W.mg_of X G hu, r1, r2 _ Sim.lk⟩
      · cases h1
def wdAll (L : Lk) : Nat → Wds → Bool
  | _, [] => true
  | k, w :: ws => wdB L (L.wa k) w && wdAll L (k + 1) ws
theorem wdAll_ok {L : Lk} : ∀ {ws : Wds} {k : Nat}, wdAll L k ws = true → ∀ i w, ws[i]? = some w → wdB L (L.wa (k + i)) w = true
  | [], _, _, i, w, e => by simp at e
  | v :: ws, k, h, i, w, e => by
    obtain ⟨h1, h2⟩ := and_ (by simpa only [wdAll] using h)
    cases i with
    | zero =>
      simp at e
      subst e
      exact h1
    | succ i =>
      have := wdAll_ok h2 i w (by simpa using e)
      rwa [show k + 1 + i = k + (i + 1) by omega] at this
def iscB (K : PySem.W.Frag) (x : Str) : Bool := (He.Fa.cls x).ok K && (He.eqO (PySem.W.findIn K (.ref (He.ga K x)) "__class__") (some (some (.builtin "object.__class__"))) && (He.eqO (PySem.W.specialIn K (.builtin "object.__class__") "__get__") (some (some (.builtin "getset_descriptor.__get__"))) &&
  (decide (PySem.W.takesIn K (.builtin "object.__class__") = some true) && (decide (PySem.W.mroIn K (He.ga K x) (.type "object") = some true) && (PySem.W.selfFirst K (He.ga K x) && He.eqO (PySem.W.findIn K (.ref (He.ga K x)) "__ne__") (some (some (.builtin "object.__ne__"))))))))
theorem iscB_ok {K : PySem.W.Frag} {x : Str} (h : iscB K x = true) : IsiC K (He.ga K x) := by
  obtain ⟨h1, h⟩ := and_ h
  obtain ⟨h2, h⟩ := and_ h
  obtain ⟨h3, h⟩ := and_ h
  obtain ⟨h4, h⟩ := and_ h
  obtain ⟨h5, h⟩ := and_ h
  obtain ⟨h6, h7⟩ := and_ h
  exact ⟨He.cls_ok h1, He.eqO_ok h2, He.eqO_ok h3, of_decide_eq_true h4, of_decide_eq_true h5, h6, He.eqO_ok h7⟩
def tvs (nc : Nat) : List TyV := [.non, .bl, .int, .str, .lst, .tup, .dct] ++ (List.range nc).map .own
def tys (n : Nat) : List Ty := [.int, .bool, .str, .list, .tuple, .dict] ++ (List.range n).map .cls
def kitB (T : Tx) (K : PySem.W.Frag) (nc : Nat) : Bool := (tvs nc).all fun t => (tys T.cn.length).all fun u => decide (PySem.W.kitOne K (tvV (lkOf T K [] []) t) (tyV' (lkOf T K [] []) u) = some (tyIs t u))
def statB (T : Tx) (P : Prog) (K : PySem.W.Frag) : Bool := glB1 T K T.gn P.gl && (bNames.all (fun x => He.eqO (PySem.W.nsIn K mainGlobals x) (some none)) && (wdAll (lkOf T K [] []) 0 P.wd && (shortB T.nm &&
  ((P.fld.all fun p => (He.Fa.cls (T.cn.getD p.1 "")).ok K && (He.Fa.noat (T.cn.getD p.1 "") (nmOf T.nm p.2)).ok K) && ((T.cn.all fun x => (He.Fa.glo x).ok K) && (((List.range P.nc).all fun c => iscB K (T.cn.getD c "")) && kitB T K P.nc))))))
theorem stat_ok {tb : List (Addr × Str)} {cl : List (Str × Addr)} {T : Tx} {P : Prog} {pg : Program} {w : World} {K : PySem.W.Frag} {h : Heap} {mg : Str → Option Value} {base : Heap} (X : K.In h) (G : h.Ns mainGlobals mg) (s : statB T P K = true) (hq : T.lq = false) (hr : ∀ (j : Nat) (x : Str) (n : Nat), T.xn[j]? = some (x, n) → ExF T.toTb (lkOf T K tb cl) P K mg j x n)
    (ht : T.tr = true → ∃ (gt gf C0 : Addr) (fdt fdf : FuncData) (pst psf : Arguments) (bdt bdf : List Stmt) (sct scf : Scope), TryF (lkOf T K tb cl) P K mg gt gf C0 fdt fdf pst psf bdt bdf sct scf) (hwo : T.tw = true → ∃ (gw : Addr) (fdw : FuncData) (psw : Arguments) (bdw : List Stmt) (scw : Scope), WordF K mg gw fdw psw bdw scw) : Stat T.toTb (lkOf T K tb cl) P pg w K mg base := by
  obtain ⟨h1, s⟩ := and_ s
  obtain ⟨h2, s⟩ := and_ s
  obtain ⟨h3, s⟩ := and_ s
  obtain ⟨h4, s⟩ := and_ s
  obtain ⟨h5, s⟩ := and_ s
  obtain ⟨h6, s⟩ := and_ s
  obtain ⟨h7, h8⟩ := and_ s
  refine ⟨rfl, glB1_ok X G h1, fun x hx => PySem.W.mg_none_of X G (He.eqO_ok (List.all_eq_true.mp h2 x hx)), fun X e => wdOk_of Sim.lk (fun k w e => by
      have := wdAll_ok h3 k w e
      rwa [Nat.zero_add] at this) X e, nmOf_inj h4, fun i x e => ?_, fun c i e => ?_, fun c x e => ?_, fun c hc => ?_, fun t u ht hu => ?_, hq, hr, ht, hwo⟩
  · show nmOf T.nm i = x
    unfold nmOf
    rw [List.getD_eq_getElem?_getD, e]
    rfl
  · have z := List.all_eq_true.mp h5 (c, i) (by simpa using e)
    obtain ⟨z1, z2⟩ := and_ z
    exact ⟨He.cls_ok z1, He.noat_ok z2⟩
  · have z := He.glo_ok X G (List.all_eq_true.mp h6 x (List.mem_of_getElem? e))
    show mg x = some (.ref (He.ga K (T.cn.getD c "")))
    rw [List.getD_eq_getElem?_getD, e]
    exact z
  · exact iscB_ok (List.all_eq_true.mp h7 c (List.mem_range.mpr hc))
  · have m1 : t ∈ tvs P.nc := by
      unfold tvs
      cases t with
      | own c => exact List.mem_append_right _ (List.mem_map.mpr ⟨c, List.mem_range.mpr (ht c rfl), rfl⟩)
      | _ => exact List.mem_append_left _ (by simp)
    have m2 : u ∈ tys T.cn.length := by
      unfold tys
      cases u with
      | cls c =>
        obtain ⟨x, e⟩ := hu c rfl
        exact List.mem_append_right _ (List.mem_map.mpr ⟨c, List.mem_range.mpr (List.getElem?_eq_some_iff.mp e).1, rfl⟩)
      | _ => exact List.mem_append_left _ (by simp)
    exact of_decide_eq_true (List.all_eq_true.mp (List.all_eq_true.mp h8 t m1) u m2)
end MV

set_option maxRecDepth 100000
set_option maxHeartbeats 1000000
/-! VQ: entries, shapes, the head's hook, the end. -/
namespace MV
open PySem PySem.Spec PyProof.Rows L2
/-! ### a def as it stands in the text -/
structure FnE where
  adr : PySem.W.Frag → Addr
  name : Str
  qual : Str
  params : Arguments
  bd : List Stmt
  scope : Scope
  dfl : List D := []
  kwd : List (Str × D) := []
  N : List Str
  ps : List Str
  f : Fn
abbrev FnW : Type := Option (Str × Str × Arguments × FuncBody × Scope × Addr × List (Str × Addr) × Addr)
def FnE.ob (K : PySem.W.Frag) (e : FnE) : FnW := match K.lookup (e.adr K) with
  | some ⟨_, _, .func fd, _⟩ => some (fd.name, fd.qualname, fd.params, fd.body, fd.scope, fd.globals, fd.closure, fd.builtins)
  | _ => none
def FnE.val (e : FnE) : FnW := some (e.name, e.qual, e.params, .stmts e.bd, e.scope, mainGlobals, [], builtinsNs)
def dflB (L : Lk) (dV : Value) : List D → Bool
  | [] => (match dV with
    | .none => true
    | _ => false)
  | d :: ds => (match dV with
    | .ref T => (match L.K.lookup T with
      | some ⟨_, _, .seq its _, _⟩ => relKs L (d :: ds) its.toList
      | _ => false)
    | _ => false)
def nsV (K : PySem.W.Frag) (D : Addr) (x : Str) : Value := match PySem.W.nsIn K D x with
  | some (some u) => u
  | _ => .none
def kwdB (L : Lk) (kV : Value) : List (Str × D) → Bool
  | [] => true
  | q :: qs => (match kV with
    | .ref D => (q :: qs).all fun q => He.eqO (PySem.W.nsIn L.K D q.1) (some (some (nsV L.K D q.1))) && relK L q.2 (nsV L.K D q.1)
    | _ => false)
def FnE.okB (L : Lk) (e : FnE) : Bool := PySem.W.keepIn L.K (.ref (e.adr L.K)) && (match L.K.lookup (e.adr L.K) with
  | some ⟨_, _, .func fd, _⟩ => PySem.W.codeIn L.K fd.code e.qual && (dflB L fd.defaults e.dfl && kwdB L fd.kwdefaults e.kwd)
  | _ => false)
def scB (N ps : List Str) (sc : Scope) : Bool := decide (sc.kind = .function) && (!sc.isCoroutine && (!sc.isGenerator && (decide N.Nodup && (decide (N.take ps.length = ps) && ((ps.all fun x => stoB sc x) && (sc.names.all fun y => !decide (y.2 = .free)))))))
theorem scB_ok {N ps : List Str} {sc : Scope} (h : scB N ps sc = true) : FnScope N ps sc := by
  obtain ⟨h1, h⟩ := and_ h
  obtain ⟨h2, h⟩ := and_ h
  obtain ⟨h3, h⟩ := and_ h
  obtain ⟨h4, h⟩ := and_ h
  obtain ⟨h5, h⟩ := and_ h
  obtain ⟨h6, h7⟩ := and_ h
  exact ⟨of_decide_eq_true h1, by simpa using h2, by simpa using h3, of_decide_eq_true h4, of_decide_eq_true h5, fun x hx => stoB_ (List.all_eq_true.mp h6 x hx), fun y hy => by simpa using List.all_eq_true.mp h7 y hy⟩
def FnE.ckB (T : Tb) (e : FnE) : Bool := scB e.N e.ps e.scope && ((e.f.np == e.ps.length) && ((e.f.nl == e.N.length) && ckS T e.N e.f.body e.scope e.bd))
/-- what the head tells of a def -/
structure EntOk (L : Lk) (e : FnE) (fd : FuncData) (dvs : List V) (kws : List (Str × V)) : Prop where
  D : FunD L.K e.name e.qual e.params e.bd e.scope dvs kws (e.adr L.K) fd
  dl : dvs.length = e.dfl.length
  dr : ∀ F φ H, Rels L F φ H e.dfl dvs
  kn : kws.map (·.1) = e.kwd.map (·.1)
  kr : ∀ F φ H, Rels L F φ H (e.kwd.map (·.2)) (kws.map (·.2))
theorem dflB_ok {L : Lk} {dV : Value} : ∀ {ds : List D}, dflB L dV ds = true → ∃ dvs, DflV L.K dV dvs ∧ dvs.length = ds.length ∧ ∀ L', Sim L L' → ∀ F φ H, Rels L' F φ H ds dvs
  | [], h => by
    cases dV with
    | none => exact ⟨[], .inl ⟨rfl, rfl⟩, rfl, fun _ _ _ _ _ => .nil⟩
    | _ => cases h
  | d :: ds, h => by
    cases dV with
    | ref T =>
      have h1 : (match L.K.lookup T with
        | some ⟨_, _, .seq its _, _⟩ => relKs L (d :: ds) its.toList
        | _ => false) = true := h
      split at h1
      · rename_i its n sl e
        obtain ⟨r1, r2⟩ := relKs_ok h1
        have hl := (r2 L ⟨rfl, rfl, rfl⟩ ⟨fun _ => False, fun _ => False⟩ [] (fun _ => none)).length
        refine ⟨its.toList.map tv, .inr ⟨fun z => (by rw [z] at hl; cases hl), T, _, its.toList, n, rfl, e, by simp, r1⟩, hl.symm, r2⟩
      · cases h1
    | _ => cases h
theorem kwdB_ok {L : Lk} {kV : Value} {qs : List (Str × D)} (h : kwdB L kV qs = true) : ∃ kws, KwdV L.K kV kws ∧ kws.map (·.1) = qs.map (·.1) ∧ ∀ L', Sim L L' → ∀ F φ H, Rels L' F φ H (qs.map (·.2)) (kws.map (·.2)) := by
  cases qs with
  | nil => exact ⟨[], .inl rfl, rfl, fun _ _ _ _ _ => .nil⟩
  | cons q qs =>
    cases kV with
    | ref D =>
      have h1 : ((q :: qs).all fun q => He.eqO (PySem.W.nsIn L.K D q.1) (some (some (nsV L.K D q.1))) && relK L q.2 (nsV L.K D q.1)) = true := h
      have h2 := fun z hz => and_ (List.all_eq_true.mp h1 z hz)
      clear h h1
      generalize q :: qs = l at h2
      refine ⟨l.map fun q => (q.1, tv (nsV L.K D q.1)), .inr ⟨D, rfl, fun p hp => ?_⟩, by simp, fun L' eq F φ H => ?_⟩
      · obtain ⟨q, hq, e⟩ := List.mem_map.mp hp
        subst e
        exact ⟨_, He.eqO_ok (h2 q hq).1, (relK_ok (h2 q hq).2).1⟩
      · rw [List.map_map]
        induction l with
        | nil => exact .nil
        | cons z zs ih => exact .cons ((relK_ok (h2 z (List.mem_cons_self ..)).2).2 L' eq F φ H) (ih fun y hy => h2 y (List.mem_cons_of_mem _ hy))
    | _ => cases h
theorem FnE.ent {L : Lk} {e : FnE} (h1 : e.ob L.K = e.val) (h2 : e.okB L = true) : ∃ fd dvs kws, (∃ oc od osl, L.K.lookup (e.adr L.K) = some ⟨oc, od, .func fd, osl⟩) ∧ ∀ L', Sim L L' → EntOk L' e fd dvs kws := by
  obtain ⟨kp, c2⟩ := and_ h2
  unfold FnE.ob at h1
  cases q : L.K.lookup (e.adr L.K) with
  | none =>
    rw [q] at c2
    cases c2
  | some o =>
    obtain ⟨oc, od, dt, osl⟩ := o
    rw [q] at c2 h1
    cases dt with
    | func fd =>
      obtain ⟨n1, n2, n3, n4, n5, n6, n7, n8, n9, n10, n11, n12, n13, n14, n15⟩ := fd
      have e2 : (some (n1, n2, n3, n4, n5, n6, n7, n15) : FnW) = some (e.name, e.qual, e.params, .stmts e.bd, e.scope, mainGlobals, [], builtinsNs) := h1
      simp only [Option.some.injEq, Prod.mk.injEq] at e2
      obtain ⟨g1, g2, g3, g4, g5, g6, g7, g8⟩ := e2
      subst g1 g2 g3 g4 g5 g6 g7 g8
      have c3 : (PySem.W.codeIn L.K n13 e.qual && (dflB L n8 e.dfl && kwdB L n9 e.kwd)) = true := c2
      obtain ⟨k1, k2⟩ := and_ c3
      obtain ⟨k3, k4⟩ := and_ k2
      obtain ⟨dvs, a1, a2, a3⟩ := dflB_ok k3
      obtain ⟨kws, b1, b2, b3⟩ := kwdB_ok k4
      exact ⟨_, dvs, kws, ⟨oc, od, osl, rfl⟩, fun L' sm => ⟨by rw [sm.K]; exact ⟨⟨oc, od, n8, n9, n10, n11, n12, n13, n14, osl, rfl, q, k1, a1, b1⟩, kp⟩, a2, a3 L' sm, b2, b3 L' sm⟩⟩
    | _ => cases c2
/-! ### how parameters are filled -/
inductive Src where
  | a (i : Nat) | df (i : Nat) | kd (i : Nat)
def pick {α : Type} (l its mv : List α) : List Src → List α
  | [] => []
  | .a i :: r => (match l[i]? with
    | some x => x :: pick l its mv r
    | none => pick l its mv r)
  | .df i :: r => (match its[i]? with
    | some x => x :: pick l its mv r
    | none => pick l its mv r)
  | .kd i :: r => (match mv[i]? with
    | some x => x :: pick l its mv r
    | none => pick l its mv r)
theorem Vals.get : ∀ {vs : List V} {us : List Value} (i : Nat), Vals vs us → (vs[i]? = none ∧ us[i]? = none) ∨ ∃ v u, vs[i]? = some v ∧ us[i]? = some u ∧ RelV v u
  | _, _, i, .nil => .inl ⟨rfl, rfl⟩
  | _, _, 0, .cons r _ => .inr ⟨_, _, rfl, rfl, r⟩
  | _, _, i + 1, .cons _ t => Vals.get i t
theorem pick_rel {vs ds mz : List V} {us its mv : List Value} (r1 : Vals vs us) (r2 : Vals ds its) (r3 : Vals mz mv) : ∀ src : List Src, Vals (pick vs ds mz src) (pick us its mv src)
  | [] => .nil
  | .a i :: r => by
    unfold pick
    rcases Vals.get i r1 with ⟨e1, e2⟩ | ⟨v, u, e1, e2, q⟩
    · rw [e1, e2]
      exact pick_rel r1 r2 r3 r
    · rw [e1, e2]
      exact .cons q (pick_rel r1 r2 r3 r)
  | .df i :: r => by
    unfold pick
    rcases Vals.get i r2 with ⟨e1, e2⟩ | ⟨v, u, e1, e2, q⟩
    · rw [e1, e2]
      exact pick_rel r1 r2 r3 r
    · rw [e1, e2]
      exact .cons q (pick_rel r1 r2 r3 r)
  | .kd i :: r => by
    unfold pick
    rcases Vals.get i r3 with ⟨e1, e2⟩ | ⟨v, u, e1, e2, q⟩
    · rw [e1, e2]
      exact pick_rel r1 r2 r3 r
    · rw [e1, e2]
      exact .cons q (pick_rel r1 r2 r3 r)
def toSel (e : FnE) : Src → Sel
  | .a i => .a i
  | .df i => .d (e.dfl.getD i .non)
  | .kd i => .d ((e.kwd.map (·.2)).getD i .non)
def srcB (e : FnE) : List Src → Bool := fun l => l.all fun
  | .a _ => true
  | .df i => Nat.blt i e.dfl.length
  | .kd i => Nat.blt i e.kwd.length
theorem fill_rel {L : Lk} {e : FnE} {F : Fm} {φ : List Addr} {H : Hp} {ds : List D} {l dvs mz : List V} (r1 : Rels L F φ H ds l) (r2 : Rels L F φ H e.dfl dvs) (r3 : Rels L F φ H (e.kwd.map (·.2)) mz) : ∀ {src : List Src} {qs : List D}, srcB e src = true → selD ds (src.map (toSel e)) = some qs → Rels L F φ H qs (pick l dvs mz src)
  | [], qs, _, h => by
    cases h
    exact .nil
  | .a i :: r, qs, hb, h => by
    have hb := (and_ (show ((true : Bool) && srcB e r) = true from hb)).2
    have h : (match ds[i]?, selD ds (r.map (toSel e)) with
      | some d, some l => some (d :: l)
      | _, _ => none) = some qs := h
    split at h
    · rename_i d l' e1 e2
      cases h
      obtain ⟨v, f1, f2⟩ := r1.get e1
      unfold pick
      rw [f1]
      exact .cons f2 (fill_rel r1 r2 r3 hb e2)
    · cases h
  | .df i :: r, qs, hb, h => by
    obtain ⟨hi, hb⟩ := and_ (show (Nat.blt i e.dfl.length && srcB e r) = true from hb)
    have hi : i < e.dfl.length := Nat.le_of_ble_eq_true hi
    have h : (match selD ds (r.map (toSel e)) with
      | some l => some (e.dfl.getD i .non :: l)
      | none => none) = some qs := h
    split at h
    · rename_i l' e2
      cases h
      have e1 : e.dfl[i]? = some (e.dfl.getD i .non) := by
        rw [List.getD_eq_getElem?_getD, List.getElem?_eq_getElem hi]
        rfl
      obtain ⟨v, f1, f2⟩ := r2.get e1
      unfold pick
      rw [f1]
      exact .cons f2 (fill_rel r1 r2 r3 hb e2)
    · cases h
  | .kd i :: r, qs, hb, h => by
    obtain ⟨hi, hb⟩ := and_ (show (Nat.blt i e.kwd.length && srcB e r) = true from hb)
    have hi : i < (e.kwd.map (·.2)).length := by
      rw [List.length_map]
      exact Nat.le_of_ble_eq_true hi
    have h : (match selD ds (r.map (toSel e)) with
      | some l => some ((e.kwd.map (·.2)).getD i .non :: l)
      | none => none) = some qs := h
    split at h
    · rename_i l' e2
      cases h
      have e1 : (e.kwd.map (·.2))[i]? = some ((e.kwd.map (·.2)).getD i .non) := by
        rw [List.getD_eq_getElem?_getD, List.getElem?_eq_getElem hi]
        rfl
      obtain ⟨v, f1, f2⟩ := r3.get e1
      unfold pick
      rw [f1]
      exact .cons f2 (fill_rel r1 r2 r3 hb e2)
    · cases h
/-- the binding of a shape's arguments -/
def BindP (e : FnE) (n : Nat) (ks : List Str) (src : List Src) : Prop :=
  ∀ (L : Lk) (fd : FuncData) (dvs : List V) (kws : List (Str × V)), EntOk L e fd dvs kws → ∃ its mv : List Value, KBn L.K fd e.ps n ks (fun us ws => pick (us ++ ws) its mv src) (fun vs zs => pick (vs ++ zs) dvs (kws.map (·.2)) src)
section
variable {e : FnE} {n : Nat} {ks : List Str} {src : List Src}
theorem bind_0 (hd : e.dfl = []) (hk : e.kwd = [])
    (h : ∀ (kV doc pm : Value) (an : Option Addr) (cdv ct : Value) (us ws : List Value), us.length = n → ws.length = ks.length → bindArgs (PySem.W.fnOf e.name e.qual e.params e.bd e.scope .none kV doc pm an cdv ct) ⟨us, ks.zip ws⟩ = pure (e.ps.zip (pick (us ++ ws) [] [] src))) : BindP e n ks src := by
  intro L fd dvs kws E
  have h1 : dvs = [] := List.length_eq_zero_iff.mp (by rw [E.dl, hd]; rfl)
  have h2 : kws = [] := by
    have := E.kn
    rw [hk] at this
    simpa using this
  subst h1 h2
  obtain ⟨oc, od, dV, kV, doc, pm, an, cdv, ct, osl, rfl, lk, hcd, hD, hK⟩ := E.D.ex
  rcases hD with ⟨_, rfl⟩ | ⟨z, _⟩
  · exact ⟨[], [], ⟨fun s us ws X l1 l2 => .of_eq (h kV doc pm an cdv ct us ws l1 l2), fun r1 r2 => pick_rel (r1.append r2) .nil .nil src⟩⟩
  · exact absurd rfl z
theorem bind_1 (hd : e.dfl ≠ []) (hk : e.kwd = [])
    (h : ∀ (T : Addr) (kV doc pm : Value) (an : Option Addr) (cdv ct : Value) (us its ws : List Value), us.length = n → its.length = e.dfl.length → ws.length = ks.length →
      ∃ k, bindArgs (PySem.W.fnOf e.name e.qual e.params e.bd e.scope (.ref T) kV doc pm an cdv ct) ⟨us, ks.zip ws⟩ = seqItems? (.ref T) >>= k ∧ k (some its.toArray) = pure (e.ps.zip (pick (us ++ ws) its [] src))) : BindP e n ks src := by
  intro L fd dvs kws E
  have h2 : kws = [] := by
    have := E.kn
    rw [hk] at this
    simpa using this
  subst h2
  obtain ⟨oc, od, dV, kV, doc, pm, an, cdv, ct, osl, rfl, lk, hcd, hD, hK⟩ := E.D.ex
  rcases hD with ⟨z, _⟩ | ⟨_, T, o, its, m, rfl, lT, oT, rT⟩
  · exact absurd (List.length_eq_zero_iff.mp (by rw [← E.dl, z]; rfl)) hd
  · refine ⟨its, [], ⟨fun s us ws X l1 l2 => ?_, fun r1 r2 => pick_rel (r1.append r2) rT .nil src⟩⟩
    obtain ⟨k, e1, e2⟩ := h T kV doc pm an cdv ct us its ws l1 (by rw [← rT.length, E.dl]) l2
    refine BindsTo.of_looks fun M => ?_
    rw [e1]
    exact looks_items X lT oT (.of_pure e2)
/-- the keyword-only ones all lack -/
theorem bind_2 (hd : e.dfl ≠ []) (hk : e.kwd ≠ [])
    (h : ∀ (T D : Addr) (doc pm : Value) (an : Option Addr) (cdv ct : Value) (us its mv ws : List Value), us.length = n → its.length = e.dfl.length → mv.length = e.kwd.length → ws.length = ks.length →
      ∃ k, bindArgs (PySem.W.fnOf e.name e.qual e.params e.bd e.scope (.ref T) (.ref D) doc pm an cdv ct) ⟨us, ks.zip ws⟩ = seqItems? (.ref T) >>= k ∧ KwChain D ((e.kwd.map (·.1)).zip mv) (k (some its.toArray)) (e.ps.zip (pick (us ++ ws) its mv src))) : BindP e n ks src := by
  intro L fd dvs kws E
  obtain ⟨oc, od, dV, kV, doc, pm, an, cdv, ct, osl, rfl, lk, hcd, hD, hK⟩ := E.D.ex
  have hkl : kws.length = e.kwd.length := by
    have := congrArg List.length E.kn
    simpa using this
  rcases hD with ⟨z, _⟩ | ⟨_, T, o, its, m, rfl, lT, oT, rT⟩
  · exact absurd (List.length_eq_zero_iff.mp (by rw [← E.dl, z]; rfl)) hd
  · rcases hK with z | ⟨D, rfl, hq⟩
    · exact absurd (List.length_eq_zero_iff.mp (by rw [← hkl, z]; rfl)) hk
    · obtain ⟨mv, hl, rk, hks⟩ := kwd_vals (ms := kws) hq
      refine ⟨its, mv, ⟨fun s us ws X l1 l2 => ?_, fun r1 r2 => pick_rel (r1.append r2) rT rk src⟩⟩
      obtain ⟨k, e1, e2⟩ := h T D doc pm an cdv ct us its mv ws l1 (by rw [← rT.length, E.dl]) (hl.trans hkl) l2
      refine BindsTo.of_looks fun M => ?_
      rw [e1]
      rw [E.kn] at hks
      exact looks_items X lT oT (KwChain.looks X hks e2)
/-- none of the keyword-only ones lacks -/
theorem bind_3 (hd : e.dfl ≠ []) (hs : src.all (fun | .kd _ => false | _ => true) = true)
    (h : ∀ (T : Addr) (kV doc pm : Value) (an : Option Addr) (cdv ct : Value) (us its ws : List Value), us.length = n → its.length = e.dfl.length → ws.length = ks.length →
      ∃ k, bindArgs (PySem.W.fnOf e.name e.qual e.params e.bd e.scope (.ref T) kV doc pm an cdv ct) ⟨us, ks.zip ws⟩ = seqItems? (.ref T) >>= k ∧ k (some its.toArray) = pure (e.ps.zip (pick (us ++ ws) its [] src))) : BindP e n ks src := by
  intro L fd dvs kws E
  obtain ⟨oc, od, dV, kV, doc, pm, an, cdv, ct, osl, rfl, lk, hcd, hD, hK⟩ := E.D.ex
  have pk : ∀ {α : Type} (l its mv : List α), pick l its mv src = pick l its [] src := fun {α} l its mv => by
    clear h
    induction src with
    | nil => rfl
    | cons x r ih =>
      rw [List.all_cons] at hs
      obtain ⟨h1, h2⟩ := and_ hs
      cases x with
      | a i =>
        unfold pick
        rw [ih h2]
      | df i =>
        unfold pick
        rw [ih h2]
      | kd i => cases h1
  rcases hD with ⟨z, _⟩ | ⟨_, T, o, its, m, rfl, lT, oT, rT⟩
  · exact absurd (List.length_eq_zero_iff.mp (by rw [← E.dl, z]; rfl)) hd
  · refine ⟨its, [], ⟨fun s us ws X l1 l2 => ?_, fun r1 r2 => ?_⟩⟩
    · obtain ⟨k, e1, e2⟩ := h T kV doc pm an cdv ct us its ws l1 (by rw [← rT.length, E.dl]) l2
      refine BindsTo.of_looks fun M => ?_
      rw [e1]
      exact looks_items X lT oT (.of_pure e2)
    · rw [pk _ _ (kws.map (·.2))]
      exact pick_rel (r1.append r2) rT .nil src
/-- only keyword-only defaults, none lacks -/
theorem bind_5 (hd : e.dfl = []) (hs : src.all (fun | .kd _ => false | _ => true) = true)
    (h : ∀ (kV doc pm : Value) (an : Option Addr) (cdv ct : Value) (us ws : List Value), us.length = n → ws.length = ks.length → bindArgs (PySem.W.fnOf e.name e.qual e.params e.bd e.scope .none kV doc pm an cdv ct) ⟨us, ks.zip ws⟩ = pure (e.ps.zip (pick (us ++ ws) [] [] src))) : BindP e n ks src := by
  intro L fd dvs kws E
  obtain ⟨oc, od, dV, kV, doc, pm, an, cdv, ct, osl, rfl, lk, hcd, hD, hK⟩ := E.D.ex
  have h1 : dvs = [] := List.length_eq_zero_iff.mp (by rw [E.dl, hd]; rfl)
  subst h1
  have pk : ∀ {α : Type} (l its mv : List α), pick l its mv src = pick l its [] src := fun {α} l its mv => by
    clear h
    induction src with
    | nil => rfl
    | cons x r ih =>
      rw [List.all_cons] at hs
      obtain ⟨h1, h2⟩ := and_ hs
      cases x with
      | a i =>
        unfold pick
        rw [ih h2]
      | df i =>
        unfold pick
        rw [ih h2]
      | kd i => cases h1
  rcases hD with ⟨_, rfl⟩ | ⟨z, _⟩
  · refine ⟨[], [], ⟨fun s us ws X l1 l2 => .of_eq (h kV doc pm an cdv ct us ws l1 l2), fun r1 r2 => ?_⟩⟩
    rw [pk _ _ (kws.map (·.2))]
    exact pick_rel (r1.append r2) .nil .nil src
  · exact absurd rfl z
/-- only keyword-only defaults, all lack -/
theorem bind_4 (hd : e.dfl = []) (hk : e.kwd ≠ [])
    (h : ∀ (D : Addr) (doc pm : Value) (an : Option Addr) (cdv ct : Value) (us mv ws : List Value), us.length = n → mv.length = e.kwd.length → ws.length = ks.length →
      KwChain D ((e.kwd.map (·.1)).zip mv) (bindArgs (PySem.W.fnOf e.name e.qual e.params e.bd e.scope .none (.ref D) doc pm an cdv ct) ⟨us, ks.zip ws⟩) (e.ps.zip (pick (us ++ ws) [] mv src))) : BindP e n ks src := by
  intro L fd dvs kws E
  obtain ⟨oc, od, dV, kV, doc, pm, an, cdv, ct, osl, rfl, lk, hcd, hD, hK⟩ := E.D.ex
  have h1 : dvs = [] := List.length_eq_zero_iff.mp (by rw [E.dl, hd]; rfl)
  subst h1
  have hkl : kws.length = e.kwd.length := by
    have := congrArg List.length E.kn
    simpa using this
  rcases hD with ⟨_, rfl⟩ | ⟨z, _⟩
  · rcases hK with z | ⟨D, rfl, hq⟩
    · exact absurd (List.length_eq_zero_iff.mp (by rw [← hkl, z]; rfl)) hk
    · obtain ⟨mv, hl, rk, hks⟩ := kwd_vals (ms := kws) hq
      refine ⟨[], mv, ⟨fun s us ws X l1 l2 => ?_, fun r1 r2 => pick_rel (r1.append r2) .nil rk src⟩⟩
      refine BindsTo.of_looks fun M => ?_
      rw [E.kn] at hks
      exact KwChain.looks X hks (h D doc pm an cdv ct us mv ws l1 (hl.trans hkl) l2)
  · exact absurd rfl z
end
end MV

set_option maxRecDepth 100000
set_option maxHeartbeats 1000000
/-! VRx: what the head tells of exceptions and of the law's own try. -/
namespace MV
open PySem PySem.Spec PyProof.Rows L2
/-! ### an own exception class with its start -/
def oexB (K : PySem.W.Frag) (C : Addr) : Bool := (match K.lookup C with
  | some ⟨.type t, _, .cls cd, sl⟩ => decide (t = "type") && (match cd.mro, sl.toList with
    | .ref c2 :: bm, [_, _, _, _, some (.builtin n), _] => decide (c2 = C) && (decide (n = "ValueError.__new__") && (!cd.hasDel && (cd.hasDict && PySem.HandSPX.refsVE bm)))
    | _, _ => false)
  | _ => false) && (He.eqO (PySem.W.findIn K (.ref C) "__setattr__") (some (some (.builtin "object.__setattr__"))) && (decide (PySem.W.subIn K (.ref C) (.type "BaseException") = some true) && (decide (PySem.W.typeIn K (.ref C) = some (.type "type")) && PySem.W.keepIn K (.ref C))))
theorem oexB_ok {K : PySem.W.Frag} {C : Addr} (h : oexB K C = true) : OexC K C := by
  obtain ⟨h1, h⟩ := and_ h
  obtain ⟨h2, h⟩ := and_ h
  obtain ⟨h3, h⟩ := and_ h
  obtain ⟨h4, h5⟩ := and_ h
  refine ⟨?_, He.eqO_ok h2, of_decide_eq_true h3, of_decide_eq_true h4, h5⟩
  split at h1
  · rename_i t dd cd sl e
    obtain ⟨g1, q1⟩ := and_ h1
    clear h1
    have g1 := of_decide_eq_true g1
    subst g1
    split at q1
    · rename_i c2 bm k0 k1 k2 k3 n k5 em es
      obtain ⟨g2, q2⟩ := and_ q1
      obtain ⟨g3, q3⟩ := and_ q2
      obtain ⟨g4, q4⟩ := and_ q3
      obtain ⟨g5, g6⟩ := and_ q4
      clear q1 q2 q3 q4
      have g2 := of_decide_eq_true g2
      have g3 := of_decide_eq_true g3
      subst g2 g3
      obtain ⟨nm, bs, mro, ns, qn, hd, sn, sub, ab, col, del⟩ := cd
      dsimp only at em g4 g5
      have g4 : del = false := by simpa using g4
      subst em g4 g5
      have hsl : sl = #[k0, k1, k2, k3, some (.builtin "ValueError.__new__"), k5] := by
        obtain ⟨l⟩ := sl
        dsimp only at es
        rw [es]
      subst hsl
      exact ⟨nm, qn, ns, bs, bm, sn, sub, ab, col, dd, k0, k1, k2, k3, k5, e, g6⟩
    · cases q1
  · cases h1
structure XnE where
  cls : Str
  n : Nat
  e : FnE
/-- by the text -/
def XnE.ckB (T : Tx) (xc : Xc) (x : XnE) : Bool := decide (xc.n = x.n) && (Nat.ble x.n 100 && (decide (x.e.name = "__init__") && (decide (x.e.N = x.e.ps) && ((x.e.ps.length == x.n + 1) && (scB x.e.N x.e.ps x.e.scope && (x.e.dfl.isEmpty && (x.e.kwd.isEmpty && (!xc.fs.isEmpty && (Nat.ble xc.fs.length 100 && iniB T.toTb x.e.N x.e.scope xc.fs.reverse x.e.bd)))))))))
/-- by the head -/
def XnE.okB (T : Tx) (K : PySem.W.Frag) (xc : Xc) (x : XnE) : Bool := (He.Fa.glo x.cls).ok K && (oexB K (He.ga K x.cls) && (He.eqO (PySem.W.findIn K (.ref (He.ga K x.cls)) "__init__") (some (some (.ref (x.e.adr K)))) && (decide (PySem.W.typeIn K (.ref (x.e.adr K)) = some (.type "function")) && (x.e.okB (lkOf T K [] []) && xc.fs.all fun p => He.eqO (PySem.W.findIn K (.ref (He.ga K x.cls)) (nmOf T.nm p.1)) (some none)))))
def allX (f : Xc → XnE → Bool) : List Xc → List XnE → Bool
  | [], [] => true
  | a :: as, b :: bs => f a b && allX f as bs
  | _, _ => false
theorem allX_get {f : Xc → XnE → Bool} : ∀ {as : List Xc} {bs : List XnE}, allX f as bs = true → ∀ {j : Nat} {b : XnE}, bs[j]? = some b → ∃ a, as[j]? = some a ∧ f a b = true
  | [], [], _, j, b, e => by simp at e
  | a :: as, b :: bs, h, 0, c, e => by
    obtain ⟨h1, h2⟩ := and_ (show (f a b && allX f as bs) = true from h)
    simp at e
    subst e
    exact ⟨a, rfl, h1⟩
  | a :: as, b :: bs, h, j + 1, c, e => by
    obtain ⟨h1, h2⟩ := and_ (show (f a b && allX f as bs) = true from h)
    obtain ⟨a', e1, e2⟩ := allX_get h2 (j := j) (b := c) (by simpa using e)
    exact ⟨a', by simpa using e1, e2⟩
  | [], _ :: _, h, _, _, _ => by cases h
  | _ :: _, [], h, _, _, _ => by cases h
/-- the binding: one value for each parameter -/
def BindO (e : FnE) : Prop := ∀ (kV doc pm : Value) (an : Option Addr) (cdv ct : Value) (us : List Value), us.length = e.ps.length → bindArgs (PySem.W.fnOf e.name e.qual e.params e.bd e.scope .none kV doc pm an cdv ct) ⟨us, []⟩ = pure (e.ps.zip us)
theorem binds_o {L : Lk} {e : FnE} {fd : FuncData} {kws : List (Str × V)} (b : BindO e) (D : FunD L.K e.name e.qual e.params e.bd e.scope [] kws (e.adr L.K) fd) : L2.Binds L.K fd e.ps [] := by
  intro s us X hl
  rw [List.append_nil] at hl ⊢
  exact FunD.bindsA (ps := e.ps) D (fun kV doc pm an cdv ct us hl => b kV doc pm an cdv ct us hl) s us hl
theorem kws_nil {α : Type} {l : List (Str × α)} {e : List (Str × D)} (h : l.map (·.1) = e.map (·.1)) (he : e = []) : l = [] := by
  rw [he] at h
  simpa using h
theorem exF_of {T : Tx} {P : Prog} {K : PySem.W.Frag} {tb : List (Addr × Str)} {cl : List (Str × Addr)} {h : Heap} {mg : Str → Option Value} {x : XnE} {xc : Xc} {j : Nat} (X : K.In h) (G : h.Ns mainGlobals mg) (exn : T.xn[j]? = some (x.cls, x.n)) (exs : P.xs[j]? = some xc) (hob : x.e.ob K = x.e.val) (c : x.ckB T xc = true) (o : x.okB T K xc = true) (b : BindO x.e) : ExF T.toTb (lkOf T K tb cl) P K mg j x.cls x.n := by
  obtain ⟨c1, c⟩ := and_ c
  obtain ⟨c2, c⟩ := and_ c
  obtain ⟨c3, c⟩ := and_ c
  obtain ⟨c4, c⟩ := and_ c
  obtain ⟨c5, c⟩ := and_ c
  obtain ⟨c6, c⟩ := and_ c
  obtain ⟨c7, c⟩ := and_ c
  obtain ⟨c8, c⟩ := and_ c
  obtain ⟨c9, c⟩ := and_ c
  obtain ⟨c10, c11⟩ := and_ c
  obtain ⟨o1, o⟩ := and_ o
  obtain ⟨o2, o⟩ := and_ o
  obtain ⟨o3, o⟩ := and_ o
  obtain ⟨o4, o⟩ := and_ o
  obtain ⟨o5, o6⟩ := and_ o
  have exC : (lkOf T K tb cl).xc j = He.ga K x.cls := by
    show He.ga K (T.xn.getD j ("PoseError", 0)).1 = _
    rw [List.getD_eq_getElem?_getD, exn]
    rfl
  obtain ⟨fd, dvs, kws, _, E⟩ := FnE.ent (L := lkOf T K [] []) hob o5
  have E := E (lkOf T K tb cl) Sim.lk
  have d0 : dvs = [] := List.length_eq_zero_iff.mp (by rw [E.dl, List.isEmpty_iff.mp c7]; rfl)
  have k0 : kws = [] := kws_nil E.kn (List.isEmpty_iff.mp c8)
  subst d0 k0
  have D := E.D
  have c3 := of_decide_eq_true c3
  rw [c3] at D
  have c4 := of_decide_eq_true c4
  have S := scB_ok c6
  have bi := binds_o b E.D
  rw [← c4] at bi S
  refine ⟨?_, ?_, Nat.le_of_ble_eq_true c2, x.e.adr K, fd, x.e.qual, x.e.params, x.e.bd, x.e.scope, x.e.N, xc, exs, of_decide_eq_true c1, ?_, of_decide_eq_true o4, D, S, ?_, bi, ?_, Nat.le_of_ble_eq_true c10, c11, fun p hp => ?_⟩
  · rw [exC]
    exact He.glo_ok X G o1
  · rw [exC]
    exact oexB_ok o2
  · rw [exC]
    exact He.eqO_ok o3
  · rw [c4]
    exact beq_iff_eq.mp c5
  · intro z
    rw [z] at c9
    cases c9
  · rw [exC]
    exact He.eqO_ok (List.all_eq_true.mp o6 p hp)
/-! ### the law's own try -/
structure TrE where
  t : FnE
  f : FnE
  w : Option FnE := none
def TrE.ckB (T : Tx) (P : Prog) (r : TrE) : Bool := decide (r.t.name = "_law_try") && (decide (r.t.qual = "_law_try") && (decide (r.f.name = "_law_field") && (decide (r.f.qual = "_law_field") && (decide (r.t.N = (["_law_ask", "_law_e"] : List Str)) && (decide (r.t.ps = (["_law_ask"] : List Str)) && (decide (r.f.N = (["_law_e"] : List Str)) && (decide (r.f.ps = (["_law_e"] : List Str)) &&
  (scB ["_law_ask", "_law_e"] ["_law_ask"] r.t.scope && (scB ["_law_e"] ["_law_e"] r.f.scope && (decide (r.t.scope.names.lookup ("_law_ask" : Str) = some .local) && (decide (r.t.scope.names.lookup ("_law_e" : Str) = some .local) && (decide (r.t.scope.names.lookup ("_law_field" : Str) = some .globalImplicit) && (decide (r.t.scope.names.lookup ("PoseError" : Str) = some .globalImplicit) &&
  (decide (r.f.scope.names.lookup ("_law_e" : Str) = some .local) && (r.t.dfl.isEmpty && (r.t.kwd.isEmpty && (r.f.dfl.isEmpty && (r.f.kwd.isEmpty && (tryB r.t.bd && (ckRows "_law_e" fldRows fldLast r.f.bd && (decide (nmOf T.nm P.xt = "tag") && P.xf.all fun p => decide (nmOf T.nm p.2 = p.1))))))))))))))))))))))
def xcB (K : PySem.W.Frag) (x : Str) : Bool := decide (PySem.W.exmOne K (.ref (He.ga K x)) (.ref (He.ga K "PoseError")) = some true) && (xfB K (He.ga K x) && xNames.all fun f => He.eqO (PySem.W.findIn K (.ref (He.ga K x)) f) (some none))
def TrE.okB (T : Tx) (K : PySem.W.Frag) (r : TrE) : Bool := (He.Fa.glo "_law_try").ok K && ((He.Fa.glo "_law_field").ok K && ((He.Fa.glo "PoseError").ok K && (decide (r.t.adr K = He.ga K "_law_try") && (decide (r.f.adr K = He.ga K "_law_field") && (r.t.okB (lkOf T K [] []) && (r.f.okB (lkOf T K [] []) && (xcB K "PoseError" && T.xn.all fun p => xcB K p.1)))))))
theorem look_mem {f : Str} {n : Nat} : ∀ {l : List (Str × Nat)}, l.lookup f = some n → (f, n) ∈ l
  | [], h => by cases h
  | (g, k) :: r, h => by
    by_cases e : f = g
    · subst e
      simp [List.lookup] at h
      subst h
      exact List.mem_cons_self
    · have e2 : (f == g) = false := by simpa using e
      simp only [List.lookup, e2] at h
      exact List.mem_cons_of_mem _ (look_mem h)
theorem tryF_of {T : Tx} {P : Prog} {K : PySem.W.Frag} {tb : List (Addr × Str)} {cl : List (Str × Addr)} {h : Heap} {mg : Str → Option Value} {r : TrE} (X : K.In h) (G : h.Ns mainGlobals mg) (h1 : r.t.ob K = r.t.val) (h2 : r.f.ob K = r.f.val) (c : r.ckB T P = true) (o : r.okB T K = true) (b1 : BindO r.t) (b2 : BindO r.f) :
    ∃ (gt gf C0 : Addr) (fdt fdf : FuncData) (pst psf : Arguments) (bdt bdf : List Stmt) (sct scf : Scope), TryF (lkOf T K tb cl) P K mg gt gf C0 fdt fdf pst psf bdt bdf sct scf := by
  obtain ⟨c1, c⟩ := and_ c
  obtain ⟨c2, c⟩ := and_ c
  obtain ⟨c3, c⟩ := and_ c
  obtain ⟨c4, c⟩ := and_ c
  obtain ⟨c5, c⟩ := and_ c
  obtain ⟨c6, c⟩ := and_ c
  obtain ⟨c7, c⟩ := and_ c
  obtain ⟨c8, c⟩ := and_ c
  obtain ⟨c9, c⟩ := and_ c
  obtain ⟨c10, c⟩ := and_ c
  obtain ⟨c11, c⟩ := and_ c
  obtain ⟨c12, c⟩ := and_ c
  obtain ⟨c13, c⟩ := and_ c
  obtain ⟨c14, c⟩ := and_ c
  obtain ⟨c15, c⟩ := and_ c
  obtain ⟨c16, c⟩ := and_ c
  obtain ⟨c17, c⟩ := and_ c
  obtain ⟨c18, c⟩ := and_ c
  obtain ⟨c19, c⟩ := and_ c
  obtain ⟨c20, c⟩ := and_ c
  obtain ⟨c21, c⟩ := and_ c
  obtain ⟨c22, c23⟩ := and_ c
  obtain ⟨o1, o⟩ := and_ o
  obtain ⟨o2, o⟩ := and_ o
  obtain ⟨o3, o⟩ := and_ o
  obtain ⟨o4, o⟩ := and_ o
  obtain ⟨o5, o⟩ := and_ o
  obtain ⟨o6, o⟩ := and_ o
  obtain ⟨o7, o⟩ := and_ o
  obtain ⟨o8, o9⟩ := and_ o
  obtain ⟨fdt, dvs, kws, _, E⟩ := FnE.ent (L := lkOf T K [] []) h1 o6
  obtain ⟨fdf, dvs2, kws2, _, E2⟩ := FnE.ent (L := lkOf T K [] []) h2 o7
  have E := E (lkOf T K tb cl) Sim.lk
  have E2 := E2 (lkOf T K tb cl) Sim.lk
  have d0 : dvs = [] := List.length_eq_zero_iff.mp (by rw [E.dl, List.isEmpty_iff.mp c16]; rfl)
  have k0 : kws = [] := kws_nil E.kn (List.isEmpty_iff.mp c17)
  have d1 : dvs2 = [] := List.length_eq_zero_iff.mp (by rw [E2.dl, List.isEmpty_iff.mp c18]; rfl)
  have k1 : kws2 = [] := kws_nil E2.kn (List.isEmpty_iff.mp c19)
  subst d0 k0 d1 k1
  have D := E.D
  have D2 := E2.D
  have bi := binds_o b1 E.D
  have bi2 := binds_o b2 E2.D
  rw [of_decide_eq_true c6] at bi
  rw [of_decide_eq_true c8] at bi2
  rw [of_decide_eq_true c1, of_decide_eq_true c2, show (lkOf T K tb cl).K = K from rfl, of_decide_eq_true o4] at D
  rw [of_decide_eq_true c3, of_decide_eq_true c4, show (lkOf T K tb cl).K = K from rfl, of_decide_eq_true o5] at D2
  refine ⟨_, _, He.ga K "PoseError", fdt, fdf, _, _, _, _, _, _, { dt := D, df := D2, bt := bi, bf := bi2, st := scB_ok c9, sf := scB_ok c10, la := of_decide_eq_true c11, le := of_decide_eq_true c12, lg := of_decide_eq_true c13, lp := of_decide_eq_true c14, lv := of_decide_eq_true c15, mt := He.glo_ok X G o1, mf := He.glo_ok X G o2, mp := He.glo_ok X G o3, tx := c20, fx := c21, xc := fun j => ?_, xt := of_decide_eq_true c22, xf := fun f n e => of_decide_eq_true (List.all_eq_true.mp c23 _ (look_mem e)) }⟩
  have z : xcB K (T.xn.getD j ("PoseError", 0)).1 = true := by
    rw [List.getD_eq_getElem?_getD]
    cases e : T.xn[j]? with
    | none => exact o8
    | some p => exact List.all_eq_true.mp o9 p (List.mem_of_getElem? e)
  obtain ⟨z1, z⟩ := and_ z
  obtain ⟨z2, z3⟩ := and_ z
  exact ⟨of_decide_eq_true z1, xfB_ok z2, fun f hf => He.eqO_ok (List.all_eq_true.mp z3 f hf)⟩
def TrE.ckW (r : TrE) : Bool := match r.w with
  | none => true
  | some e => decide (e.name = "_law_word") && (decide (e.qual = "_law_word") && (decide (e.N = (["_law_ask"] : List Str)) && (decide (e.ps = (["_law_ask"] : List Str)) && (scB ["_law_ask"] ["_law_ask"] e.scope && (decide (e.scope.names.lookup ("_law_ask" : Str) = some .local) && (decide (e.scope.names.lookup ("_law_try" : Str) = some .globalImplicit) && (e.dfl.isEmpty && (e.kwd.isEmpty && wordB e.bd))))))))
def TrE.okW (T : Tx) (K : PySem.W.Frag) (r : TrE) : Bool := match r.w with
  | none => true
  | some e => (He.Fa.glo "_law_word").ok K && (decide (e.adr K = He.ga K "_law_word") && e.okB (lkOf T K [] []))
theorem wordF_of {T : Tx} {K : PySem.W.Frag} {tb : List (Addr × Str)} {cl : List (Str × Addr)} {h : Heap} {mg : Str → Option Value} {r : TrE} {e : FnE} (X : K.In h) (G : h.Ns mainGlobals mg) (ew : r.w = some e) (h1 : e.ob K = e.val) (c : r.ckW = true) (o : r.okW T K = true) (b : BindO e) :
    ∃ (gw : Addr) (fdw : FuncData) (psw : Arguments) (bdw : List Stmt) (scw : Scope), WordF K mg gw fdw psw bdw scw := by
  unfold TrE.ckW at c
  unfold TrE.okW at o
  rw [ew] at c o
  obtain ⟨c1, c⟩ := and_ c
  obtain ⟨c2, c⟩ := and_ c
  obtain ⟨c3, c⟩ := and_ c
  obtain ⟨c4, c⟩ := and_ c
  obtain ⟨c5, c⟩ := and_ c
  obtain ⟨c6, c⟩ := and_ c
  obtain ⟨c7, c⟩ := and_ c
  obtain ⟨c8, c⟩ := and_ c
  obtain ⟨c9, c10⟩ := and_ c
  obtain ⟨o1, o⟩ := and_ o
  obtain ⟨o2, o3⟩ := and_ o
  obtain ⟨fdw, dvs, kws, _, E⟩ := FnE.ent (L := lkOf T K [] []) h1 o3
  have E := E (lkOf T K tb cl) Sim.lk
  have d0 : dvs = [] := List.length_eq_zero_iff.mp (by rw [E.dl, List.isEmpty_iff.mp c8]; rfl)
  have k0 : kws = [] := kws_nil E.kn (List.isEmpty_iff.mp c9)
  subst d0 k0
  have D := E.D
  have bi := binds_o b E.D
  rw [of_decide_eq_true c4] at bi
  rw [of_decide_eq_true c1, of_decide_eq_true c2, show (lkOf T K tb cl).K = K from rfl, of_decide_eq_true o2] at D
  exact ⟨_, fdw, _, _, _, { dw := D, bw := bi, sw := scB_ok c5, la := of_decide_eq_true c6, lt := of_decide_eq_true c7, mw := He.glo_ok X G o1, wx := c10 }⟩
end MV

set_option maxRecDepth 100000
set_option maxHeartbeats 1000000
/-! VR: shapes, the head's hook, the end. -/
namespace MV
open PySem PySem.Spec PyProof.Rows L2
structure ShE where
  sk : SK
  nm : Str
  n : Nat
  ks : List Str
  fn : Nat
  src : List Src
def shift : Src → Src
  | .a i => .a (i + 1)
  | s => s
def ShE.sh (es : List FnE) (s : ShE) : Shape := ⟨s.fn, s.n + s.ks.length, match es[s.fn]? with
  | some e => s.src.map (toSel e)
  | none => []⟩
def propB (K : PySem.W.Frag) (C : Addr) (m : Str) (g : Addr) : Bool := (match PySem.W.findIn K (.ref C) m with
  | some (some (.ref p)) => He.eqO (PySem.W.specialIn K (.ref p) "__get__") (some (some (.builtin "property.__get__"))) && (decide (PySem.W.takesIn K (.ref p) = some true) && (match PySem.W.recIn K p "property" with
    | some (.ref a :: _) => decide (a = g)
    | _ => false))
  | _ => false)
theorem propB_ok {K : PySem.W.Frag} {C : Addr} {m : Str} {g : Addr} (h : propB K C m g = true) : ∃ p, PropOf K C m p g := by
  unfold propB at h
  split at h
  · rename_i p e
    obtain ⟨h1, h⟩ := and_ h
    obtain ⟨h2, h3⟩ := and_ h
    split at h3
    · rename_i a r e2
      have h3 := of_decide_eq_true h3
      subst h3
      exact ⟨p, e, He.eqO_ok h1, of_decide_eq_true h2, r, e2⟩
    · cases h3
  · cases h
/-- the def behind a class method -/
def cmA (K : PySem.W.Frag) (C : Addr) (m : Str) : Addr := match PySem.W.findIn K (.ref C) m with
  | some (some (.ref p)) => (match PySem.W.recIn K p "classmethod" with
    | some (.ref a :: _) => a
    | _ => 0)
  | _ => 0
def cmetB (K : PySem.W.Frag) (C : Addr) (m : Str) (g : Addr) : Bool := PySem.W.readsIn K C (.type "type") && (He.eqO (PySem.W.specialIn K (.ref C) "__getattribute__") (some (some (.builtin "type.__getattribute__"))) && (PySem.W.fnIn K g && (match PySem.W.findCls K (.ref C) (.type "type") m with
  | some (.get (.builtin b) (.ref p) .none (.ref C')) => decide (b = "classmethod.__get__") && (decide (C' = C) && (match PySem.W.recIn K p "classmethod" with
    | some (.ref a :: _) => decide (a = g)
    | _ => false))
  | _ => false)))
theorem cmetB_ok {K : PySem.W.Frag} {C : Addr} {m : Str} {g : Addr} (h : cmetB K C m g = true) : ∃ (mc : Value) (p : Addr), ClX.CRead K C mc ∧ ClX.CMet K C mc m p g := by
  obtain ⟨h1, h⟩ := and_ h
  obtain ⟨h2, h⟩ := and_ h
  obtain ⟨h3, h⟩ := and_ h
  split at h
  · rename_i b p C' e
    obtain ⟨e1, k⟩ := and_ h
    obtain ⟨e2, k2⟩ := and_ k
    clear h k
    have e1 := of_decide_eq_true e1
    have e2 := of_decide_eq_true e2
    subst e1 e2
    split at k2
    · rename_i a r e3
      have k3 := of_decide_eq_true k2
      subst k3
      exact ⟨_, p, ⟨h1, He.eqO_ok h2⟩, ⟨e, ⟨r, e3⟩, h3⟩⟩
    · cases k2
  · cases h
def isFnK : Kind → Bool
  | .fn _ => true
  | _ => false
def ShE.okB (T : Tx) (K : PySem.W.Frag) (es : List FnE) (s : ShE) : Bool := match es[s.fn]? with
  | none => false
  | some e => srcB e s.src && (match s.sk with
    | .glob => (He.Fa.glo s.nm).ok K && (match e.f.kind with
      | .fn _ => decide (e.adr K = He.ga K s.nm)
      | .ctor c _ => decide (T.cn[c]? = some s.nm) && ((He.Fa.mkr s.nm).ok K && decide (e.adr K = He.ma K (He.ga K s.nm) "__init__"))
      | .lam _ => false)
    | .meth c => (He.Fa.cls (T.cn.getD c "")).ok K && ((He.Fa.meth (T.cn.getD c "") s.nm).ok K && (isFnK e.f.kind && decide (e.adr K = He.ma K (He.ga K (T.cn.getD c "")) s.nm)))
    | .cmet c => cmetB K (He.ga K (T.cn.getD c "")) s.nm (e.adr K) && isFnK e.f.kind
    | .prop c => (He.Fa.cls (T.cn.getD c "")).ok K && (propB K (He.ga K (T.cn.getD c "")) s.nm (e.adr K) && (isFnK e.f.kind && (decide (e.ps.length = 1) && (match s.src with
      | [.a 0] => decide (s.n = 1) && s.ks.isEmpty
      | _ => false)))))
def ShE.bind (es : List FnE) (s : ShE) : Prop := match es[s.fn]? with
  | none => True
  | some e => (match e.f.kind with
    | .fn _ => BindP e s.n s.ks s.src
    | .ctor _ _ => BindP e (s.n + 1) s.ks (.a 0 :: s.src.map shift)
    | .lam _ => True)
def BindAll (es : List FnE) : List ShE → Prop
  | [] => True
  | s :: r => s.bind es ∧ BindAll es r
theorem bindAll_get {es : List FnE} : ∀ {l : List ShE}, BindAll es l → ∀ {i : Nat} {s : ShE}, l[i]? = some s → s.bind es
  | [], _, i, s, e => by simp at e
  | x :: r, h, 0, s, e => by
    simp at e
    subst e
    exact h.1
  | x :: r, h, i + 1, s, e => bindAll_get h.2 (by simpa using e)
def BindOs : List XnE → Prop
  | [] => True
  | x :: r => BindO x.e ∧ BindOs r
theorem bindOs_get : ∀ {l : List XnE}, BindOs l → ∀ {i : Nat} {x : XnE}, l[i]? = some x → BindO x.e
  | [], _, i, s, e => by simp at e
  | x :: r, h, 0, s, e => by
    simp at e
    subst e
    exact h.1
  | x :: r, h, i + 1, s, e => bindOs_get h.2 (by simpa using e)
def BindTr : Option TrE → Prop
  | none => True
  | some r => BindO r.t ∧ BindO r.f ∧ (∀ e, r.w = some e → BindO e)
/-- the text's lambdas -/
def lamK (P : Prog) (T : Tb) (N : List Str) : Nat → Scope → Expr → Bool := fun k sc bd => match P.fns[k]? with
  | some f => (match f.kind with
    | .lam caps => (caps.all fun i => T.lc.contains i) && ((f.nl == N.length) && ck T.off N (retOf f.body) sc bd)
    | _ => false)
  | none => false
/-- the text's tables fit -/
structure Fits (T : Tx) (P : Prog) (es : List FnE) (ss : List ShE) (xs : List XnE) (tr : Option TrE) (lw : FnE) : Prop where
  lk : lw.ckB T.toTb.on = true
  lN : lw.N = T.lN
  lS : T.lS = some lw.scope
  lname : lw.qual = "law"
  lam : T.lk = lamK P T.toTb T.lN
  lq : T.lq = false
  xn : T.xn = xs.map fun x => (x.cls, x.n)
  xk : allX (XnE.ckB T) P.xs xs = true
  xb : BindOs xs
  tq : T.tr = tr.isSome
  tk : tr.all (·.ckB T P) = true
  tw : T.tw = (tr.bind (·.w)).isSome
  twk : tr.all (·.ckW) = true
  tb : BindTr tr
  fns : ∃ ls, P.fns = es.map (·.f) ++ ls
  sh : P.sh = ss.map (·.sh es)
  sn : T.sn = ss.map fun s => (s.sk, s.nm, s.n, s.ks)
  ck : es.all (·.ckB T.toTb) = true
  bd : BindAll es ss
/-- what the head tells -/
structure Told (T : Tx) (P : Prog) (es : List FnE) (ss : List ShE) (xs : List XnE) (tr : Option TrE) (K : PySem.W.Frag) : Prop where
  xo : xs.map (fun x => x.e.ob K) = xs.map fun x => x.e.val
  xv : allX (XnE.okB T K) P.xs xs = true
  to : (tr.map fun r => (r.t.ob K, r.f.ob K, r.w.map fun e => e.ob K)) = tr.map fun r => (r.t.val, r.f.val, r.w.map FnE.val)
  tv : tr.all (·.okB T K) = true
  twv : tr.all (·.okW T K) = true
  st : statB T P K = true
  ob : (es.map fun e => e.ob K) = es.map FnE.val
  ok : es.all (·.okB (lkOf T K [] [])) = true
  sh : ss.all (·.okB T K es) = true
section
variable {T : Tx} {P : Prog} {es : List FnE} {ss : List ShE} {xs : List XnE} {tr : Option TrE} {lw : FnE} {K : PySem.W.Frag} {tb : List (Addr × Str)} {cl : List (Str × Addr)}
theorem Told.ent (t : Told T P es ss xs tr K) {i : Nat} {e : FnE} (h : es[i]? = some e) : ∃ fd dvs kws, (∃ oc od osl, K.lookup (e.adr K) = some ⟨oc, od, .func fd, osl⟩) ∧ ∀ L', Sim (lkOf T K [] []) L' → EntOk L' e fd dvs kws := by
  have e1 : (es.map fun e => e.ob K)[i]? = (es.map FnE.val)[i]? := by rw [t.ob]
  rw [List.getElem?_map, List.getElem?_map, h] at e1
  exact FnE.ent (L := lkOf T K [] []) (Option.some.inj e1) (List.all_eq_true.mp t.ok e (List.mem_of_getElem? h))
theorem fns_at (f : Fits T P es ss xs tr lw) {i : Nat} {e : FnE} (h : es[i]? = some e) : P.fns[i]? = some e.f := by
  obtain ⟨ls, q⟩ := f.fns
  have hi := (List.getElem?_eq_some_iff.mp h).1
  rw [q, List.getElem?_append_left (by rw [List.length_map]; exact hi), List.getElem?_map, h]
  rfl
theorem fact_of (f : Fits T P es ss xs tr lw) {i : Nat} {e : FnE} (h : es[i]? = some e) {fd : FuncData} {dvs : List V} {kws : List (Str × V)} (E : EntOk (lkOf T K tb cl) e fd dvs kws) : FnFact T.toTb P K i (e.adr K) fd e.ps := by
  obtain ⟨h1, h2⟩ := and_ (List.all_eq_true.mp f.ck e (List.mem_of_getElem? h))
  obtain ⟨h2, h3⟩ := and_ h2
  obtain ⟨h3, h4⟩ := and_ h3
  exact ⟨e.name, e.qual, e.params, e.bd, e.scope, dvs, kws, e.N, e.f, fns_at f h, E.D, scB_ok h1, beq_iff_eq.mp h2, beq_iff_eq.mp h3, h4⟩
theorem pick_shift {α : Type} (p : α) (l its mv : List α) : ∀ src : List Src, pick (p :: l) its mv (src.map shift) = pick l its mv src
  | [] => rfl
  | .a i :: r => by
    show (match (p :: l)[i + 1]? with
      | some x => x :: pick (p :: l) its mv (r.map shift)
      | none => pick (p :: l) its mv (r.map shift)) = _
    rw [pick_shift p l its mv r, List.getElem?_cons_succ]
    rfl
  | .df i :: r => by
    show (match its[i]? with
      | some x => x :: pick (p :: l) its mv (r.map shift)
      | none => pick (p :: l) its mv (r.map shift)) = _
    rw [pick_shift p l its mv r]
    rfl
  | .kd i :: r => by
    show (match mv[i]? with
      | some x => x :: pick (p :: l) its mv (r.map shift)
      | none => pick (p :: l) its mv (r.map shift)) = _
    rw [pick_shift p l its mv r]
    rfl
theorem fillOk_of {e : FnE} {s : ShE} (he : es[s.fn]? = some e) (hb : srcB e s.src = true) {fd : FuncData} {dvs : List V} {kws : List (Str × V)} (E : EntOk (lkOf T K tb cl) e fd dvs kws) : FillOk (lkOf T K tb cl) (s.sh es) s.n s.ks (fun vs zs => pick (vs ++ zs) dvs (kws.map (·.2)) s.src) := by
  intro F φ H ds vs zs qs l1 l2 r h
  unfold Shape.fill at h
  split at h
  · have h : selD ds (match es[s.fn]? with
      | some e => s.src.map (toSel e)
      | none => []) = some qs := h
    rw [he] at h
    exact fill_rel r (E.dr F φ H) (E.kr F φ H) hb h
  · cases h
theorem sh_at (f : Fits T P es ss xs tr lw) {j : Nat} {s : ShE} (h : ss[j]? = some s) : P.sh[j]? = some (s.sh es) := by
  rw [f.sh, List.getElem?_map, h]
  rfl
theorem sn_at (f : Fits T P es ss xs tr lw) {j : Nat} {x : SK × Str × Nat × List Str} (h : T.sn[j]? = some x) : ∃ s, ss[j]? = some s ∧ x = (s.sk, s.nm, s.n, s.ks) := by
  rw [f.sn, List.getElem?_map] at h
  cases e : ss[j]? with
  | none =>
    rw [e] at h
    cases h
  | some s =>
    rw [e] at h
    exact ⟨s, rfl, (Option.some.inj h).symm⟩
theorem links_of (f : Fits T P es ss xs tr lw) (t : Told T P es ss xs tr K) {h : Heap} {mg : Str → Option Value} (X : K.In h) (G : h.Ns mainGlobals mg) : Links T.toTb (lkOf T K tb cl) P K mg := by
  refine ⟨fun j g n ks e => ?_, fun j c m n ks e => ?_, fun j c m n ks e => ?_, fun j c m e => ?_⟩
  · obtain ⟨s, hs, e1⟩ := sn_at f e
    obtain ⟨a1, a2, a3, a4⟩ : SK.glob = s.sk ∧ g = s.nm ∧ n = s.n ∧ ks = s.ks := by
      injection e1 with a e1
      injection e1 with b e1
      injection e1 with c d
      exact ⟨a, b, c, d⟩
    subst a2 a3 a4
    have hb := List.all_eq_true.mp t.sh s (List.mem_of_getElem? hs)
    unfold ShE.okB at hb
    cases he : es[s.fn]? with
    | none =>
      rw [he] at hb
      cases hb
    | some en =>
      rw [he] at hb
      obtain ⟨hb1, hb2⟩ := and_ hb
      rw [← a1] at hb2
      obtain ⟨hb3, hb4⟩ := and_ hb2
      obtain ⟨fd, dvs, kws, _, E⟩ := t.ent he
      have E := E (lkOf T K tb cl) Sim.lk
      have hbd := bindAll_get f.bd hs
      unfold ShE.bind at hbd
      rw [he] at hbd
      dsimp only at hbd
      have hfn : P.fns[s.fn]? = some en.f := fns_at f he
      have fill := fillOk_of (T := T) (K := K) (tb := tb) (cl := cl) he hb1 E
      have ff := fact_of f he E
      cases hk : en.f.kind with
      | fn b =>
        rw [hk] at hb4 hbd
        have hb4 := of_decide_eq_true hb4
        obtain ⟨its, mv, kb⟩ := hbd _ fd dvs kws E
        refine ⟨He.ga K s.nm, He.glo_ok X G hb3, ?_, s.sh es, en.f, en.adr K, fd, en.ps, _, _, sh_at f hs, hfn, ff, .inl ⟨b, hk, hb4.symm, kb, fill⟩⟩
        rw [← hb4]
        exact E.D.kp
      | ctor c b =>
        rw [hk] at hb4 hbd
        obtain ⟨c1, c2⟩ := and_ hb4
        obtain ⟨c2, c3⟩ := and_ c2
        have c1 := of_decide_eq_true c1
        have c3 := of_decide_eq_true c3
        have mk := He.mkr_ok c2
        obtain ⟨its, mv, kb⟩ := hbd _ fd dvs kws E
        have ecl : (lkOf T K tb cl).cl c = He.ga K s.nm := by
          show He.ga K (T.cn.getD c "") = _
          rw [List.getD_eq_getElem?_getD, c1]
          rfl
        refine ⟨He.ga K s.nm, He.glo_ok X G hb3, mk.kp, s.sh es, en.f, en.adr K, fd, en.ps, _, _, sh_at f hs, hfn, ff, .inr ⟨c, b, fun vs zs => pick (vs ++ zs) dvs (kws.map (·.2)) s.src, hk, ecl, by rw [c3]; exact mk, kb, fun p vs zs => ?_, fill⟩⟩
        show (match ((V.ref p :: vs) ++ zs)[0]? with
          | some x => x :: pick ((V.ref p :: vs) ++ zs) dvs (kws.map (fun (z : Str × V) => z.2)) (s.src.map shift)
          | none => pick ((V.ref p :: vs) ++ zs) dvs (kws.map (fun (z : Str × V) => z.2)) (s.src.map shift)) = _
        rw [List.cons_append, List.getElem?_cons_zero]
        show V.ref p :: pick (V.ref p :: (vs ++ zs)) dvs (kws.map (fun (z : Str × V) => z.2)) (s.src.map shift) = _
        rw [pick_shift]
      | lam _ =>
        rw [hk] at hb4
        cases hb4
  · obtain ⟨s, hs, e1⟩ := sn_at f e
    obtain ⟨a1, a2, a3, a4⟩ : SK.meth c = s.sk ∧ m = s.nm ∧ n = s.n ∧ ks = s.ks := by
      injection e1 with a e1
      injection e1 with b e1
      injection e1 with c d
      exact ⟨a, b, c, d⟩
    subst a2 a3 a4
    have hb := List.all_eq_true.mp t.sh s (List.mem_of_getElem? hs)
    unfold ShE.okB at hb
    cases he : es[s.fn]? with
    | none =>
      rw [he] at hb
      cases hb
    | some en =>
      rw [he] at hb
      obtain ⟨hb1, hb2⟩ := and_ hb
      rw [← a1] at hb2
      obtain ⟨hb3, hb4⟩ := and_ hb2
      obtain ⟨hb4, hb5⟩ := and_ hb4
      obtain ⟨hb5, hb6⟩ := and_ hb5
      have hb6 := of_decide_eq_true hb6
      obtain ⟨fd, dvs, kws, _, E⟩ := t.ent he
      have E := E (lkOf T K tb cl) Sim.lk
      have hbd := bindAll_get f.bd hs
      unfold ShE.bind at hbd
      rw [he] at hbd
      dsimp only at hbd
      have hfn : P.fns[s.fn]? = some en.f := fns_at f he
      have fill := fillOk_of (T := T) (K := K) (tb := tb) (cl := cl) he hb1 E
      have ff := fact_of f he E
      cases hk : en.f.kind with
      | fn b =>
        rw [hk] at hbd
        obtain ⟨its, mv, kb⟩ := hbd _ fd dvs kws E
        exact ⟨He.cls_ok hb3, He.ma K (He.ga K (T.cn.getD c "")) s.nm, He.meth_ok hb4, s.sh es, en.f, en.adr K, fd, en.ps, _, _, sh_at f hs, hfn, ff, .inl ⟨b, hk, hb6.symm, kb, fill⟩⟩
      | ctor _ _ =>
        rw [hk] at hb5
        cases hb5
      | lam _ =>
        rw [hk] at hb5
        cases hb5
  · obtain ⟨s, hs, e1⟩ := sn_at f e
    obtain ⟨a1, a2, a3, a4⟩ : SK.cmet c = s.sk ∧ m = s.nm ∧ n = s.n ∧ ks = s.ks := by
      injection e1 with a e1
      injection e1 with b e1
      injection e1 with c d
      exact ⟨a, b, c, d⟩
    subst a2 a3 a4
    have hb := List.all_eq_true.mp t.sh s (List.mem_of_getElem? hs)
    unfold ShE.okB at hb
    cases he : es[s.fn]? with
    | none =>
      rw [he] at hb
      cases hb
    | some en =>
      rw [he] at hb
      obtain ⟨hb1, hb2⟩ := and_ hb
      rw [← a1] at hb2
      obtain ⟨hb3, hb5⟩ := and_ hb2
      obtain ⟨mc, p, r1, r2⟩ := cmetB_ok hb3
      obtain ⟨fd, dvs, kws, _, E⟩ := t.ent he
      have E := E (lkOf T K tb cl) Sim.lk
      have hbd := bindAll_get f.bd hs
      unfold ShE.bind at hbd
      rw [he] at hbd
      dsimp only at hbd
      have hfn : P.fns[s.fn]? = some en.f := fns_at f he
      have fill := fillOk_of (T := T) (K := K) (tb := tb) (cl := cl) he hb1 E
      have ff := fact_of f he E
      cases hk : en.f.kind with
      | fn b =>
        rw [hk] at hbd
        obtain ⟨its, mv, kb⟩ := hbd _ fd dvs kws E
        exact ⟨mc, p, en.adr K, r1, r2, s.sh es, en.f, fd, en.ps, _, _, b, sh_at f hs, hfn, ff, hk, kb, fill⟩
      | ctor _ _ =>
        rw [hk] at hb5
        cases hb5
      | lam _ =>
        rw [hk] at hb5
        cases hb5
  · obtain ⟨s, hs, e1⟩ := sn_at f e
    obtain ⟨a1, a2, a3, a4⟩ : SK.prop c = s.sk ∧ m = s.nm ∧ 1 = s.n ∧ [] = s.ks := by
      injection e1 with a e1
      injection e1 with b e1
      injection e1 with c d
      exact ⟨a, b, c, d⟩
    subst a2
    have hb := List.all_eq_true.mp t.sh s (List.mem_of_getElem? hs)
    unfold ShE.okB at hb
    cases he : es[s.fn]? with
    | none =>
      rw [he] at hb
      cases hb
    | some en =>
      rw [he] at hb
      obtain ⟨hb1, hb2⟩ := and_ hb
      rw [← a1] at hb2
      obtain ⟨hb3, hb4⟩ := and_ hb2
      obtain ⟨hb4, hb5⟩ := and_ hb4
      obtain ⟨hb5, hb6⟩ := and_ hb5
      obtain ⟨hb6, hb7⟩ := and_ hb6
      obtain ⟨fd, dvs, kws, _, E⟩ := t.ent he
      have E := E (lkOf T K tb cl) Sim.lk
      have hbd := bindAll_get f.bd hs
      unfold ShE.bind at hbd
      rw [he] at hbd
      dsimp only at hbd
      have hfn : P.fns[s.fn]? = some en.f := fns_at f he
      have ff := fact_of f he E
      obtain ⟨p, hp⟩ := propB_ok hb4
      cases hk : en.f.kind with
      | fn b =>
        rw [hk, ← a3, ← a4] at hbd
        obtain ⟨its, mv, kb⟩ := hbd _ fd dvs kws E
        split at hb7
        · rename_i hsrc
          rw [hsrc] at kb
          have hshn : (s.sh es).n = 1 := by
            show s.n + s.ks.length = 1
            rw [← a3, ← a4]
            rfl
          have hsel : (s.sh es).sel = [.a 0] := by
            show (match es[s.fn]? with
              | some e => s.src.map (toSel e)
              | none => []) = _
            rw [he, hsrc]
            rfl
          refine ⟨s.sh es, en.f, p, en.adr K, fd, en.ps, b, sh_at f hs, hfn, hk, ff, He.cls_ok hb3, hp, fun z us hz hl => ?_, hshn, hsel⟩
          have h1 := kb.to z us [] hz
          have hp1 := of_decide_eq_true hb6
          rw [List.append_nil] at hl ⊢
          rw [hp1] at hl
          match us, hl with
          | [u], _ => exact h1 rfl rfl
        · cases hb7
      | ctor _ _ =>
        rw [hk] at hb5
        cases hb5
      | lam _ =>
        rw [hk] at hb5
        cases hb5
/-- all that stands in the modules -/
theorem stat_of (f : Fits T P es ss xs tr lw) (t : Told T P es ss xs tr K) {pg : Program} {w : World} {base h : Heap} {mg : Str → Option Value} (X : K.In h) (G : h.Ns mainGlobals mg) : Stat T.toTb (lkOf T K tb cl) P pg w K mg base := by
  refine stat_ok X G t.st f.lq (fun j x n e => ?_) (fun htr => ?_) fun htw => ?_
  · rw [f.xn, List.getElem?_map] at e
    cases ex : xs[j]? with
    | none =>
      rw [ex] at e
      cases e
    | some y =>
      rw [ex] at e
      cases e
      obtain ⟨xc, e1, e2⟩ := allX_get f.xk ex
      obtain ⟨xc', e3, e4⟩ := allX_get t.xv ex
      rw [e1] at e3
      cases e3
      have eo : (xs.map fun x => x.e.ob K)[j]? = (xs.map fun x => x.e.val)[j]? := by rw [t.xo]
      rw [List.getElem?_map, List.getElem?_map, ex] at eo
      exact exF_of X G (by rw [f.xn, List.getElem?_map, ex]; rfl) e1 (Option.some.inj eo) e2 e4 (bindOs_get f.xb ex)
  · rw [f.tq] at htr
    cases tr with
    | none => cases htr
    | some r =>
      have z := Option.some.inj t.to
      have z1 : r.t.ob K = r.t.val := congrArg Prod.fst z
      have z2 : r.f.ob K = r.f.val := congrArg (fun z => z.2.1) z
      exact tryF_of X G z1 z2 (by simpa using f.tk) (by simpa using t.tv) f.tb.1 f.tb.2.1
  · rw [f.tw] at htw
    cases tr with
    | none => cases htw
    | some r =>
      cases ew : r.w with
      | none =>
        have htw : (r.w).isSome = true := htw
        rw [ew] at htw
        cases htw
      | some e =>
        have z := congrArg (fun z => z.2.2) (Option.some.inj t.to)
        have z : r.w.map (fun e => e.ob K) = r.w.map FnE.val := z
        rw [ew] at z
        exact wordF_of (tb := tb) (cl := cl) X G ew (Option.some.inj z) (by simpa using f.twk) (by simpa using t.twv) (f.tb.2.2 e ew)
end
end MV

set_option maxRecDepth 100000
set_option maxHeartbeats 1000000
/-! VS: the end. -/
namespace MV
open PySem PySem.Spec PyProof.Rows L2
/-! ### the Hook -/
/-- what an object names, as far as the end looks -/
def refsM (o : Obj) : List Addr := match o.data with
  | .seq its _ => its.toList.flatMap He.refV
  | .dict es _ => es.toList.flatMap fun e => He.refV e.val
  | .func fd => He.refV fd.code ++ (He.refV fd.defaults ++ He.refV fd.kwdefaults)
  | .cls cd => [cd.ns]
  | .fields vs => (match o.cls with
    | .type c => (match (decide (c = "property") || decide (c = "classmethod")) with
      | true => vs.toList.flatMap He.refV
      | false => [])
    | _ => [])
  | _ => []
def levM (g : Addr → Option Obj) : Nat → List Addr → List Addr
  | 0, as => as
  | n + 1, as => as ++ levM g n (as.flatMap fun a => match g a with
    | some o => refsM o
    | none => [])
def asM (g : Addr → Option Obj) (n : Nat) : List Addr := levM g n [mainGlobals] ++ [PySem.cStatics]
/-- the law's code object, its table -/
def emB : Option Obj → Bool
  | some ⟨.none, none, .fields vs, sl⟩ => vs.isEmpty && sl.isEmpty
  | _ => false
theorem emB_ok {o : Option Obj} (h : emB o = true) : o = some { cls := .none, data := .fields #[] } := by
  unfold emB at h
  split at h
  · rename_i vs sl
    obtain ⟨h1, h2⟩ := and_ h
    rw [Array.isEmpty_iff.mp h1, Array.isEmpty_iff.mp h2]
  · cases h
def c4B (v7 v9 v10 v18 : Value) : Bool := (match v7 with
  | .int _ _ => true
  | _ => false) && ((match v9 with
  | .bool _ => true
  | _ => false) && ((match v10 with
  | .int _ _ => true
  | _ => false) && (match v18 with
  | .str _ _ => true
  | _ => false)))
theorem c4B_ok {v7 v9 v10 v18 : Value} (h : c4B v7 v9 v10 v18 = true) : ∃ i t b j u x y, v7 = .int i t ∧ v9 = .bool b ∧ v10 = .int j u ∧ v18 = .str x y := by
  unfold c4B at h
  obtain ⟨h1, h⟩ := and_ h
  obtain ⟨h2, h⟩ := and_ h
  obtain ⟨h3, h4⟩ := and_ h
  cases v7 <;> first | (cases h1; done) | skip
  cases v9 <;> first | (cases h2; done) | skip
  cases v10 <;> first | (cases h3; done) | skip
  cases v18 <;> first | (cases h4; done) | skip
  exact ⟨_, _, _, _, _, _, _, rfl, rfl, rfl, rfl⟩
def codB (g : Addr → Option Obj) (K : PySem.W.Frag) : Bool := match K.lookup (He.ga K "law") with
  | some ⟨_, _, .func fd, _⟩ => (match fd.code with
    | .ref c => (match K.lookup c with
      | some ⟨.type t, _, .fields vs, _⟩ => decide (t = "code") && (match (vs[11]? : Option Value) with
        | some (.ref p) => emB (g p) && ((K.lookup p).isNone && (c4B (vs.getD 7 .none) (vs.getD 9 .none) (vs.getD 10 .none) (vs.getD 18 .none) && decide (c ≠ p)))
        | _ => false)
      | _ => false)
    | _ => false)
  | _ => false
def CodAt (K : PySem.W.Frag) (h : Heap) : Prop := ∃ (c p : Addr) (oc : Value) (od : Option Addr) (fd : FuncData) (osl : Array (Option Value)), K.lookup (He.ga K "law") = some ⟨oc, od, .func fd, osl⟩ ∧ fd.code = .ref c ∧ K.lookup p = none ∧ h.get? p = some { cls := .none, data := .fields #[] } ∧ PySem.W.CodeHd h c p
theorem codB_ok {K : PySem.W.Frag} {h : Heap} (X : K.In h) (b : codB h.get? K = true) : CodAt K h := by
  unfold codB at b
  split at b
  · rename_i oc od fd osl e1
    split at b
    · rename_i c e2
      split at b
      · rename_i t dd vs sl e3
        obtain ⟨b1, b2⟩ := and_ b
        clear b
        have b1 := of_decide_eq_true b1
        subst b1
        split at b2
        · rename_i p e4
          obtain ⟨b3, b⟩ := and_ b2
          obtain ⟨b4, b⟩ := and_ b
          obtain ⟨b5, b6⟩ := and_ b
          obtain ⟨i, tt, bb, j, u, x, y, f1, f2, f3, f4⟩ := c4B_ok b5
          have e5 : vs.getD 11 .none = .ref p := by
            rw [Array.getD_eq_getD_getElem?, e4]
            rfl
          exact ⟨c, p, oc, od, fd, osl, e1, e2, Option.isNone_iff_eq_none.mp b4, emB_ok b3, _, vs, x, y, i, tt, bb, j, u, X _ _ e3, rfl, rfl, e4, e5, f4, f1, f2, f3, of_decide_eq_true b6⟩
        · cases b2
      · cases b
    · cases b
  · cases b
theorem CodAt.keeps {K : PySem.W.Frag} {h h' : Heap} (x : CodAt K h) (k : ∀ b o, h.get? b = some o → h'.get? b = some o) : CodAt K h' := by
  obtain ⟨c, p, oc, od, fd, osl, e1, e2, e3, e4, e5⟩ := x
  exact ⟨c, p, oc, od, fd, osl, e1, e2, e3, k _ _ e4, e5.keeps k⟩
abbrev AlM : Type := Bool × (FnW × (List FnW × (List FnW × Option (FnW × (FnW × Option FnW)))))
/-- all of a text -/
structure Txt where
  T : Tx
  P : Prog
  es : List FnE
  ss : List ShE
  xs : List XnE
  tr : Option TrE
  lw : FnE
def obsM (t : Txt) (g : Addr → Option Obj) (K : PySem.W.Frag) : AlM :=
  (statB t.T t.P K && (t.es.all (·.okB (lkOf t.T K [] [])) && (t.ss.all (·.okB t.T K t.es) && (allX (XnE.okB t.T K) t.P.xs t.xs && (t.tr.all (·.okB t.T K) && (t.tr.all (·.okW t.T K) && (t.lw.okB (lkOf t.T K [] []) && ((He.Fa.glo "law").ok K && (!t.tr.isSome || codB g K)))))))),
    t.lw.ob K, t.es.map (fun e => e.ob K), t.xs.map (fun x => x.e.ob K), t.tr.map fun r => (r.t.ob K, r.f.ob K, r.w.map fun e => e.ob K))
def valM (t : Txt) : AlM := (true, t.lw.val, t.es.map FnE.val, t.xs.map (fun x => x.e.val), t.tr.map fun r => (r.t.val, r.f.val, r.w.map FnE.val))
def obsMG (n : Nat) (t : Txt) (g : Addr → Option Obj) : AlM := obsM t g (He.frG g (asM g n))
structure SaysM (t : Txt) (K : PySem.W.Frag) (h : Heap) : Prop where
  X : K.In h
  told : Told t.T t.P t.es t.ss t.xs t.tr K
  lo : t.lw.ob K = t.lw.val
  lk : t.lw.okB (lkOf t.T K [] []) = true
  gl : (He.Fa.glo "law").ok K = true
  cod : t.tr.isSome = true → CodAt K h
theorem says_of {t : Txt} {K : PySem.W.Frag} {h : Heap} (X : K.In h) (c : obsM t h.get? K = valM t) : SaysM t K h := by
  have c1 : _ = true := congrArg (fun z : AlM => z.1) c
  have c2 : t.lw.ob K = t.lw.val := congrArg (fun z : AlM => z.2.1) c
  have c3 : t.es.map (fun e => e.ob K) = t.es.map FnE.val := congrArg (fun z : AlM => z.2.2.1) c
  have c4 : t.xs.map (fun x => x.e.ob K) = t.xs.map (fun x => x.e.val) := congrArg (fun z : AlM => z.2.2.2.1) c
  have c5 : (t.tr.map fun r => (r.t.ob K, r.f.ob K, r.w.map fun e => e.ob K)) = t.tr.map fun r => (r.t.val, r.f.val, r.w.map FnE.val) := congrArg (fun z : AlM => z.2.2.2.2) c
  have c1 : (statB t.T t.P K && (t.es.all (·.okB (lkOf t.T K [] [])) && (t.ss.all (·.okB t.T K t.es) && (allX (XnE.okB t.T K) t.P.xs t.xs && (t.tr.all (·.okB t.T K) && (t.tr.all (·.okW t.T K) && (t.lw.okB (lkOf t.T K [] []) && ((He.Fa.glo "law").ok K && (!t.tr.isSome || codB h.get? K))))))))) = true := c1
  obtain ⟨a1, c1⟩ := and_ c1
  obtain ⟨a2, c1⟩ := and_ c1
  obtain ⟨a3, c1⟩ := and_ c1
  obtain ⟨a4, c1⟩ := and_ c1
  obtain ⟨a5, c1⟩ := and_ c1
  obtain ⟨a5w, c1⟩ := and_ c1
  obtain ⟨a6, c1⟩ := and_ c1
  obtain ⟨a7, a8⟩ := and_ c1
  exact ⟨X, ⟨c4, a4, c5, a5, a5w, a1, c3, a2, a3⟩, c2, a6, a7, fun z => codB_ok X (by rw [z] at a8; exact a8)⟩
def hookM (n : Nat) (t : Txt) : PySem.W.Hook where
  α := AlM
  obs := fun s => obsMG n t s.heap.get?
  val := fun _ => valM t
  says := fun _ h => ∃ K : PySem.W.Frag, SaysM t K h
  of := fun _ _ e => ⟨_, says_of He.frG_in e⟩
  keeps := fun _ _ _ ⟨K, c⟩ k => ⟨K, PySem.W.Frag.In.keeps c.X k, c.told, c.lo, c.lk, c.gl, fun z => (c.cod z).keeps k⟩
theorem obsMG_eq {n : Nat} {t : Txt} {g : Addr → Option Obj} {s : Shared} (h : ∀ a, g a = s.heap.get? a) : obsMG n t g = (hookM n t).obs s := by
  have e : g = s.heap.get? := funext h
  rw [e] <;> rfl
/-! ### the end of a law -/
theorem Rels.ofIntsB {L : Lk} {F : Fm} {φ : List Addr} {H : Hp} (ns : List Int) : Rels L F φ H (ns.map D.int) (ns.map V.int) := Rels.ofInts ns
/-- the law's def, its script lent -/
theorem law_sp {L : Lk} {P : Prog} {orc : Orc} {f : Fn} {H : Hp} {a : Addr} {ns : List Int} {h' : HH} (tb : LamX.Tabs L.tabs H) (hS : SqL L.K H a (ns.map V.int)) (e : body P orc f [.bor (ns.map D.int)] [] = .ok (.bl true) h') :
    spB L P orc f [.ref a] H (fun v _ => v = .bl true) (fun _ _ _ => False) := by
  have fin : ∀ F : Fm, GE L F [] H (body P orc f [.bor (ns.map D.int)] []) (fun v _ => v = .bl true) (fun _ _ _ => False) := fun F => by
    rw [e]
    intro φ' H' b _ _ r
    cases r
    rfl
  rcases hS with r | ⟨o, its, n, e1, e2, e3, e4, e5, e6⟩
  · refine ⟨⟨fun b => b = a, fun b => b = a⟩, [], [], _, ⟨rfl, .nil, fun n a o q => by simp at q, fun a m => by simp at m, fun b m => ?_, fun b m => m, tb⟩, .cons (.bor r (by simp) rfl (Rels.ofIntsB ns)) .nil, fin _⟩
    have m : b = a := m
    rw [m]
    rcases r with q | ⟨o, q⟩
    · exact ⟨_, q⟩
    · exact ⟨_, q⟩
  · exact ⟨⟨fun _ => False, fun _ => False⟩, [], [], _, ⟨rfl, .nil, fun n a o q => by simp at q, fun a m => by simp at m, fun b m => m.elim, fun b m => m, tb⟩, .cons (.borK e1 e2 e3 e4 e5 e6 (Rels.ofIntsB ns)) .nil, fin _⟩
/-- what is known of the law's promise, by the head -/
theorem law_F {t : Txt} {l : PySem.W.OpenLaw} {w : World} {K : PySem.W.Frag} {mg : Str → Option Value} {fa : Addr} {h : Heap} {x : Str} {m n : Nat}
    (fit : Fits t.T t.P t.es t.ss t.xs t.tr t.lw) (S : SaysM t K h) (G : h.Ns mainGlobals mg) (hmg : mg "law" = some (.ref fa)) (hadr : t.lw.adr K = He.ga K "law") (hd : t.lw.dfl = []) (hp : t.lw.ps = [x])
    (hb : ∀ (kV doc pm : Value) (an : Option Addr) (cdv ct : Value) (u : Value), bindArgs (PySem.W.fnOf t.lw.name t.lw.qual t.lw.params t.lw.bd t.lw.scope .none kV doc pm an cdv ct) ⟨[u], []⟩ = pure [(x, u)])
    (main : ∀ ns : List Int, ns.length ≤ n → ∃ h', body t.P (callN t.P m) t.lw.f [.bor (ns.map D.int)] [] = .ok (.bl true) h') :
    LamX.LawAtS l w K (L2.CX l.prog w) (3 * m + 4) n x mg fa h := by
  obtain ⟨fd, dvs, kws, ⟨oc, od, osl, hlk⟩, E⟩ := FnE.ent (L := lkOf t.T K [] []) S.lo S.lk
  have ea : He.ga K "law" = fa := by
    have z := (He.glo_ok S.X G S.gl).symm.trans hmg
    cases z
    rfl
  have hlk : K.lookup (t.lw.adr K) = some ⟨oc, od, .func fd, osl⟩ := hlk
  rw [hadr, ea] at hlk
  have E0 := E _ (Sim.lk (tb := []) (cl := []))
  have hdv : dvs = [] := List.length_eq_zero_iff.mp (by rw [E0.dl, hd]; rfl)
  subst hdv
  have D0 : FunD K t.lw.name t.lw.qual t.lw.params t.lw.bd t.lw.scope [] kws (t.lw.adr K) fd := E0.D
  have hbind : ∀ (s : Shared) (u : Value), BindsTo s fd ⟨[u], []⟩ [(x, u)] := fun s u => FunD.bindsA (ps := [x]) D0 (fun kV doc pm an cdv ct us hl => match us, hl with | [u], _ => hb kV doc pm an cdv ct u) s [u] rfl
  rw [hadr, ea] at D0
  obtain ⟨k1, k2⟩ := and_ fit.lk
  obtain ⟨k2, k3⟩ := and_ k2
  obtain ⟨k3, k4⟩ := and_ k3
  have FS := scB_ok k1
  -- the tables
  obtain ⟨cs, tb, hcs, hcode⟩ : ∃ (cs : List (Addr × Addr)) (tb : List (Addr × Str)), ((∀ p ∈ cs, h.get? p.2 = some { cls := .none, data := .fields #[] }) ∧ (∀ p ∈ cs, K.lookup p.2 = none) ∧ (∀ p ∈ cs, PySem.W.CodeHd h p.1 p.2) ∧ ∀ H : Hp, (∀ p ∈ cs, H p.2 = some (.tbl #[])) → LamX.Tabs tb H) ∧
      (t.T.tr = true → ∃ c p : Addr, fd.code = .ref c ∧ (c, p) ∈ cs ∧ tb = [(p, ("law.<locals>.<lambda>" : Str))]) := by
    cases htr : t.tr.isSome with
    | false => exact ⟨[], [], ⟨fun _ z => (nomatch z), fun _ z => (nomatch z), fun _ z => (nomatch z), fun _ _ _ z => (nomatch z)⟩, fun z => (by rw [fit.tq, htr] at z; cases z)⟩
    | true =>
      obtain ⟨c, p, oc', od', fd', osl', e1, e2, e3, e4, e5⟩ := S.cod htr
      rw [ea, hlk] at e1
      cases e1
      refine ⟨[(c, p)], [(p, ("law.<locals>.<lambda>" : Str))], ⟨fun q hq => ?_, fun q hq => ?_, fun q hq => ?_, fun H hH q hq => ?_⟩, fun _ => ⟨c, p, e2, List.mem_singleton.mpr rfl, rfl⟩⟩
      · rw [List.mem_singleton.mp hq]
        exact e4
      · rw [List.mem_singleton.mp hq]
        exact e3
      · rw [List.mem_singleton.mp hq]
        exact e5
      · rw [List.mem_singleton.mp hq]
        exact ⟨#[], hH (c, p) (List.mem_singleton.mpr rfl), trivial, fun pos cv z => (by cases z)⟩
  obtain ⟨c1, c2, c3, c4⟩ := hcs
  refine ⟨fd, cs, fun vs H Q E => ∀ cl, spB (lkOf t.T K tb cl) t.P (callN t.P m) t.lw.f vs H Q E, c1, c2, c3, hbind, fun H a ns hl _ hH hS cl => ?_, fun base hB hG hTB => ?_⟩
  · obtain ⟨h', e1⟩ := main ns hl
    exact law_sp (L := lkOf t.T K tb cl) (c4 H hH) hS e1
  · obtain ⟨oc', od', dV, kV, doc, pm, an, cdv, ct, osl', efd, lk', hcd, _, _⟩ := D0.ex
    subst efd
    refine (L2.fn_of (N := t.lw.N) (ps := t.lw.ps) (sp := fun vs H Q E => ∀ cl, spB (lkOf t.T K tb cl) t.P (callN t.P m) t.lw.f vs H Q E) lk' hcd FS (fun vs H Q E z => (spB_len (z [])).trans (beq_iff_eq.mp k2)) fun A outer s H vs Q E hr hsp => ?_ : FnOk _ _ _ _ _ _ _ _ _ t.lw.ps _) |> fun r => by
      rw [hp] at r
      exact r
    have fa0 := facts_all (pg := l.prog) (w := w) (base := base) (stat_of (tb := tb) (cl := cellsFrom (s.heap.objs.size + 1) t.lw.scope.names []) fit S.told S.X G) (links_of fit S.told S.X G) m
    refine body_sound (T := t.T.toTb.on) (L := lkOf t.T K tb (cellsFrom (s.heap.objs.size + 1) t.lw.scope.names [])) { fa := fa0.on, calm := rfl, nd := FS.nd, room := hr, tk := takes_of rfl rfl rfl rfl, lam := fun htr => ?_, fn := rfl, kind := FS.kind, own := passes_of rfl } FS (beq_iff_eq.mp k2) (beq_iff_eq.mp k3) k4 (hsp _)
    obtain ⟨c, p, q1, q2, q3⟩ := hcode htr
    have q1 : cdv = .ref c := q1
    subst q1 q3
    have eN : t.lw.N = t.T.lN := fit.lN
    refine { tr := htr, cells := rfl, q := ?_, code := ⟨c, p, rfl, hTB _ q2, List.mem_singleton.mpr rfl, fun q hq _ => by rw [List.mem_singleton.mp hq]; rfl⟩, lt := fun k ps bd sc pa u1 u2 u3 => ⟨t.lw.scope, pa, fit.lS, u1, eN ▸ u2, u3⟩, tl := fun k ps bd sc ⟨ls, pa, u0, u1, u2, u3⟩ => ?_, lk := fun k sc bd u => ?_, calm := rfl, nd := FS.nd }
    · show (t.lw.qual ++ ".<locals>.") ++ "<lambda>" = _
      rw [fit.lname]
      rfl
    · rw [fit.lS] at u0
      cases u0
      exact ⟨pa, u1, eN ▸ u2, u3⟩
    · have u : t.T.lk k sc bd = true := u
      rw [fit.lam] at u
      unfold lamK at u
      split at u
      · rename_i f ef
        split at u
        · rename_i caps ek
          obtain ⟨u1, u⟩ := and_ u
          obtain ⟨u2, u3⟩ := and_ u
          exact ⟨f, caps, ef, ek, fun i hi => (show i ∈ t.T.lc by simpa using List.all_eq_true.mp u1 i hi), by show f.nl = t.lw.N.length; rw [eN]; exact beq_iff_eq.mp u2, by show ck t.T.toTb.off t.lw.N _ _ _ = true; rw [eN]; exact u3⟩
        · cases u
      · cases u
end MV

set_option maxRecDepth 100000
set_option maxHeartbeats 1000000
/-! VT: more fuel gives no other answer. -/
namespace MV
open PySem (Str Operator)
def R.le {α : Type} (a b : R α) : Prop := a = .no ∨ a = b
def RS.le (a b : RS) : Prop := a = .no ∨ a = b
theorem R.le.rfl' {α : Type} (a : R α) : a.le a := .inr rfl
theorem RS.le.rfl' (a : RS) : a.le a := .inr rfl
theorem R.le.no {α : Type} (a : R α) : R.le .no a := .inl rfl
theorem bind_le {α β : Type} {r r' : R α} {f f' : α → HH → R β} (h : r.le r') (hf : ∀ a h, (f a h).le (f' a h)) : (r.bind f).le (r'.bind f') := by
  rcases h with h | h
  · subst h
    exact .inl rfl
  · subst h
    cases r with
    | ok a h => exact hf a h
    | exc _ _ _ _ => exact .inr rfl
    | no => exact .inl rfl
theorem pur_le {α : Type} {r r' : R α} (h : r.le r') : r.pur.le r'.pur := by
  rcases h with h | h
  · subst h
    exact .inl rfl
  · subst h
    exact .inr rfl
theorem st_le {α : Type} {r r' : R α} {ρ : Env} {f f' : α → HH → RS} (h : r.le r') (hf : ∀ a h, (f a h).le (f' a h)) : (r.st ρ f).le (r'.st ρ f') := by
  rcases h with h | h
  · subst h
    exact .inl rfl
  · subst h
    cases r with
    | ok a h => exact hf a h
    | exc _ _ _ _ => exact .inr rfl
    | no => exact .inl rfl
theorem compL_le {f f' : D → HH → R (Option D)} (hf : ∀ d h, (f d h).le (f' d h)) : ∀ (l : List D) (h : HH), (compL f l h).le (compL f' l h)
  | [], h => .inr rfl
  | x :: r, h => bind_le (hf x h) fun o h1 => bind_le (compL_le hf r h1) fun _ _ => .inr rfl
theorem compJ_le {f f' : D → HH → R (List D)} (hf : ∀ d h, (f d h).le (f' d h)) : ∀ (l : List D) (h : HH), (compJ f l h).le (compJ f' l h)
  | [], h => .inr rfl
  | x :: r, h => bind_le (hf x h) fun o h1 => bind_le (compJ_le hf r h1) fun _ _ => .inr rfl
theorem itL_le {r r' : R D} (h : r.le r') : (itL r).le (itL r') := bind_le h fun d h1 => .inr rfl
theorem compLive_le {f f' : D → HH → R (Option D)} (hf : ∀ d h, (f d h).le (f' d h)) (n : Nat) : ∀ (k i : Nat) (h : HH), (compLive f n k i h).le (compLive f' n k i h)
  | 0, i, h => .inr rfl
  | k + 1, i, h => by
    unfold compLive
    split
    · split
      · exact bind_le (hf _ _) fun o h1 => bind_le (compLive_le hf n k _ h1) fun _ _ => .inr rfl
      · exact .inr rfl
    · exact .inr rfl
theorem compI_le {f f' : D → HH → R (Option D)} (hf : ∀ d h, (f d h).le (f' d h)) (I : Itr) (h : HH) : (compI f I h).le (compI f' I h) := by
  cases I with
  | items l => exact compL_le hf l h
  | live n => exact compLive_le hf n _ _ h
def OrcLe (o o' : Orc) : Prop := ∀ k ds h, (o k ds h).le (o' k ds h)
theorem callJ_le {P : Prog} {o o' : Orc} (ho : OrcLe o o') (ad : Bool) (j : Nat) (ds : List D) (h : HH) : (callJ P o ad j ds h).le (callJ P o' ad j ds h) := by
  unfold callJ
  split
  · split
    · exact bind_le (ho _ _ _) fun _ _ => .inr rfl
    · exact .inr rfl
  · exact .inr rfl
structure Sm.le (a b : Sm) : Prop where
  ev : ∀ ρ h, (a.ev ρ h).le (b.ev ρ h)
  es : ∀ ρ h, (a.es ρ h).le (b.es ρ h)
  ts : ∀ ρ h, (a.ts ρ h).le (b.ts ρ h)
  tl : ∀ ρ h, (a.tl ρ h).le (b.tl ρ h)
  it : ∀ ρ h, (a.it ρ h).le (b.it ρ h)
  tg : ∀ d ρ h, (a.tg d ρ h).le (b.tg d ρ h)
  tgs : ∀ d ρ h, (a.tgs d ρ h).le (b.tgs d ρ h)
theorem eqsO_le {P : Prog} {o o' : Orc} (ho : OrcLe o o') {alts : List (Nat × Nat)} : ∀ {xs ys : List D} {h : HH}, eqsO P o alts xs ys h = true → eqsO P o' alts xs ys h = true
  | [], [], _, _ => rfl
  | [], _ :: _, _, z => (nomatch z)
  | _ :: _, [], _, z => (nomatch z)
  | x :: xs, y :: ys, h, z => by
    have z : ((match ownJ P alts (insOf x h) (insOf y h) with
      | some j => purJ P j && isT (callJ P o false j [x, y] h)
      | none => false) && eqsO P o alts xs ys h) = true := z
    show ((match ownJ P alts (insOf x h) (insOf y h) with
      | some j => purJ P j && isT (callJ P o' false j [x, y] h)
      | none => false) && eqsO P o' alts xs ys h) = true
    rw [Bool.and_eq_true] at z ⊢
    refine ⟨?_, eqsO_le ho z.2⟩
    cases e : ownJ P alts (insOf x h) (insOf y h) with
    | none =>
      rw [e] at z
      exact z.1
    | some j =>
      rw [e] at z
      have z1 := z.1
      dsimp only at z1 ⊢
      rw [Bool.and_eq_true] at z1 ⊢
      refine ⟨z1.1, ?_⟩
      rcases callJ_le (P := P) ho false j [x, y] h with q | q
      · rw [q] at z1
        exact nomatch z1.2
      · rw [← q]
        exact z1.2
theorem eqsT_le {P : Prog} {o o' : Orc} (ho : OrcLe o o') {alts : List (Nat × Nat)} {x y : D} {h : HH} (z : eqsT P o alts x y h = true) : eqsT P o' alts x y h = true := by
  unfold eqsT at z ⊢
  split at z
  · exact eqsO_le ho z
  · cases z

theorem of_le {f f' : Env → HH → R D} (hf : ∀ ρ h, (f ρ h).le (f' ρ h)) : (Sm.of f).le (Sm.of f') :=
  ⟨hf, fun _ _ => .inr rfl, fun ρ h => bind_le (hf ρ h) fun _ _ => .inr rfl, fun _ _ => .inr rfl, fun _ _ => .inr rfl, fun _ _ _ => .inr rfl, fun _ _ _ => .inr rfl⟩
theorem tw_le {f f' : Env → HH → R D} {g g' : Env → HH → R Bool} (hf : ∀ ρ h, (f ρ h).le (f' ρ h)) (hg : ∀ ρ h, (g ρ h).le (g' ρ h)) : (Sm.tw f g).le (Sm.tw f' g') :=
  ⟨hf, fun _ _ => .inr rfl, hg, fun _ _ => .inr rfl, fun _ _ => .inr rfl, fun _ _ _ => .inr rfl, fun _ _ _ => .inr rfl⟩
theorem li_le {f f' : Env → HH → R (List D)} {g g' : Env → HH → R Bool} {t t' : List D → Env → HH → R Env} (hf : ∀ ρ h, (f ρ h).le (f' ρ h)) (hg : ∀ ρ h, (g ρ h).le (g' ρ h)) (ht : ∀ d ρ h, (t d ρ h).le (t' d ρ h)) : (Sm.li f g t).le (Sm.li f' g' t') :=
  ⟨fun _ _ => .inr rfl, hf, fun _ _ => .inr rfl, hg, fun _ _ => .inr rfl, fun _ _ _ => .inr rfl, ht⟩
theorem itr_le {f f' : Env → HH → R Itr} (hf : ∀ ρ h, (f ρ h).le (f' ρ h)) : (Sm.itr f).le (Sm.itr f') :=
  ⟨fun _ _ => .inr rfl, fun _ _ => .inr rfl, fun _ _ => .inr rfl, fun _ _ => .inr rfl, hf, fun _ _ _ => .inr rfl, fun _ _ _ => .inr rfl⟩
theorem tar_le {f f' : D → Env → HH → R Env} (hf : ∀ d ρ h, (f d ρ h).le (f' d ρ h)) : (Sm.tar f).le (Sm.tar f') :=
  ⟨fun _ _ => .inr rfl, fun _ _ => .inr rfl, fun _ _ => .inr rfl, fun _ _ => .inr rfl, fun _ _ => .inr rfl, hf, fun _ _ _ => .inr rfl⟩
theorem tryV_le {P : Prog} {r r' : R Ret} (h : r.le r') : (tryV P r).le (tryV P r') := by
  rcases h with h | h
  · subst h
    exact .inl rfl
  · subst h
    exact .inr rfl
theorem tryW_le {P : Prog} {w : Bool} {r r' : R Ret} (h : r.le r') : (tryW P w r).le (tryW P w r') := by
  rcases h with h | h
  · subst h
    cases w <;> exact .inl rfl
  · subst h
    exact .inr rfl
theorem sem_le {P : Prog} {o o' : Orc} (ho : OrcLe o o') : ∀ e : E, (sem P o e).le (sem P o' e)
  | .v i => of_le fun _ _ => .inr rfl
  | .c d => of_le fun _ _ => .inr rfl
  | .g k => of_le fun _ _ => .inr rfl
  | .bin op m a b => of_le fun ρ h => bind_le ((sem_le ho a).ev ρ h) fun x h1 => bind_le ((sem_le ho b).ev ρ h1) fun _ _ => .inr rfl
  | .neg a => of_le fun ρ h => bind_le ((sem_le ho a).ev ρ h) fun x h1 => .inr rfl
  | .cmp op a b => tw_le (fun ρ h => bind_le ((sem_le ho a).ev ρ h) fun x h1 => bind_le ((sem_le ho b).ev ρ h1) fun _ _ => .inr rfl) fun ρ h => bind_le ((sem_le ho a).ev ρ h) fun x h1 => bind_le ((sem_le ho b).ev ρ h1) fun _ _ => .inr rfl
  | .chain q p a b d => tw_le (fun ρ h => bind_le ((sem_le ho a).ev ρ h) fun x h1 => bind_le ((sem_le ho b).ev ρ h1) fun y h2 => by
      split
      · exact bind_le ((sem_le ho d).ev ρ h2) fun _ _ => .inr rfl
      · exact .inr rfl
      · exact .inr rfl) fun ρ h => bind_le ((sem_le ho a).ev ρ h) fun x h1 => bind_le ((sem_le ho b).ev ρ h1) fun y h2 => by
      split
      · exact bind_le ((sem_le ho d).ev ρ h2) fun _ _ => .inr rfl
      · exact .inr rfl
      · exact .inr rfl
  | .band a b => tw_le (fun ρ h => bind_le ((sem_le ho a).ev ρ h) fun x h1 => by
      split
      · exact (sem_le ho b).ev ρ h1
      · exact .inr rfl
      · exact .inr rfl) fun ρ h => bind_le ((sem_le ho a).ts ρ h) fun x h1 => by
      split
      · exact (sem_le ho b).ts ρ h1
      · exact .inr rfl
  | .bor a b => tw_le (fun ρ h => bind_le ((sem_le ho a).ev ρ h) fun x h1 => by
      split
      · exact .inr rfl
      · exact (sem_le ho b).ev ρ h1
      · exact .inr rfl) fun ρ h => bind_le ((sem_le ho a).ts ρ h) fun x h1 => by
      split
      · exact .inr rfl
      · exact (sem_le ho b).ts ρ h1
  | .b1 a => tw_le (fun ρ h => (sem_le ho a).ev ρ h) fun ρ h => (sem_le ho a).ts ρ h
  | .bnot a => tw_le (fun ρ h => bind_le ((sem_le ho a).ev ρ h) fun x h1 => .inr rfl) fun ρ h => bind_le ((sem_le ho a).ts ρ h) fun x h1 => .inr rfl
  | .ife t a b => tw_le (fun ρ h => bind_le ((sem_le ho t).ts ρ h) fun k h1 => by
      split
      · exact (sem_le ho a).ev ρ h1
      · exact (sem_le ho b).ev ρ h1) fun _ _ => .inr rfl
  | .tup es => of_le fun ρ h => bind_le ((sem_le ho es).es ρ h) fun _ _ => .inr rfl
  | .lst m es => of_le fun ρ h => bind_le ((sem_le ho es).es ρ h) fun _ _ => .inr rfl
  | .dct => of_le fun ρ h => .inr rfl
  | .ix a i => of_le fun ρ h => bind_le ((sem_le ho a).ev ρ h) fun x h1 => bind_le ((sem_le ho i).ev ρ h1) fun _ _ => .inr rfl
  | .sl m a lo hi => of_le fun ρ h => bind_le ((sem_le ho a).ev ρ h) fun x h1 => bind_le ((sem_le ho lo).ev ρ h1) fun l h2 => by
      split
      · exact bind_le ((sem_le ho hi).ev ρ h2) fun _ _ => .inr rfl
      · exact .inr rfl
  | .rev m a => of_le fun ρ h => bind_le ((sem_le ho a).ev ρ h) fun x h1 => .inr rfl
  | .call ad j es => of_le fun ρ h => bind_le ((sem_le ho es).es ρ h) fun ds h1 => callJ_le ho ad j ds h1
  | .callk ad j es ks => of_le fun ρ h => bind_le ((sem_le ho es).es ρ h) fun ds h1 => bind_le ((sem_le ho ks).es ρ h1) fun es h2 => callJ_le ho ad j _ h2
  | .meth ad mi q alts es => of_le fun ρ h => bind_le ((sem_le ho q).ev ρ h) fun x h1 => by
      split
      · exact bind_le ((sem_le ho es).es ρ h1) fun ds h2 => callJ_le ho ad _ _ h2
      · exact .inr rfl
  | .methk ad mi q alts es ks => of_le fun ρ h => bind_le ((sem_le ho q).ev ρ h) fun x h1 => by
      split
      · exact bind_le ((sem_le ho es).es ρ h1) fun ds h2 => bind_le ((sem_le ho ks).es ρ h2) fun es h3 => callJ_le ho ad _ _ h3
      · exact .inr rfl
  | .kn c => of_le fun ρ h => .inr rfl
  | .cmeth ad mi q alts es ks => of_le fun ρ h => bind_le ((sem_le ho q).ev ρ h) fun x h1 => by
      split
      · exact bind_le ((sem_le ho es).es ρ h1) fun ds h2 => bind_le ((sem_le ho ks).es ρ h2) fun es h3 => callJ_le ho ad _ _ h3
      · exact .inr rfl
  | .ccall ad q alts es ks => of_le fun ρ h => bind_le ((sem_le ho q).ev ρ h) fun x h1 => by
      split
      · exact bind_le ((sem_le ho es).es ρ h1) fun ds h2 => bind_le ((sem_le ho ks).es ρ h2) fun es h3 => callJ_le ho ad _ _ h3
      · exact .inr rfl
  | .bino op a b alts => of_le fun ρ h => bind_le ((sem_le ho a).ev ρ h) fun x h1 => bind_le ((sem_le ho b).ev ρ h1) fun y h2 => by
      split
      · exact callJ_le ho false _ _ h2
      · exact .inr rfl
  | .cmpo ne a b alts => tw_le (fun ρ h => bind_le ((sem_le ho a).ev ρ h) fun x h1 => bind_le ((sem_le ho b).ev ρ h1) fun y h2 => by
      split
      · exact bind_le (callJ_le ho false _ _ h2) fun _ _ => .inr rfl
      · exact .inr rfl) fun ρ h => bind_le ((sem_le ho a).ev ρ h) fun x h1 => bind_le ((sem_le ho b).ev ρ h1) fun y h2 => by
      split
      · exact bind_le (callJ_le ho false _ _ h2) fun _ _ => .inr rfl
      · exact .inr rfl
  | .cmpt ne a b alts => tw_le (fun ρ h => bind_le ((sem_le ho a).ev ρ h) fun x h1 => bind_le ((sem_le ho b).ev ρ h1) fun y h2 => by
      cases q : eqsT P o alts x y h2 with
      | true => rw [eqsT_le ho q]; exact .inr rfl
      | false => exact .inl rfl) fun ρ h => bind_le ((sem_le ho a).ev ρ h) fun x h1 => bind_le ((sem_le ho b).ev ρ h1) fun y h2 => by
      cases q : eqsT P o alts x y h2 with
      | true => rw [eqsT_le ho q]; exact .inr rfl
      | false => exact .inl rfl
  | .lrg m a => of_le fun ρ h => bind_le ((sem_le ho a).ev ρ h) fun _ _ => .inr rfl
  | .att q k alts => of_le fun ρ h => bind_le ((sem_le ho q).ev ρ h) fun x h1 => by
      split
      · exact pur_le (callJ_le ho false _ _ h1)
      · exact .inr rfl
  | .blt m b es => of_le fun ρ h => bind_le ((sem_le ho es).es ρ h) fun _ _ => .inr rfl
  | .isi x ts => of_le fun ρ h => bind_le ((sem_le ho x).ev ρ h) fun _ _ => .inr rfl
  | .bm b q es => of_le fun ρ h => bind_le ((sem_le ho q).ev ρ h) fun x h1 => by
      split
      · exact bind_le ((sem_le ho es).es ρ h1) fun _ _ => .inr rfl
      · exact .inr rfl
  | .comp m own tg it ifs el => of_le fun ρ h => bind_le ((sem_le ho it).it ρ h) fun I h1 => bind_le (pur_le (compI_le (fun x h2 => bind_le ((sem_le ho tg).tg x _ h2) fun ρ2 h3 => bind_le ((sem_le ho ifs).tl ρ2 h3) fun k h4 => by
      split
      · exact bind_le ((sem_le ho el).ev ρ2 h4) fun _ _ => .inr rfl
      · exact .inr rfl) I h1)) fun _ _ => .inr rfl
  | .comp2 m own own2 tg it tg2 it2 el => of_le fun ρ h => bind_le (itL_le ((sem_le ho it).ev ρ h)) fun l h1 => bind_le (pur_le (compJ_le (fun x h2 => bind_le ((sem_le ho tg).tg x (wipeE ρ own) h2) fun ρ2 h3 => bind_le (itL_le ((sem_le ho it2).ev ρ2 h3)) fun l2 h4 => compL_le (fun y h5 => bind_le ((sem_le ho tg2).tg y (wipeE ρ2 own2) h5) fun ρ3 h6 => bind_le ((sem_le ho el).ev ρ3 h6) fun d h7 => .inr rfl) l2 h4) l h1)) fun l h2 => .inr rfl
  | .lamb k => of_le fun _ _ => .inr rfl
  | .ltry w a => of_le fun ρ h => bind_le ((sem_le ho a).ev ρ h) fun x h1 => by
      split
      · split
        · split
          · exact tryW_le (ho _ _ _)
          · exact .inr rfl
        · exact .inr rfl
      · exact .inr rfl
  | .nil => li_le (fun _ _ => .inr rfl) (fun _ _ => .inr rfl) fun _ _ _ => .inr rfl
  | .cons e es => li_le (fun ρ h => bind_le ((sem_le ho e).ev ρ h) fun d h1 => bind_le ((sem_le ho es).es ρ h1) fun _ _ => .inr rfl) (fun ρ h => (sem_le ho e).ts ρ h) fun ds ρ h => by
      split
      · exact bind_le ((sem_le ho e).tg _ ρ h) fun ρ1 h1 => (sem_le ho es).tgs _ ρ1 h1
      · exact .inr rfl
  | .star e es => li_le (fun ρ h => bind_le ((sem_le ho e).ev ρ h) fun d h1 => by
      split
      · exact bind_le ((sem_le ho es).es ρ h1) fun _ _ => .inr rfl
      · exact .inr rfl) (fun _ _ => .inr rfl) fun _ _ _ => .inr rfl
  | .i_e e => itr_le fun ρ h => bind_le ((sem_le ho e).ev ρ h) fun _ _ => .inr rfl
  | .i_r1 a => itr_le fun ρ h => bind_le ((sem_le ho a).ev ρ h) fun _ _ => .inr rfl
  | .i_r2 a b => itr_le fun ρ h => bind_le ((sem_le ho a).ev ρ h) fun x h1 => bind_le ((sem_le ho b).ev ρ h1) fun _ _ => .inr rfl
  | .i_en a => itr_le fun ρ h => bind_le ((sem_le ho a).ev ρ h) fun _ _ => .inr rfl
  | .i_zip a b => itr_le fun ρ h => bind_le ((sem_le ho a).ev ρ h) fun x h1 => bind_le ((sem_le ho b).ev ρ h1) fun _ _ => .inr rfl
  | .t_n i => tar_le fun _ _ _ => .inr rfl
  | .t_t ts => tar_le fun d ρ h => by
      split
      · exact (sem_le ho ts).tgs _ ρ h
      · exact .inr rfl
  | .t_x n ts => tar_le fun d ρ h => by
      split
      · exact (sem_le ho ts).tgs _ ρ h
      · exact .inr rfl
  | .t_s q i => tar_le fun d ρ h => bind_le ((sem_le ho q).ev ρ h) fun x h1 => bind_le ((sem_le ho i).ev ρ h1) fun _ _ => .inr rfl
  | .t_a q k => tar_le fun d ρ h => bind_le ((sem_le ho q).ev ρ h) fun _ _ => .inr rfl
theorem loopL_le {f f' : D → Env → HH → RS} (hf : ∀ d ρ h, (f d ρ h).le (f' d ρ h)) : ∀ (l : List D) (ρ : Env) (h : HH), (loopL f l ρ h).le (loopL f' l ρ h)
  | [], _, _ => .inr rfl
  | x :: r, ρ, h => by
    unfold loopL
    rcases hf x ρ h with e | e
    · rw [e]
      exact .inl rfl
    · rw [e]
      split
      · exact loopL_le hf r _ _
      · exact loopL_le hf r _ _
      · exact .inr rfl
      · exact .inr rfl
theorem loopLive_le {f f' : D → Env → HH → RS} (hf : ∀ d ρ h, (f d ρ h).le (f' d ρ h)) (n : Nat) : ∀ (k i : Nat) (ρ : Env) (h : HH), (loopLive f n k i ρ h).le (loopLive f' n k i ρ h)
  | 0, _, _, _ => .inr rfl
  | k + 1, i, ρ, h => by
    unfold loopLive
    split
    · split
      · rename_i x _
        rcases hf x ρ h with e | e
        · rw [e]
          exact .inl rfl
        · rw [e]
          split
          · exact loopLive_le hf n k _ _ _
          · exact loopLive_le hf n k _ _ _
          · exact .inr rfl
          · exact .inr rfl
      · exact .inr rfl
    · exact .inr rfl
theorem loopI_le {f f' : D → Env → HH → RS} (hf : ∀ d ρ h, (f d ρ h).le (f' d ρ h)) (I : Itr) (ρ : Env) (h : HH) : (loopI f I ρ h).le (loopI f' I ρ h) := by
  cases I with
  | items l => exact loopL_le hf l ρ h
  | live n => exact loopLive_le hf n _ _ ρ h
theorem whileL_le {c c' : Env → HH → R Bool} {f f' : Env → HH → RS} (hc : ∀ ρ h, (c ρ h).le (c' ρ h)) (hf : ∀ ρ h, (f ρ h).le (f' ρ h)) : ∀ (k : Nat) (ρ : Env) (h : HH), (whileL c f k ρ h).le (whileL c' f' k ρ h)
  | 0, _, _ => .inr rfl
  | k + 1, ρ, h => st_le (hc ρ h) fun b h1 => by
    cases b with
    | false => exact .inr rfl
    | true =>
      dsimp only
      rcases hf ρ h1 with e | e
      · rw [e]
        exact .inl rfl
      · rw [e]
        split
        · exact whileL_le hc hf k _ _
        · exact whileL_le hc hf k _ _
        · exact .inr rfl
        · exact .inr rfl
theorem run_le {P : Prog} {o o' : Orc} (ho : OrcLe o o') : ∀ (s : S) (ρ : Env) (h : HH), (run P o s ρ h).le (run P o' s ρ h)
  | .skip, _, _ => .inr rfl
  | .pass, _, _ => .inr rfl
  | .seq s t, ρ, h => by
    unfold run
    rcases run_le ho s ρ h with e | e
    · rw [e]
      exact .inl rfl
    · rw [e]
      split
      · exact run_le ho t _ _
      · exact .inr rfl
  | .ex e, ρ, h => st_le ((sem_le ho e).ev ρ h) fun _ _ => .inr rfl
  | .asg t e, ρ, h => st_le ((sem_le ho e).ev ρ h) fun d h1 => st_le (pur_le ((sem_le ho t).tg d ρ h1)) fun _ _ => .inr rfl
  | .par ns es, ρ, h => st_le ((sem_le ho es).es ρ h) fun _ _ => .inr rfl
  | .aug i op e, ρ, h => by
    unfold run
    split
    · exact st_le ((sem_le ho e).ev ρ h) fun _ _ => .inr rfl
    · exact .inr rfl
  | .ite c s t, ρ, h => st_le ((sem_le ho c).ts ρ h) fun k h1 => by
    cases k with
    | true => exact run_le ho s ρ h1
    | false => exact run_le ho t ρ h1
  | .loop t it b, ρ, h => st_le ((sem_le ho it).it ρ h) fun I h1 => loopI_le (fun x ρ1 h2 => st_le (pur_le ((sem_le ho t).tg x ρ1 h2)) fun ρ2 h3 => run_le ho b ρ2 h3) I ρ h1
  | .whil c b, ρ, h => whileL_le (fun ρ h => (sem_le ho c).ts ρ h) (fun ρ h => run_le ho b ρ h) fuel ρ h
  | .ret e, ρ, h => st_le ((sem_le ho e).ev ρ h) fun _ _ => .inr rfl
  | .retN, _, _ => .inr rfl
  | .brk, _, _ => .inr rfl
  | .cnt, _, _ => .inr rfl
  | .rais c es, ρ, h => st_le ((sem_le ho es).es ρ h) fun _ _ => .inr rfl
theorem body_le {P : Prog} {o o' : Orc} (ho : OrcLe o o') (f : Fn) (ds : List D) (h : HH) : (body P o f ds h).le (body P o' f ds h) := by
  unfold body
  split
  · rcases run_le ho f.body (startE f.nl ds) h with e | e
    · rw [e]
      exact .inl rfl
    · rw [e]
      exact .inr rfl
  · exact .inr rfl
theorem pureRun_le {P : Prog} {o o' : Orc} (ho : OrcLe o o') (f : Fn) (ds : List D) (h : HH) : (pureRun P o f ds h).le (pureRun P o' f ds h) := by
  unfold pureRun
  split
  · rename_i es _
    rcases body_le ho f es [] with e | e
    · rw [e]
      exact .inl rfl
    · rw [e]
      exact .inr rfl
  · exact .inr rfl
theorem makeRun_le {P : Prog} {o o' : Orc} (ho : OrcLe o o') (c : Nat) (f : Fn) (ds : List D) (h : HH) : (makeRun P o c f ds h).le (makeRun P o' c f ds h) := by
  unfold makeRun
  split
  · rename_i es _
    rcases body_le ho f (.ref 0 :: es) [.ins c [] []] with e | e
    · rw [e]
      exact .inl rfl
    · rw [e]
      exact .inr rfl
  · exact .inr rfl
theorem callN_le (P : Prog) : ∀ n : Nat, OrcLe (callN P n) (callN P (n + 1))
  | 0 => fun _ _ _ => .inl rfl
  | n + 1 => fun k ds h => by
    have ih := callN_le P n
    unfold callN
    split
    · exact .inr rfl
    · split
      · exact pureRun_le ih _ _ _
      · exact bind_le (body_le ih _ _ _) fun _ _ => .inr rfl
      · exact makeRun_le ih _ _ _ _
      · exact bind_le (body_le ih _ _ _) fun _ _ => .inr rfl
      · exact bind_le ((sem_le ih _).ev _ _) fun _ _ => .inr rfl
theorem callN_mono {P : Prog} {n m k : Nat} {ds : List D} {h : HH} {r : R Ret} (hn : n ≤ m) (e : callN P n k ds h = r) (hr : r ≠ .no) : callN P m k ds h = r := by
  induction hn with
  | refl => exact e
  | step _ ih =>
    rcases callN_le P _ k ds h with z | z
    · rw [ih] at z
      exact absurd z hr
    · rw [← z]
      exact ih
end MV

set_option maxRecDepth 100000
set_option maxHeartbeats 1000000
/-! VU: rules for reading runs by simp. -/
namespace MV
open PySem (Str Operator)
/-- by a truth value -/
abbrev Dp {α : Sort _} (_ : α) (β : Type) : Type := β
def R.bd {α β : Type} (r : R α) (f : α → HH → R β) : Dp f (R β) := R.bind r f
def R.su {α : Type} (r : R α) (ρ : Env) (f : α → HH → RS) : Dp f RS := R.st r ρ f
def cs {α : Type} (k : Bool) (a b : α) : Dp a (Dp b α) := match k with
  | true => a
  | false => b
@[simp, simp ↓] theorem cs_t {α : Type} {a b : α} : cs true a b = a := (rfl)
@[simp, simp ↓] theorem cs_f {α : Type} {a b : α} : cs false a b = b := (rfl)
/-- one after the other -/
def RS.sq (r : RS) (f : Env → HH → RS) : Dp f RS := match r with
  | .nx ρ h => f ρ h
  | z => z
/-- a turn, then the others -/
def RS.tn (r : RS) (f : Env → HH → RS) : Dp f RS := match r with
  | .nx ρ h => f ρ h
  | .ct ρ h => f ρ h
  | .bk ρ h => .nx ρ h
  | z => z
def oc {α β : Type} (x : Option α) (f : α → β) (b : β) : Dp f (Dp b β) := match x with
  | some a => f a
  | none => b
@[simp, simp ↓] theorem oc_s {α β : Type} {a : α} {f : α → β} {b : β} : oc (some a) f b = f a := (rfl)
@[simp, simp ↓] theorem oc_n {α β : Type} {f : α → β} {b : β} : oc none f b = b := (rfl)
theorem oc_eq {α β : Type} (x : Option α) (f : α → β) (b : β) : oc x f b = (match x with
    | some a => f a
    | none => b) := by cases x <;> rfl
/-- a slot's value -/
def eg : Env → Nat → Option D
  | x :: _, 0 => x
  | _ :: r, n + 1 => eg r n
  | [], _ => none
@[simp] theorem eg_0 {x : Option D} {r : Env} : eg (x :: r) 0 = x := (rfl)
@[simp] theorem eg_s {x : Option D} {r : Env} {n : Nat} : eg (x :: r) (n + 1) = eg r n := (rfl)
theorem eg_eq : ∀ (ρ : Env) (i : Nat), eg ρ i = match ρ[i]? with
    | some (some d) => some d
    | _ => none
  | [], i => by cases i <;> rfl
  | x :: r, 0 => by cases x <;> rfl
  | x :: r, n + 1 => by
    rw [eg_s, eg_eq r n, List.getElem?_cons_succ]
/-- by the list at an own place -/
def ol {β : Type} (x : Option O) (f : List D → β) (b : β) : Dp f (Dp b β) := match x with
  | some (.lst l) => f l
  | _ => b
@[simp, simp ↓] theorem ol_s {β : Type} {l : List D} {f : List D → β} {b : β} : ol (some (.lst l)) f b = f l := (rfl)
theorem ol_eq {β : Type} (x : Option O) (f : List D → β) (b : β) : ol x f b = (match x with
    | some (.lst l) => f l
    | _ => b) := by
  cases x with
  | none => rfl
  | some y => cases y <;> rfl
section
variable {α β : Type} {P : Prog} {o : Orc} {ρ : Env} {h : HH}
@[simp, simp ↓] theorem sq_nx {f : Env → HH → RS} : (RS.nx ρ h).sq f = f ρ h := (rfl)
@[simp, simp ↓] theorem sq_rt {d : D} {f : Env → HH → RS} : (RS.rt d h).sq f = .rt d h := (rfl)
@[simp, simp ↓] theorem sq_bk {f : Env → HH → RS} : (RS.bk ρ h).sq f = .bk ρ h := (rfl)
@[simp, simp ↓] theorem sq_ct {f : Env → HH → RS} : (RS.ct ρ h).sq f = .ct ρ h := (rfl)
@[simp, simp ↓] theorem sq_no {f : Env → HH → RS} : RS.no.sq f = .no := (rfl)
@[simp, simp ↓] theorem tn_nx {f : Env → HH → RS} : (RS.nx ρ h).tn f = f ρ h := (rfl)
@[simp, simp ↓] theorem tn_rt {d : D} {f : Env → HH → RS} : (RS.rt d h).tn f = .rt d h := (rfl)
@[simp, simp ↓] theorem tn_bk {f : Env → HH → RS} : (RS.bk ρ h).tn f = .nx ρ h := (rfl)
@[simp, simp ↓] theorem tn_ct {f : Env → HH → RS} : (RS.ct ρ h).tn f = f ρ h := (rfl)
@[simp, simp ↓] theorem tn_no {f : Env → HH → RS} : RS.no.tn f = .no := (rfl)
@[simp, simp ↓] theorem bind_ok' {a : α} {f : α → HH → R β} : (R.ok a h).bd f = f a h := (rfl)
@[simp, simp ↓] theorem bind_no' {f : α → HH → R β} : (R.no : R α).bd f = .no := (rfl)
@[simp, simp ↓] theorem bind_exc' {c : Nat} {ks : List Nat} {vs : List D} {f : α → HH → R β} : (R.exc c ks vs h : R α).bd f = .exc c ks vs h := (rfl)
@[simp, simp ↓] theorem st_ok' {a : α} {f : α → HH → RS} : (R.ok a h).su ρ f = f a h := (rfl)
@[simp, simp ↓] theorem st_no' {f : α → HH → RS} : (R.no : R α).su ρ f = .no := (rfl)
@[simp, simp ↓] theorem pur_ok' {a : α} : (R.ok a h).pur = .ok a h := (rfl)
@[simp, simp ↓] theorem pur_no' : (R.no : R α).pur = .no := (rfl)
@[simp, simp ↓] theorem of_some' {a : α} : R.of (some a) h = .ok a h := (rfl)
@[simp, simp ↓] theorem of_none' : R.of (none : Option α) h = .no := (rfl)
@[simp, simp ↓] theorem retD_val {ad : Bool} {d : D} : retD ad (.val d) h = .ok d h := (rfl)
@[simp, simp ↓] theorem retD_newt {l : List D} : retD true (.newl l) h = .ok (.ref h.length) (h ++ [.lst l]) := (rfl)
@[simp, simp ↓] theorem retD_newf {l : List D} : retD false (.newl l) h = .ok (.lst l) h := (rfl)
/-! statements -/
@[simp ↓] theorem r_skip : run P o .skip ρ h = .nx ρ h := (rfl)
@[simp ↓] theorem r_pass : run P o .pass ρ h = .nx ρ h := (rfl)
@[simp ↓] theorem r_seq {s t : S} : run P o (.seq s t) ρ h = (run P o s ρ h).sq fun ρ1 h1 => run P o t ρ1 h1 := (rfl)
@[simp ↓] theorem r_ex {e : E} : run P o (.ex e) ρ h = (ev P o e ρ h).su ρ fun _ h1 => .nx ρ h1 := (rfl)
@[simp ↓] theorem r_asg {t e : E} : run P o (.asg t e) ρ h = (ev P o e ρ h).su ρ fun d h1 => (asg P o t d ρ h1).pur.su ρ fun ρ1 h2 => .nx ρ1 h2 := (rfl)
@[simp ↓] theorem r_par {ns : List Nat} {es : E} : run P o (.par ns es) ρ h = (evs P o es ρ h).su ρ fun ds h1 => cs (ds.length == ns.length) (.nx (setAll ns ds ρ) h1) .no := (rfl)
@[simp ↓] theorem r_aug {i : Nat} {op : Operator} {e : E} : run P o (.aug i op e) ρ h = (match ρ[i]? with
    | some (some x) => (ev P o e ρ h).su ρ fun y h1 => (match x, y with
      | .int _, .int _ => (binD op false x y h1).su ρ fun z h2 => .nx (ρ.set i (some z)) h2
      | _, _ => .no)
    | _ => .no) := (rfl)
@[simp ↓] theorem r_ite {c : E} {s t : S} : run P o (.ite c s t) ρ h = (tst P o c ρ h).su ρ fun k h1 => cs k (run P o s ρ h1) (run P o t ρ h1) := (rfl)
/-- a loop's turn -/
def lf (P : Prog) (o : Orc) (t : E) (b : S) : D → Env → HH → RS := fun x ρ1 h2 => (asg P o t x ρ1 h2).pur.su ρ1 fun ρ2 h3 => run P o b ρ2 h3
@[simp ↓] theorem lf_ap {t : E} {b : S} {x : D} : lf P o t b x ρ h = (asg P o t x ρ h).pur.su ρ fun ρ2 h3 => run P o b ρ2 h3 := (rfl)
@[simp ↓] theorem r_loop {t it : E} {b : S} : run P o (.loop t it b) ρ h = (itm P o it ρ h).su ρ fun I h1 => loopI (lf P o t b) I ρ h1 := (rfl)
theorem r_whil {c : E} {b : S} : run P o (.whil c b) ρ h = whileL (tst P o c) (run P o b) fuel ρ h := (rfl)
@[simp ↓] theorem r_ret {e : E} : run P o (.ret e) ρ h = (ev P o e ρ h).su ρ fun d h1 => .rt d h1 := (rfl)
@[simp ↓] theorem r_retN : run P o .retN ρ h = .rt .non h := (rfl)
@[simp ↓] theorem r_brk : run P o .brk ρ h = .bk ρ h := (rfl)
@[simp ↓] theorem r_cnt : run P o .cnt ρ h = .ct ρ h := (rfl)
@[simp] theorem setAll_nil {ds : List D} : setAll [] ds ρ = ρ := (rfl)
@[simp] theorem setAll_cons {i : Nat} {is : List Nat} {d : D} {ds : List D} : setAll (i :: is) (d :: ds) ρ = setAll is ds (ρ.set i (some d)) := (rfl)
@[simp, simp ↓] theorem loopI_items {f : D → Env → HH → RS} {l : List D} : loopI f (.items l) ρ h = loopL f l ρ h := (rfl)
@[simp, simp ↓] theorem loopL_nil {f : D → Env → HH → RS} : loopL f [] ρ h = .nx ρ h := (rfl)
theorem loopL_cons {f : D → Env → HH → RS} {x : D} {r : List D} : loopL f (x :: r) ρ h = (f x ρ h).tn fun ρ1 h1 => loopL f r ρ1 h1 := (rfl)
@[simp, simp ↓] theorem compI_items {f : D → HH → R (Option D)} {l : List D} : compI f (.items l) h = compL f l h := (rfl)
@[simp, simp ↓] theorem compL_nil {f : D → HH → R (Option D)} : compL f [] h = .ok [] h := (rfl)
theorem compL_cons {f : D → HH → R (Option D)} {x : D} {r : List D} : compL f (x :: r) h = (f x h).bd fun o h1 => (compL f r h1).bd fun l h2 => .ok (oc o (· :: l) l) h2 := by
  rw [compL]
  congr; funext o h1; congr; funext l h2
  cases o <;> rfl
/-! expressions -/
@[simp ↓] theorem e_v {i : Nat} : ev P o (.v i) ρ h = R.of (eg ρ i) h := by
  show (match ρ[i]? with
    | some (some d) => R.ok d h
    | _ => .no) = _
  rw [eg_eq]
  cases ρ[i]? with
  | none => rfl
  | some x => cases x <;> rfl
@[simp ↓] theorem e_c {d : D} : ev P o (.c d) ρ h = .ok d h := (rfl)
@[simp ↓] theorem e_g {k : Nat} : ev P o (.g k) ρ h = R.of P.gl[k]? h := (rfl)
@[simp ↓] theorem e_bin {op : Operator} {m : Bool} {a b : E} : ev P o (.bin op m a b) ρ h = (ev P o a ρ h).bd fun x h1 => (ev P o b ρ h1).bd fun y h2 => binD op m x y h2 := (rfl)
@[simp ↓] theorem e_neg {a : E} : ev P o (.neg a) ρ h = (ev P o a ρ h).bd fun x h1 => match x with
    | .int i => .ok (.int (-i)) h1
    | _ => .no := (rfl)
@[simp ↓] theorem e_cmp {op : PySem.CmpOp} {a b : E} : ev P o (.cmp op a b) ρ h = (ev P o a ρ h).bd fun x h1 => (ev P o b ρ h1).bd fun y h2 => R.of ((cmpD op x y h2).map D.bl) h2 := (rfl)
@[simp ↓] theorem t_cmp {op : PySem.CmpOp} {a b : E} : tst P o (.cmp op a b) ρ h = (ev P o a ρ h).bd fun x h1 => (ev P o b ρ h1).bd fun y h2 => R.of (cmpD op x y h2) h2 := (rfl)
@[simp ↓] theorem e_chain {q p : PySem.CmpOp} {a b d : E} : ev P o (.chain q p a b d) ρ h = (ev P o a ρ h).bd fun x h1 => (ev P o b ρ h1).bd fun y h2 => oc (cmpD q x y h2) (fun k => cs k ((ev P o d ρ h2).bd fun z h3 => R.of ((cmpD p y z h3).map D.bl) h3) (.ok (.bl false) h2)) .no := by
  show ((ev P o a ρ h).bd fun x h1 => (ev P o b ρ h1).bd fun y h2 => match cmpD q x y h2 with
      | some true => (ev P o d ρ h2).bd fun z h3 => R.of ((cmpD p y z h3).map D.bl) h3
      | some false => .ok (.bl false) h2
      | none => .no) = _
  congr; funext x h1; congr; funext y h2
  cases cmpD q x y h2 with
  | none => rfl
  | some k => cases k <;> rfl
@[simp ↓] theorem t_chain {q p : PySem.CmpOp} {a b d : E} : tst P o (.chain q p a b d) ρ h = (ev P o a ρ h).bd fun x h1 => (ev P o b ρ h1).bd fun y h2 => oc (cmpD q x y h2) (fun k => cs k ((ev P o d ρ h2).bd fun z h3 => R.of (cmpD p y z h3) h3) (.ok false h2)) .no := by
  show ((ev P o a ρ h).bd fun x h1 => (ev P o b ρ h1).bd fun y h2 => match cmpD q x y h2 with
      | some true => (ev P o d ρ h2).bd fun z h3 => R.of (cmpD p y z h3) h3
      | some false => .ok false h2
      | none => .no) = _
  congr; funext x h1; congr; funext y h2
  cases cmpD q x y h2 with
  | none => rfl
  | some k => cases k <;> rfl
@[simp ↓] theorem e_band {a b : E} : ev P o (.band a b) ρ h = (ev P o a ρ h).bd fun x h1 => oc (truthD x h1) (fun k => cs k (ev P o b ρ h1) (.ok x h1)) .no := by
  show ((ev P o a ρ h).bd fun x h1 => match truthD x h1 with
      | some true => ev P o b ρ h1
      | some false => .ok x h1
      | none => .no) = _
  congr; funext x h1
  cases truthD x h1 with
  | none => rfl
  | some k => cases k <;> rfl
@[simp ↓] theorem t_band {a b : E} : tst P o (.band a b) ρ h = (tst P o a ρ h).bd fun k h1 => cs k (tst P o b ρ h1) (.ok false h1) := (rfl)
@[simp ↓] theorem e_bor {a b : E} : ev P o (.bor a b) ρ h = (ev P o a ρ h).bd fun x h1 => oc (truthD x h1) (fun k => cs k (.ok x h1) (ev P o b ρ h1)) .no := by
  show ((ev P o a ρ h).bd fun x h1 => match truthD x h1 with
      | some true => .ok x h1
      | some false => ev P o b ρ h1
      | none => .no) = _
  congr; funext x h1
  cases truthD x h1 with
  | none => rfl
  | some k => cases k <;> rfl
@[simp ↓] theorem t_bor {a b : E} : tst P o (.bor a b) ρ h = (tst P o a ρ h).bd fun k h1 => cs k (.ok true h1) (tst P o b ρ h1) := (rfl)
@[simp ↓] theorem e_b1 {a : E} : ev P o (.b1 a) ρ h = ev P o a ρ h := (rfl)
@[simp ↓] theorem t_b1 {a : E} : tst P o (.b1 a) ρ h = tst P o a ρ h := (rfl)
@[simp ↓] theorem e_bnot {a : E} : ev P o (.bnot a) ρ h = (ev P o a ρ h).bd fun x h1 => oc (truthD x h1) (fun b => .ok (.bl (!b)) h1) .no := by
  rw [q_bnot]
  congr; funext x h1
  cases truthD x h1 <;> rfl
@[simp ↓] theorem t_bnot {a : E} : tst P o (.bnot a) ρ h = (tst P o a ρ h).bd fun k h1 => .ok (!k) h1 := (rfl)
@[simp ↓] theorem e_ife {t a b : E} : ev P o (.ife t a b) ρ h = (tst P o t ρ h).bd fun k h1 => cs k (ev P o a ρ h1) (ev P o b ρ h1) := (rfl)
@[simp ↓] theorem e_tup {es : E} : ev P o (.tup es) ρ h = (evs P o es ρ h).bd fun ds h1 => mkT ds h1 := (rfl)
@[simp ↓] theorem e_lst {m : Bool} {es : E} : ev P o (.lst m es) ρ h = (evs P o es ρ h).bd fun ds h1 => mkL m ds h1 := (rfl)
@[simp ↓] theorem e_dct : ev P o (.dct) ρ h = .ok (.ref h.length) (h ++ [.dct [] []]) := (rfl)
@[simp ↓] theorem e_ix {a i : E} : ev P o (.ix a i) ρ h = (ev P o a ρ h).bd fun x h1 => (ev P o i ρ h1).bd fun y h2 => R.of (itemD P.wd x y h2) h2 := (rfl)
@[simp ↓] theorem e_sl {m : Bool} {a lo hi : E} : ev P o (.sl m a lo hi) ρ h = (ev P o a ρ h).bd fun x h1 => (ev P o lo ρ h1).bd fun l h2 => oc (partD lo.isNil l) (fun l => (ev P o hi ρ h2).bd fun u h3 => oc (partD hi.isNil u) (fun u => sliceD m x l u h3) .no) .no := by
  rw [q_sl]
  congr; funext x h1; congr; funext l h2
  cases partD lo.isNil l with
  | none => rfl
  | some l =>
    show R.bind _ _ = R.bind _ _
    congr; funext u h3
    cases partD hi.isNil u <;> rfl
@[simp ↓] theorem e_nil : ev P o .nil ρ h = .ok .non h := (rfl)
@[simp ↓] theorem e_rev {m : Bool} {a : E} : ev P o (.rev m a) ρ h = (ev P o a ρ h).bd fun x h1 => revD m x h1 := (rfl)
@[simp] theorem rev_t {m : Bool} {l : List D} : revD m (.tup l) h = .ok (.tup l.reverse) h := (rfl)
@[simp] theorem rev_w {m : Bool} {l : List D} : revD m (.wtup l) h = .ok (.tup l.reverse) h := (rfl)
@[simp] theorem rev_l {m : Bool} {l : List D} : revD m (.lst l) h = mkL m l.reverse h := (rfl)
@[simp] theorem rev_b {m : Bool} {l : List D} : revD m (.bor l) h = mkL m l.reverse h := (rfl)
@[simp ↓] theorem e_call {ad : Bool} {j : Nat} {es : E} : ev P o (.call ad j es) ρ h = (evs P o es ρ h).bd fun ds h1 => callJ P o ad j ds h1 := (rfl)
@[simp ↓] theorem e_callk {ad : Bool} {j : Nat} {es ks : E} : ev P o (.callk ad j es ks) ρ h = (evs P o es ρ h).bd fun ds h1 => (evs P o ks ρ h1).bd fun es h2 => callJ P o ad j (ds ++ es) h2 := (rfl)
@[simp ↓] theorem e_meth {ad : Bool} {mi : Nat} {q es : E} {alts : List (Nat × Nat)} : ev P o (.meth ad mi q alts es) ρ h = (ev P o q ρ h).bd fun x h1 => oc (methJ alts mi (insOf x h1)) (fun j => (evs P o es ρ h1).bd fun ds h2 => callJ P o ad j (x :: ds) h2) .no := by
  rw [q_meth]
  congr; funext x h1
  cases methJ alts mi (insOf x h1) <;> rfl
@[simp ↓] theorem e_methk {ad : Bool} {mi : Nat} {q es ks : E} {alts : List (Nat × Nat)} : ev P o (.methk ad mi q alts es ks) ρ h = (ev P o q ρ h).bd fun x h1 => oc (methJ alts mi (insOf x h1)) (fun j => (evs P o es ρ h1).bd fun ds h2 => (evs P o ks ρ h2).bd fun es h3 => callJ P o ad j ([x] ++ (ds ++ es)) h3) .no := by
  rw [q_methk]
  congr; funext x h1
  cases methJ alts mi (insOf x h1) <;> rfl
@[simp ↓] theorem e_kn {c : Nat} : ev P o (.kn c) ρ h = .ok (.cls c) h := (rfl)
@[simp ↓] theorem e_cmeth {ad : Bool} {mi : Nat} {q es ks : E} {alts : List (Nat × Nat)} : ev P o (.cmeth ad mi q alts es ks) ρ h = (ev P o q ρ h).bd fun x h1 => oc (clsJ alts x) (fun j => (evs P o es ρ h1).bd fun ds h2 => (evs P o ks ρ h2).bd fun es h3 => callJ P o ad j ([x] ++ (ds ++ es)) h3) .no := by
  rw [q_cmeth]
  congr; funext x h1
  cases clsJ alts x <;> rfl
@[simp ↓] theorem e_ccall {ad : Bool} {q es ks : E} {alts : List (Nat × Nat)} : ev P o (.ccall ad q alts es ks) ρ h = (ev P o q ρ h).bd fun x h1 => oc (clsJ alts x) (fun j => (evs P o es ρ h1).bd fun ds h2 => (evs P o ks ρ h2).bd fun es h3 => callJ P o ad j (ds ++ es) h3) .no := by
  rw [q_ccall]
  congr; funext x h1
  cases clsJ alts x <;> rfl
@[simp] theorem clsJ_c {alts : List (Nat × Nat)} {c : Nat} : clsJ alts (.cls c) = getT alts c := (rfl)
@[simp ↓] theorem e_bino {op : Operator} {a b : E} {alts : List (Nat × Nat)} : ev P o (.bino op a b alts) ρ h = (ev P o a ρ h).bd fun x h1 => (ev P o b ρ h1).bd fun y h2 => oc (ownJ P alts (insOf x h2) (insOf y h2)) (fun j => callJ P o false j [x, y] h2) .no := by
  rw [q_bino]
  congr; funext x h1; congr; funext y h2
  cases ownJ P alts (insOf x h2) (insOf y h2) <;> rfl
@[simp ↓] theorem e_cmpo {ne : Bool} {a b : E} {alts : List (Nat × Nat)} : ev P o (.cmpo ne a b alts) ρ h = (ev P o a ρ h).bd fun x h1 => (ev P o b ρ h1).bd fun y h2 => oc (ownJ P alts (insOf x h2) (insOf y h2)) (fun j => (callJ P o false j [x, y] h2).bd fun d h3 => (eqR ne d h3).bd fun k h4 => .ok (.bl k) h4) .no := by
  rw [q_cmpo]
  congr; funext x h1; congr; funext y h2
  cases ownJ P alts (insOf x h2) (insOf y h2) <;> rfl
@[simp ↓] theorem t_cmpo {ne : Bool} {a b : E} {alts : List (Nat × Nat)} : tst P o (.cmpo ne a b alts) ρ h = (ev P o a ρ h).bd fun x h1 => (ev P o b ρ h1).bd fun y h2 => oc (ownJ P alts (insOf x h2) (insOf y h2)) (fun j => (callJ P o false j [x, y] h2).bd fun d h3 => eqR ne d h3) .no := by
  rw [t_cmpoQ]
  congr; funext x h1; congr; funext y h2
  cases ownJ P alts (insOf x h2) (insOf y h2) <;> rfl
@[simp ↓] theorem e_cmpt {ne : Bool} {a b : E} {alts : List (Nat × Nat)} : ev P o (.cmpt ne a b alts) ρ h = (ev P o a ρ h).bd fun x h1 => (ev P o b ρ h1).bd fun y h2 => cs (eqsT P o alts x y h2) (.ok (.bl (!ne)) h2) .no := by
  rw [q_cmpt]
  rfl
@[simp ↓] theorem t_cmpt {ne : Bool} {a b : E} {alts : List (Nat × Nat)} : tst P o (.cmpt ne a b alts) ρ h = (ev P o a ρ h).bd fun x h1 => (ev P o b ρ h1).bd fun y h2 => cs (eqsT P o alts x y h2) (.ok (!ne) h2) .no := by
  rw [t_cmptQ]
  rfl
@[simp] theorem eqsT_t {alts : List (Nat × Nat)} {l k : List D} : eqsT P o alts (.tup l) (.tup k) h = eqsO P o alts l k h := (rfl)
@[simp] theorem eqsO_nil {alts : List (Nat × Nat)} : eqsO P o alts [] [] h = true := (rfl)
@[simp] theorem eqsO_cons {alts : List (Nat × Nat)} {x y : D} {xs ys : List D} : eqsO P o alts (x :: xs) (y :: ys) h = (oc (ownJ P alts (insOf x h) (insOf y h)) (fun j => purJ P j && isT (callJ P o false j [x, y] h)) false && eqsO P o alts xs ys h) := by
  show ((match ownJ P alts (insOf x h) (insOf y h) with
    | some j => purJ P j && isT (callJ P o false j [x, y] h)
    | none => false) && eqsO P o alts xs ys h) = _
  cases ownJ P alts (insOf x h) (insOf y h) <;> rfl
@[simp] theorem isT_ok {k : Bool} : isT (.ok (.bl k) h) = k := by cases k <;> rfl
def lrgD (m : Bool) (x : D) (h : HH) : R D := match x with
  | .int j => (match smallI j with
    | true => mkL m (rangeL 0 j) h
    | false => .no)
  | _ => .no
@[simp ↓] theorem e_lrg {m : Bool} {a : E} : ev P o (.lrg m a) ρ h = (ev P o a ρ h).bd fun x h1 => lrgD m x h1 := by
  rw [q_lrg]
  rfl
@[simp] theorem lrgD_i {m : Bool} {j : Int} : lrgD m (.int j) h = cs (smallI j) (mkL m (rangeL 0 j) h) .no := by
  show (match smallI j with
    | true => mkL m (rangeL 0 j) h
    | false => .no) = _
  cases smallI j <;> rfl
@[simp] theorem eqR_b {ne k : Bool} : eqR ne (.bl k) h = .ok (k != ne) h := (rfl)
@[simp ↓] theorem e_att {q : E} {k : Nat} {alts : List (Nat × Nat)} : ev P o (.att q k alts) ρ h = (ev P o q ρ h).bd fun x h1 => oc (propJ alts (insOf x h1)) (fun j => (callJ P o false j [x] h1).pur) (R.of (fieldD P.fld k (insOf x h1)) h1) := by
  rw [q_att]
  congr; funext x h1
  cases propJ alts (insOf x h1) <;> rfl
@[simp ↓] theorem e_blt {m : Bool} {b : Blt} {es : E} : ev P o (.blt m b es) ρ h = (evs P o es ρ h).bd fun ds h1 => bltD m b ds h1 := (rfl)
@[simp ↓] theorem e_isi {x : E} {ts : List Ty} : ev P o (.isi x ts) ρ h = (ev P o x ρ h).bd fun d h1 => R.of ((isiD P.nc d h1 ts).map D.bl) h1 := (rfl)
@[simp ↓] theorem e_bm {b : BM} {q es : E} : ev P o (.bm b q es) ρ h = (ev P o q ρ h).bd fun x h1 => cs (isRcv b x h1) ((evs P o es ρ h1).bd fun ds h2 => bmD b x ds h2) .no := (rfl)
/-- a comprehension's turn -/
def cf (P : Prog) (o : Orc) (tg ifs el : E) (ρ : Env) : D → HH → R (Option D) := fun x h2 => (asg P o tg x ρ h2).bd fun ρ2 h3 => (tsts P o ifs ρ2 h3).bd fun k h4 => cs k ((ev P o el ρ2 h4).bd fun d h5 => .ok (some d) h5) (.ok none h4)
@[simp ↓] theorem cf_ap {tg ifs el : E} {x : D} : cf P o tg ifs el ρ x h = (asg P o tg x ρ h).bd fun ρ2 h3 => (tsts P o ifs ρ2 h3).bd fun k h4 => cs k ((ev P o el ρ2 h4).bd fun d h5 => .ok (some d) h5) (.ok none h4) := (rfl)
/-- a turn of the first of two clauses -/
def cj (P : Prog) (o : Orc) (tg it2 tg2 : E) (own2 : List Nat) (el : E) (ρ : Env) : D → HH → R (List D) := fun x h2 => (asg P o tg x ρ h2).bd fun ρ2 h3 => (itL (ev P o it2 ρ2 h3)).bd fun l2 h4 => compL (cf P o tg2 .nil el (wipeE ρ2 own2)) l2 h4
@[simp ↓] theorem e_comp2 {m : Bool} {own own2 : List Nat} {tg it tg2 it2 el : E} : ev P o (.comp2 m own own2 tg it tg2 it2 el) ρ h = (itL (ev P o it ρ h)).bd fun l h1 => (compJ (cj P o tg it2 tg2 own2 el (wipeE ρ own)) l h1).pur.bd fun l h2 => mkL m l h2 := (rfl)
@[simp ↓] theorem e_comp {m : Bool} {own : List Nat} {tg it ifs el : E} : ev P o (.comp m own tg it ifs el) ρ h = (itm P o it ρ h).bd fun I h1 => (compI (cf P o tg ifs el (wipeE ρ own)) I h1).pur.bd fun l h2 => mkL m l h2 := (rfl)
theorem ts_def {e : E} (hq : (sem P o e).ts ρ h = ((sem P o e).ev ρ h).bd fun x h1 => R.of (truthD x h1) h1) : tst P o e ρ h = (ev P o e ρ h).bd fun x h1 => R.of (truthD x h1) h1 := hq
@[simp ↓] theorem t_v {i : Nat} : tst P o (.v i) ρ h = (ev P o (.v i) ρ h).bd fun x h1 => R.of (truthD x h1) h1 := (rfl)
@[simp ↓] theorem t_c {d : D} : tst P o (.c d) ρ h = R.of (truthD d h) h := (rfl)
@[simp ↓] theorem t_call {ad : Bool} {j : Nat} {es : E} : tst P o (.call ad j es) ρ h = (ev P o (.call ad j es) ρ h).bd fun x h1 => R.of (truthD x h1) h1 := (rfl)
@[simp ↓] theorem t_callk {ad : Bool} {j : Nat} {es ks : E} : tst P o (.callk ad j es ks) ρ h = (ev P o (.callk ad j es ks) ρ h).bd fun x h1 => R.of (truthD x h1) h1 := (rfl)
@[simp ↓] theorem t_meth {ad : Bool} {mi : Nat} {q es : E} {alts : List (Nat × Nat)} : tst P o (.meth ad mi q alts es) ρ h = (ev P o (.meth ad mi q alts es) ρ h).bd fun x h1 => R.of (truthD x h1) h1 := (rfl)
@[simp ↓] theorem t_att {q : E} {k : Nat} {alts : List (Nat × Nat)} : tst P o (.att q k alts) ρ h = (ev P o (.att q k alts) ρ h).bd fun x h1 => R.of (truthD x h1) h1 := (rfl)
@[simp ↓] theorem t_blt {m : Bool} {b : Blt} {es : E} : tst P o (.blt m b es) ρ h = (ev P o (.blt m b es) ρ h).bd fun x h1 => R.of (truthD x h1) h1 := (rfl)
@[simp ↓] theorem t_isi {x : E} {ts : List Ty} : tst P o (.isi x ts) ρ h = (ev P o (.isi x ts) ρ h).bd fun x h1 => R.of (truthD x h1) h1 := (rfl)
@[simp ↓] theorem t_ix {a i : E} : tst P o (.ix a i) ρ h = (ev P o (.ix a i) ρ h).bd fun x h1 => R.of (truthD x h1) h1 := (rfl)
@[simp ↓] theorem s_nil : evs P o .nil ρ h = .ok [] h := (rfl)
@[simp ↓] theorem l_nil : tsts P o .nil ρ h = .ok true h := (rfl)
@[simp ↓] theorem g_nil : asgs P o .nil [] ρ h = .ok ρ h := (rfl)
@[simp ↓] theorem s_cons {e es : E} : evs P o (.cons e es) ρ h = (ev P o e ρ h).bd fun d h1 => (evs P o es ρ h1).bd fun ds h2 => .ok (d :: ds) h2 := (rfl)
@[simp ↓] theorem l_cons {e es : E} : tsts P o (.cons e es) ρ h = tst P o e ρ h := (rfl)
@[simp ↓] theorem g_cons {e es : E} {d : D} {r : List D} : asgs P o (.cons e es) (d :: r) ρ h = (asg P o e d ρ h).bd fun ρ1 h1 => asgs P o es r ρ1 h1 := (rfl)
@[simp ↓] theorem s_star {e es : E} : evs P o (.star e es) ρ h = (ev P o e ρ h).bd fun d h1 => oc (seqOf d h1) (fun l => (evs P o es ρ h1).bd fun ds h2 => .ok (l ++ ds) h2) .no := by
  rw [q_star]
  congr; funext x h1
  cases seqOf x h1 <;> rfl
@[simp ↓] theorem i_ie {e : E} : itm P o (.i_e e) ρ h = (ev P o e ρ h).bd fun x h1 => match x with
    | .tup l => .ok (.items l) h1
    | .wtup l => .ok (.items l) h1
    | .lst l => .ok (.items l) h1
    | .bor l => .ok (.items l) h1
    | .ref n => (match h1[n]? with
      | some (.lst _) => .ok (.live n) h1
      | _ => .no)
    | _ => .no := (rfl)
def rng1 (x : D) (h : HH) : R Itr := match x with
  | .int j => cs (smallI j) (.ok (.items (rangeL 0 j)) h) .no
  | _ => .no
def rng2 (x y : D) (h : HH) : R Itr := match x, y with
  | .int i, .int j => cs (smallI i && smallI j) (.ok (.items (rangeL i j)) h) .no
  | _, _ => .no
@[simp] theorem rng1_i {j : Int} : rng1 (.int j) h = cs (smallI j) (.ok (.items (rangeL 0 j)) h) .no := by
  first | (cases h <;> rfl)
@[simp] theorem rng2_i {i j : Int} : rng2 (.int i) (.int j) h = cs (smallI i && smallI j) (.ok (.items (rangeL i j)) h) .no := by
  first | (cases h <;> rfl)
@[simp ↓] theorem i_r1' {a : E} : itm P o (.i_r1 a) ρ h = (ev P o a ρ h).bd fun x h1 => rng1 x h1 := by
  rw [q_i_r1]
  rfl
@[simp ↓] theorem i_r2' {a b : E} : itm P o (.i_r2 a b) ρ h = (ev P o a ρ h).bd fun x h1 => (ev P o b ρ h1).bd fun y h2 => rng2 x y h2 := by
  rw [q_i_r2]
  rfl
@[simp ↓] theorem i_en' {e : E} : itm P o (.i_en e) ρ h = (ev P o e ρ h).bd fun x h1 => match x with
    | .lst l => .ok (.items (enumL 0 l)) h1
    | .tup l => .ok (.items (enumL 0 l)) h1
    | .wtup l => .ok (.items (enumL 0 l)) h1
    | _ => .no := (rfl)
@[simp ↓] theorem i_zip' {a b : E} : itm P o (.i_zip a b) ρ h = (ev P o a ρ h).bd fun x h1 => (ev P o b ρ h1).bd fun y h2 => match x, y with
    | .tup k, .tup l => .ok (.items (pairL k l)) h2
    | .lst k, .lst l => .ok (.items (pairL k l)) h2
    | .lst k, .tup l => .ok (.items (pairL k l)) h2
    | _, _ => .no := (rfl)
@[simp ↓] theorem a_tn {i : Nat} {d : D} : asg P o (.t_n i) d ρ h = .ok (ρ.set i (some d)) h := (rfl)
@[simp ↓] theorem a_tt {ts : E} {d : D} : asg P o (.t_t ts) d ρ h = oc (seqOf d h) (fun l => asgs P o ts l ρ h) .no := by
  rw [q_t_t]
  cases seqOf d h <;> rfl
@[simp ↓] theorem a_tx {n : Nat} {ts : E} {d : D} : asg P o (.t_x n ts) d ρ h = oc (starD n d) (fun l => asgs P o ts l ρ h) .no := by
  rw [q_t_x]
  cases starD n d <;> rfl
@[simp] theorem starD_t {n : Nat} {l : List D} : starD n (.tup l) = cs (Nat.ble n l.length) (some (l.take n ++ [D.lst (l.drop n)])) none := by
  show (match Nat.ble n l.length with
    | true => some (l.take n ++ [D.lst (l.drop n)])
    | false => none) = _
  cases Nat.ble n l.length <;> rfl
@[simp] theorem starD_w {n : Nat} {l : List D} : starD n (.wtup l) = cs (Nat.ble n l.length) (some (l.take n ++ [D.lst (l.drop n)])) none := by
  show (match Nat.ble n l.length with
    | true => some (l.take n ++ [D.lst (l.drop n)])
    | false => none) = _
  cases Nat.ble n l.length <;> rfl
@[simp ↓] theorem a_ts {q i : E} {d : D} : asg P o (.t_s q i) d ρ h = (ev P o q ρ h).bd fun x h1 => (ev P o i ρ h1).bd fun y h2 => oc (setD x y d h2) (fun h3 => .ok ρ h3) .no := by
  rw [q_t_s]
  congr; funext x h1; congr; funext y h2
  cases setD x y d h2 <;> rfl
@[simp ↓] theorem a_ta {q : E} {k : Nat} {d : D} : asg P o (.t_a q k) d ρ h = (ev P o q ρ h).bd fun x h1 => oc (setF P.fld x k d h1) (fun h2 => .ok ρ h2) .no := by
  rw [q_t_a]
  congr; funext x h1
  cases setF P.fld x k d h1 <;> rfl
/-! data -/
@[simp] theorem b_add {m : Bool} {x y : D} : binD .Add m x y h = addD m x y h := (rfl)
@[simp] theorem b_sub {m : Bool} {x y : D} : binD .Sub m x y h = subD x y h := (rfl)
@[simp] theorem b_mul {m : Bool} {x y : D} : binD .Mult m x y h = mulD m x y h := (rfl)
@[simp] theorem b_div {m : Bool} {x y : D} : binD .FloorDiv m x y h = divD x y h := (rfl)
@[simp] theorem b_mod {m : Bool} {x y : D} : binD .Mod m x y h = modD x y h := (rfl)
@[simp] theorem b_pow {m : Bool} {x y : D} : binD .Pow m x y h = powD x y h := (rfl)
@[simp] theorem add_ii {m : Bool} {i j : Int} : addD m (.int i) (.int j) h = .ok (.int (i + j)) h := (rfl)
@[simp] theorem add_ll {m : Bool} {a b : List D} : addD m (.lst a) (.lst b) h = mkL m (a ++ b) h := (rfl)
@[simp] theorem add_tt {m : Bool} {a b : List D} : addD m (.tup a) (.tup b) h = mkT (a ++ b) h := (rfl)
@[simp] theorem sub_ii {i j : Int} : subD (.int i) (.int j) h = .ok (.int (i - j)) h := (rfl)
@[simp] theorem mul_ii {m : Bool} {i j : Int} : mulD m (.int i) (.int j) h = cs (mulOk i j) (.ok (.int (i * j)) h) .no := by
  first | (cases h <;> rfl)
@[simp] theorem div_ii {i j : Int} : divD (.int i) (.int j) h = cs (divOk j) (.ok (.int (i.fdiv j)) h) .no := by
  first | (cases h <;> rfl)
@[simp] theorem pow_ii {i j : Int} : powD (.int i) (.int j) h = cs (powOk i j) (.ok (.int (i ^ j.toNat)) h) .no := by
  first | (cases h <;> rfl)
@[simp] theorem mod_ii {i j : Int} : modD (.int i) (.int j) h = cs (j != 0) (.ok (.int (i.fmod j)) h) .no := by
  first | (cases h <;> rfl)
@[simp] theorem seq_tup {l : List D} : seqOf (.tup l) h = some l := (rfl)
@[simp] theorem seq_wtup {l : List D} : seqOf (.wtup l) h = some l := (rfl)
@[simp] theorem seq_lst {l : List D} : seqOf (.lst l) h = some l := (rfl)
@[simp] theorem seq_bor {l : List D} : seqOf (.bor l) h = some l := (rfl)
@[simp] theorem seq_ref {n : Nat} : seqOf (.ref n) h = ol h[n]? some none := by
  show (match h[n]? with
    | some (.lst l) => some l
    | _ => none) = _
  cases h[n]? with
  | none => rfl
  | some y => cases y <;> rfl
@[simp] theorem seq_int {i : Int} : seqOf (.int i) h = none := (rfl)
@[simp] theorem seq_non : seqOf .non h = none := (rfl)
@[simp] theorem seq_bl {i : Bool} : seqOf (.bl i) h = none := (rfl)
@[simp] theorem seq_str {i : Str} : seqOf (.str i) h = none := (rfl)
@[simp] theorem lo_lst {l : List D} : listOf (.lst l) h = some l := (rfl)
@[simp] theorem lo_bor {l : List D} : listOf (.bor l) h = some l := (rfl)
@[simp] theorem lo_ref {n : Nat} : listOf (.ref n) h = ol h[n]? some none := by
  show (match h[n]? with
    | some (.lst l) => some l
    | _ => none) = _
  cases h[n]? with
  | none => rfl
  | some y => cases y <;> rfl
@[simp] theorem lo_tup {l : List D} : listOf (.tup l) h = none := (rfl)
@[simp] theorem lo_wtup {l : List D} : listOf (.wtup l) h = none := (rfl)
@[simp] theorem lo_int {i : Int} : listOf (.int i) h = none := (rfl)
@[simp] theorem lo_non : listOf .non h = none := (rfl)
@[simp] theorem do_dct {ks : List Key} {vs : List D} : dctOf (.dct ks vs) h = some (ks, vs) := (rfl)
@[simp] theorem do_ref {n : Nat} : dctOf (.ref n) h = (match h[n]? with
    | some (.dct ks vs) => some (ks, vs)
    | _ => none) := (rfl)
@[simp] theorem do_tup {l : List D} : dctOf (.tup l) h = none := (rfl)
@[simp] theorem do_wtup {l : List D} : dctOf (.wtup l) h = none := (rfl)
@[simp] theorem do_lst {l : List D} : dctOf (.lst l) h = none := (rfl)
@[simp] theorem do_bor {l : List D} : dctOf (.bor l) h = none := (rfl)
@[simp] theorem do_int {i : Int} : dctOf (.int i) h = none := (rfl)
@[simp] theorem do_str {i : Str} : dctOf (.str i) h = none := (rfl)
theorem it_wd {W : Wds} {k : Nat} {i : D} : itemD W (.wd k) i h = (match W[k]?, keyOf i with
    | some w, some q => findK w.1 w.2 q
    | _, _ => none) := (rfl)
@[simp] theorem it_tup {W : Wds} {l : List D} {i : Int} : itemD W (.tup l) (.int i) h = (ixAt l.length i).bind fun j => l[j]? := (rfl)
@[simp] theorem it_wtup {W : Wds} {l : List D} {i : Int} : itemD W (.wtup l) (.int i) h = (ixAt l.length i).bind fun j => l[j]? := (rfl)
@[simp] theorem it_lst {W : Wds} {l : List D} {i : Int} : itemD W (.lst l) (.int i) h = (ixAt l.length i).bind fun j => l[j]? := (rfl)
@[simp] theorem it_bor {W : Wds} {l : List D} {i : Int} : itemD W (.bor l) (.int i) h = (ixAt l.length i).bind fun j => l[j]? := (rfl)
theorem it_ref {W : Wds} {n : Nat} {l : List D} {i : Int} (e : h[n]? = some (.lst l)) : itemD W (.ref n) (.int i) h = (ixAt l.length i).bind fun j => l[j]? := by
  show (match dctOf (.ref n) h with
    | some w => (match keyOf (.int i) with
      | some q => findK w.1 w.2 q
      | none => none)
    | none => itemL (.ref n) (.int i) h) = _
  rw [do_ref, e]
  show (match seqOf (.ref n) h with
    | some l => (ixAt l.length i).bind fun j => l[j]?
    | none => none) = _
  rw [seq_ref, e]
  rfl
theorem it_refd {W : Wds} {n : Nat} {ks : List Key} {vs : List D} {x : D} {q : Key} (e : h[n]? = some (.dct ks vs)) (hq : keyOf x = some q) : itemD W (.ref n) x h = findK ks vs q := by
  show (match dctOf (.ref n) h with
    | some w => (match keyOf x with
      | some q => findK w.1 w.2 q
      | none => none)
    | none => itemL (.ref n) x h) = _
  rw [do_ref, e]
  simp only
  rw [hq]
@[simp] theorem key_int {i : Int} : keyOf (.int i) = some (.inl i) := (rfl)
theorem ixAt_nat {n k : Nat} (h : k < n) : ixAt n (k : Int) = some k := by
  unfold ixAt
  rw [if_pos (Int.natCast_nonneg k), if_pos (by exact_mod_cast h)]
  simp
theorem ixAt_last {n : Nat} (h : 0 < n) : ixAt n (-1) = some (n - 1) := by
  unfold ixAt
  rw [if_neg (by omega), if_pos (by omega)]
  congr 1
  omega
@[simp] theorem c_eq {x y : D} : cmpD .Eq x y h = eqD x y h := (rfl)
@[simp] theorem c_ne {x y : D} : cmpD .NotEq x y h = (eqD x y h).map (!·) := (rfl)
@[simp] theorem c_lt {i j : Int} : cmpD .Lt (.int i) (.int j) h = some (decide (i < j)) := (rfl)
@[simp] theorem c_le {i j : Int} : cmpD .LtE (.int i) (.int j) h = some (decide (i ≤ j)) := (rfl)
@[simp] theorem c_gt {i j : Int} : cmpD .Gt (.int i) (.int j) h = some (decide (j < i)) := (rfl)
@[simp] theorem c_ge {i j : Int} : cmpD .GtE (.int i) (.int j) h = some (decide (j ≤ i)) := (rfl)
@[simp] theorem c_is {x : D} : cmpD .Is x .non h = some (noneD x) := (rfl)
@[simp] theorem c_isn {x : D} : cmpD .IsNot x .non h = some (!noneD x) := (rfl)
@[simp] theorem c_in {x y : D} : cmpD .In x y h = inD x y h := (rfl)
@[simp] theorem c_nin {x y : D} : cmpD .NotIn x y h = (inD x y h).map (!·) := (rfl)
@[simp] theorem eq_ii {i j : Int} : eqD (.int i) (.int j) h = some (decide (i = j)) := (rfl)
theorem mkT_ok' {l : List D} (hl : l.length ≤ line) : mkT l h = .ok (.tup l) h := by
  unfold mkT
  rw [Nat.ble_eq_true_of_le hl]
theorem mkL_f {l : List D} (hl : l.length ≤ line) : mkL false l h = .ok (.lst l) h := by
  unfold mkL
  rw [Nat.ble_eq_true_of_le hl]
theorem mkL_t {l : List D} (hl : l.length ≤ line) : mkL true l h = .ok (.ref h.length) (h ++ [.lst l]) := by
  unfold mkL
  rw [Nat.ble_eq_true_of_le hl]
@[simp] theorem mkT_0 : mkT [] h = .ok (.tup []) h := (rfl)
@[simp] theorem mkT_1 {a : D} : mkT [a] h = .ok (.tup [a]) h := (rfl)
@[simp] theorem mkT_2 {a b : D} : mkT [a, b] h = .ok (.tup [a, b]) h := (rfl)
@[simp] theorem mkT_3 {a b c : D} : mkT [a, b, c] h = .ok (.tup [a, b, c]) h := (rfl)
@[simp] theorem mkT_4 {a b c d : D} : mkT [a, b, c, d] h = .ok (.tup [a, b, c, d]) h := (rfl)
@[simp] theorem mkT_5 {a b c d e : D} : mkT [a, b, c, d, e] h = .ok (.tup [a, b, c, d, e]) h := (rfl)
@[simp] theorem mkL_f0 : mkL false [] h = .ok (.lst []) h := (rfl)
@[simp] theorem mkL_f1 {a : D} : mkL false [a] h = .ok (.lst [a]) h := (rfl)
@[simp] theorem mkL_f2 {a b : D} : mkL false [a, b] h = .ok (.lst [a, b]) h := (rfl)
@[simp] theorem mkL_f3 {a b c : D} : mkL false [a, b, c] h = .ok (.lst [a, b, c]) h := (rfl)
@[simp] theorem mkL_f4 {a b c d : D} : mkL false [a, b, c, d] h = .ok (.lst [a, b, c, d]) h := (rfl)
@[simp] theorem mkL_t0 : mkL true [] h = .ok (.ref h.length) (h ++ [.lst []]) := (rfl)
@[simp] theorem mkL_t1 {a : D} : mkL true [a] h = .ok (.ref h.length) (h ++ [.lst [a]]) := (rfl)
@[simp] theorem mkL_t2 {a b : D} : mkL true [a, b] h = .ok (.ref h.length) (h ++ [.lst [a, b]]) := (rfl)
@[simp] theorem mkL_t3 {a b c : D} : mkL true [a, b, c] h = .ok (.ref h.length) (h ++ [.lst [a, b, c]]) := (rfl)
@[simp] theorem mkL_t5 {a b c d e : D} : mkL true [a, b, c, d, e] h = .ok (.ref h.length) (h ++ [.lst [a, b, c, d, e]]) := (rfl)
@[simp] theorem mkL_f6 {a b c d e f : D} : mkL false [a, b, c, d, e, f] h = .ok (.lst [a, b, c, d, e, f]) h := (rfl)
@[simp] theorem isRcv_app {x : D} : isRcv .append x h = (listOf x h).isSome := (rfl)
@[simp] theorem isRcv_pop {x : D} : isRcv .pop x h = (listOf x h).isSome := (rfl)
@[simp] theorem isRcv_clear {x : D} : isRcv .clear x h = (listOf x h).isSome := (rfl)
@[simp] theorem bm_app {x : D} {ds : List D} : bmD .append x ds h = appendD x ds h := (rfl)
@[simp] theorem bm_pop {x : D} {ds : List D} : bmD .pop x ds h = popD x ds h := (rfl)
@[simp] theorem bm_clear {x : D} {ds : List D} : bmD .clear x ds h = clearD x ds h := (rfl)
theorem append_ok' {n : Nat} {l : List D} {x : D} (e : h[n]? = some (.lst l)) (hl : l.length < line) : appendD (.ref n) [x] h = .ok .non (h.set n (.lst (l ++ [x]))) := by
  unfold appendD
  dsimp only
  rw [e]
  dsimp only
  rw [show Nat.blt l.length line = true from Nat.ble_eq_true_of_le hl]
theorem blt_dec (a b : Nat) : Nat.blt a b = decide (a < b) := by
  rw [Bool.eq_iff_iff]
  simp only [decide_eq_true_eq]
  exact ⟨fun h => Nat.le_of_ble_eq_true h, fun h => Nat.ble_eq_true_of_le h⟩
theorem app_def {n : Nat} {x : D} : appendD (.ref n) [x] h = ol h[n]? (fun l => cs (decide (l.length < line)) (.ok .non (h.set n (.lst (l ++ [x])))) .no) .no := by
  unfold appendD
  dsimp only
  cases h[n]? with
  | none => rfl
  | some y =>
    cases y <;> first | rfl | skip
    rw [ol_s, ← blt_dec]
    rename_i l
    dsimp only
    cases Nat.blt l.length line <;> rfl
theorem pop_def {n : Nat} : popD (.ref n) [] h = ol h[n]? (fun l => oc l[l.length - 1]? (fun x => .ok x (h.set n (.lst l.dropLast))) .no) .no := by
  unfold popD
  dsimp only
  cases h[n]? with
  | none => rfl
  | some y =>
    cases y <;> first | rfl | skip
    rename_i l
    rw [ol_s]
    dsimp only
    cases l[l.length - 1]? <;> rfl
theorem clear_def {n : Nat} : clearD (.ref n) [] h = ol h[n]? (fun l => .ok .non (h.set n (.lst []))) .no := by
  unfold clearD
  dsimp only
  cases h[n]? with
  | none => rfl
  | some y => cases y <;> rfl
/-- an own thing's item -/
def itO (o : Option O) (x : D) : Option D := match o with
  | some (.lst l) => (match x with
    | .int i => (ixAt l.length i).bind fun j => l[j]?
    | _ => none)
  | some (.dct ks vs) => (match keyOf x with
    | some q => findK ks vs q
    | none => none)
  | _ => none
@[simp] theorem itO_l {l : List D} {i : Int} : itO (some (.lst l)) (.int i) = (ixAt l.length i).bind fun j => l[j]? := (rfl)
@[simp] theorem itO_d {ks : List Key} {vs : List D} {i : Int} : itO (some (.dct ks vs)) (.int i) = findK ks vs (.inl i) := (rfl)
theorem it_refU {W : Wds} {n : Nat} {x : D} : itemD W (.ref n) x h = itO h[n]? x := by
  show (match dctOf (.ref n) h with
    | some w => (match keyOf x with
      | some q => findK w.1 w.2 q
      | none => none)
    | none => itemL (.ref n) x h) = _
  rw [do_ref]
  cases e : h[n]? with
  | none =>
    unfold itemL
    simp only [seq_ref, e]
    cases x <;> rfl
  | some y =>
    unfold itemL
    cases y with
    | lst l =>
      simp only [seq_ref, e]
      cases x <;> rfl
    | dct ks vs => rfl
    | ins c ks vs =>
      simp only [seq_ref, e]
      cases x <;> rfl
theorem lenU {d : D} : lenD [d] h = oc (seqOf d h) (fun l => .ok (.int l.length) h) (match d with
    | .str s => if s.length ≤ line then .ok (.int s.length) h else .no
    | _ => .no) := by
  unfold lenD
  dsimp only
  cases seqOf d h <;> rfl
theorem tupleU {d : D} : tupleD [d] h = oc (seqOf d h) (fun l => .ok (.tup l) h) .no := by
  unfold tupleD
  dsimp only
  cases seqOf d h <;> rfl
@[simp] theorem bl_len {m : Bool} {ds : List D} : bltD m .len ds h = lenD ds h := (rfl)
@[simp] theorem bl_abs {m : Bool} {ds : List D} : bltD m .abs ds h = absD ds h := (rfl)
@[simp] theorem bl_int {m : Bool} {ds : List D} : bltD m .int ds h = intD ds h := (rfl)
@[simp] theorem bl_list {m : Bool} {ds : List D} : bltD m .list ds h = listD m ds h := (rfl)
@[simp] theorem bl_tuple {m : Bool} {ds : List D} : bltD m .tuple ds h = tupleD ds h := (rfl)
@[simp] theorem bl_sum {m : Bool} {ds : List D} : bltD m .sum ds h = sumD ds h := (rfl)
@[simp] theorem bl_all {m : Bool} {ds : List D} : bltD m .all ds h = allD ds h := (rfl)
@[simp] theorem bl_any {m : Bool} {ds : List D} : bltD m .any ds h = anyD ds h := (rfl)
@[simp] theorem int_i {i : Int} : intD [.int i] h = .ok (.int i) h := (rfl)
@[simp] theorem abs_i {i : Int} : absD [.int i] h = .ok (.int (if i < 0 then -i else i)) h := (rfl)
@[simp] theorem len_tup {l : List D} : lenD [.tup l] h = .ok (.int l.length) h := (rfl)
@[simp] theorem len_wtup {l : List D} : lenD [.wtup l] h = .ok (.int l.length) h := (rfl)
@[simp] theorem len_lst {l : List D} : lenD [.lst l] h = .ok (.int l.length) h := (rfl)
@[simp] theorem len_bor {l : List D} : lenD [.bor l] h = .ok (.int l.length) h := (rfl)
theorem len_ref {n : Nat} {l : List D} (e : h[n]? = some (.lst l)) : lenD [.ref n] h = .ok (.int l.length) h := by
  unfold lenD
  simp only [seq_ref, e, ol_s]
theorem tuple_seq {d : D} {l : List D} (e : seqOf d h = some l) : tupleD [d] h = .ok (.tup l) h := by
  unfold tupleD
  simp only [e]
theorem list_seq {m : Bool} {d : D} {l : List D} (e : seqOf d h = some l) : listD m [d] h = mkL m l h := by
  unfold listD
  simp only [e]
@[simp] theorem tuple_lst {l : List D} : tupleD [.lst l] h = .ok (.tup l) h := (rfl)
@[simp] theorem sum_lst {l : List D} : sumD [.lst l] h = oc (intsD l) (fun ns => .ok (.int ns.sum) h) .no := by
  unfold sumD oneL
  simp only [lo_lst, Option.bind_some]
  cases intsD l <;> rfl
@[simp] theorem all_lst {l : List D} : allD [.lst l] h = oc (bls l) (fun ns => .ok (.bl (ns.all id)) h) .no := by
  unfold allD oneL
  simp only [lo_lst, Option.bind_some]
  cases bls l <;> rfl
@[simp] theorem any_lst {l : List D} : anyD [.lst l] h = oc (bls l) (fun ns => .ok (.bl (ns.any id)) h) .no := by
  unfold anyD oneL
  simp only [lo_lst, Option.bind_some]
  cases bls l <;> rfl
@[simp] theorem ints_nil : intsD [] = some [] := (rfl)
@[simp] theorem ints_cons {i : Int} {r : List D} : intsD (.int i :: r) = (intsD r).map (i :: ·) := (rfl)
@[simp] theorem bls_nil : bls [] = some [] := (rfl)
@[simp] theorem bls_cons {i : Bool} {r : List D} : bls (.bl i :: r) = (bls r).map (i :: ·) := (rfl)
@[simp] theorem wipe_nil : wipeE ρ [] = ρ := (rfl)
@[simp] theorem wipe_cons {v : Nat} {vs : List Nat} : wipeE ρ (v :: vs) = (wipeE ρ vs).set v none := (rfl)
@[simp] theorem tr_bl {b : Bool} : truthD (.bl b) h = some b := (rfl)
@[simp] theorem tr_int {i : Int} : truthD (.int i) h = some (i != 0) := (rfl)
@[simp] theorem tr_non : truthD .non h = some false := (rfl)
@[simp] theorem ins_obj {c : Nat} {ks : List Nat} {vs : List D} : insOf (.obj c ks vs) h = some (c, ks, vs) := (rfl)
@[simp] theorem ins_ref {n : Nat} : insOf (.ref n) h = (match h[n]? with
    | some (.ins c ks vs) => some (c, ks, vs)
    | _ => none) := (rfl)
end
/-! ### calls -/
theorem lends1 {h : HH} {a a' : D} (h1 : lend h a = some a') : lends h [a] = some [a'] := by simp only [lends, h1]
theorem lends2 {h : HH} {a b a' b' : D} (h1 : lend h a = some a') (h2 : lend h b = some b') : lends h [a, b] = some [a', b'] := by simp only [lends, h1, h2]
theorem lends3 {h : HH} {a b c a' b' c' : D} (h1 : lend h a = some a') (h2 : lend h b = some b') (h3 : lend h c = some c') : lends h [a, b, c] = some [a', b', c'] := by simp only [lends, h1, h2, h3]
theorem lend_tup {h : HH} {l : List D} (f : D.flats l = true) : lend h (.tup l) = some (.tup l) := by
  unfold lend
  simp only [D.flat, f, if_pos]
theorem lend_wtup {h : HH} {l : List D} (f : D.flats l = true) : lend h (.wtup l) = some (.wtup l) := by
  unfold lend
  simp only [D.flat, f, if_pos]
theorem lend_lst {h : HH} {l : List D} (f : D.flats l = true) : lend h (.lst l) = some (.lst l) := by
  unfold lend
  simp only [D.flat, f, if_pos]
theorem lend_bor {h : HH} {l : List D} (f : D.flats l = true) : lend h (.bor l) = some (.bor l) := by
  unfold lend
  simp only [f, if_pos]
theorem lend_ref {h : HH} {n : Nat} {l : List D} (e : h[n]? = some (.lst l)) (f : D.flats l = true) : lend h (.ref n) = some (.bor l) := by
  unfold lend
  simp only [e, f, if_pos]
theorem lend_obj {h : HH} {c : Nat} {ks : List Nat} {l : List D} (f : D.flats l = true) : lend h (.obj c ks l) = some (.obj c ks l) := by
  unfold lend
  simp only [D.flat, f, if_pos]
theorem ints_map : ∀ l : List Int, intsD (l.map D.int) = some l
  | [] => rfl
  | i :: r => by
    rw [List.map_cons, ints_cons, ints_map r]
    rfl
theorem bls_map : ∀ l : List Bool, bls (l.map D.bl) = some l
  | [] => rfl
  | i :: r => by
    rw [List.map_cons, bls_cons, bls_map r]
    rfl
/-- a pure def's answer, on data that are lent -/
structure Ans (P : Prog) (k : Nat) (i : Nat) (es : List D) (r : Ret) : Prop where
  ex : ∃ (f : Fn) (d : D) (h1 : HH), P.fns[i]? = some f ∧ f.kind = .fn true ∧ body P (callN P k) f es [] = .ok d h1 ∧ takeOut d h1 = some r
theorem callN_s {P : Prog} {n i : Nat} {f : Fn} (e : P.fns[i]? = some f) (ds : List D) (h : HH) : callN P (n + 1) i ds h = (match f.kind with
      | .fn true => pureRun P (callN P n) f ds h
      | .fn false => (body P (callN P n) f ds h).bd fun d h1 => .ok (.val d) h1
      | .ctor c true => makeRun P (callN P n) c f ds h
      | .ctor c false => (body P (callN P n) f (.ref h.length :: ds) (h ++ [.ins c [] []])).bd fun d h1 => match d with
        | .non => .ok (.val (.ref h.length)) h1
        | _ => .no
      | .lam caps => (ev P (callN P n) (retOf f.body) (lamE f.nl caps ds) h).bd fun d h1 => .ok (.val d) h1) := by
  show (match P.fns[i]? with
    | none => R.no
    | some f => _) = _
  rw [e] <;> rfl
theorem Ans.call {P : Prog} {k n i : Nat} {es ds : List D} {r : Ret} {h : HH} (a : Ans P k i es r) (l : lends h ds = some es) (hn : k + 1 ≤ n) : callN P n i ds h = .ok r h := by
  obtain ⟨f, d, h1, e1, e2, e3, e4⟩ := a.ex
  refine callN_mono hn ?_ (by intro z; cases z)
  rw [callN_s e1, e2]
  dsimp only
  unfold pureRun
  rw [l]
  dsimp only
  rw [e3]
  dsimp only
  rw [e4]
theorem Ans.mono {P : Prog} {k n i : Nat} {es : List D} {r : Ret} (a : Ans P k i es r) (hn : k ≤ n) : Ans P n i es r := by
  obtain ⟨f, d, h1, e1, e2, e3, e4⟩ := a.ex
  refine ⟨f, d, h1, e1, e2, ?_, e4⟩
  clear e1 e2
  induction hn with
  | refl => exact e3
  | step _ ih =>
    rcases body_le (callN_le P _) f es [] with z | z
    · rw [ih] at z
      cases z
    · rw [← z]
      exact ih
/-- a def that shares the heap -/
theorem callN_sh {P : Prog} {n i : Nat} {f : Fn} {ds : List D} {h h1 : HH} {d : D} (e : P.fns[i]? = some f) (k : f.kind = .fn false) (b : body P (callN P n) f ds h = .ok d h1) : callN P (n + 1) i ds h = .ok (.val d) h1 := by
  rw [callN_s e, k]
  dsimp only
  rw [b]
  rfl
theorem body_rt {P : Prog} {o : Orc} {f : Fn} {ds : List D} {h h1 : HH} {d : D} (l : (ds.length == f.np) = true) (e : run P o f.body (startE f.nl ds) h = .rt d h1) : body P o f ds h = .ok d h1 := by
  unfold body
  rw [l]
  dsimp only
  rw [e]
theorem body_nx {P : Prog} {o : Orc} {f : Fn} {ds : List D} {h h1 : HH} {ρ : Env} (l : (ds.length == f.np) = true) (e : run P o f.body (startE f.nl ds) h = .nx ρ h1) : body P o f ds h = .ok .non h1 := by
  unfold body
  rw [l]
  dsimp only
  rw [e]
/-! ### sizes of intsD -/
def Bd (k : Nat) (i : Int) : Prop := i.natAbs < 2 ^ k
theorem Bd.le {k n : Nat} {i : Int} (b : Bd k i) (h : k ≤ n) : Bd n i := Nat.lt_of_lt_of_le b (Nat.pow_le_pow_right (by decide) h)
theorem Bd.add {k : Nat} {i j : Int} (a : Bd k i) (b : Bd k j) : Bd (k + 1) (i + j) := by
  unfold Bd at *
  have := Int.natAbs_add_le i j
  rw [Nat.pow_succ]
  omega
theorem Bd.neg {k : Nat} {i : Int} (a : Bd k i) : Bd k (-i) := by
  unfold Bd at *
  rwa [Int.natAbs_neg]
theorem Bd.sub {k : Nat} {i j : Int} (a : Bd k i) (b : Bd k j) : Bd (k + 1) (i - j) := by
  rw [Int.sub_eq_add_neg]
  exact a.add b.neg
theorem Bd.mul {k n : Nat} {i j : Int} (a : Bd k i) (b : Bd n j) : Bd (k + n) (i * j) := by
  unfold Bd at *
  rw [Int.natAbs_mul, Nat.pow_add]
  exact Nat.mul_lt_mul'' a b
theorem log2_lt_of {n k : Nat} (h : n < 2 ^ k) : n.log2 ≤ k := by
  by_cases hn : n = 0
  · subst hn
    simp
  · have := (Nat.log2_lt hn).mpr h
    omega
theorem Bd.ok {k n : Nat} {i j : Int} (a : Bd k i) (b : Bd n j) (h : k + n < 1000000 := by decide) : mulOk i j = true := by
  unfold mulOk
  have h1 := log2_lt_of a
  have h2 := log2_lt_of b
  exact Nat.ble_eq_true_of_le (by omega)
theorem Bd.nat {k : Nat} {i : Nat} (h : i < 2 ^ k) : Bd k (i : Int) := h
end MV

set_option maxRecDepth 100000
set_option maxHeartbeats 1000000
/-! VUx: rules for raise, for lambdas, for the law's own try. -/
namespace MV
section
variable {P : Prog} {o : Orc} {ρ : Env} {h : HH} {α β : Type}
@[simp, simp ↓] theorem sq_exc {c : Nat} {ks : List Nat} {vs : List D} {f : Env → HH → RS} : (RS.exc c ks vs ρ h).sq f = .exc c ks vs ρ h := (rfl)
@[simp, simp ↓] theorem tn_exc {c : Nat} {ks : List Nat} {vs : List D} {f : Env → HH → RS} : (RS.exc c ks vs ρ h).tn f = .exc c ks vs ρ h := (rfl)
@[simp, simp ↓] theorem st_exc' {c : Nat} {ks : List Nat} {vs : List D} {f : α → HH → RS} : (R.exc c ks vs h : R α).su ρ f = .exc c ks vs ρ h := (rfl)
@[simp, simp ↓] theorem pur_exc' {c : Nat} {ks : List Nat} {vs : List D} : (R.exc c ks vs h : R α).pur = .no := (rfl)
@[simp ↓] theorem e_lamb {k : Nat} : ev P o (.lamb k) ρ h = .ok (.lam k) h := (rfl)
/-- what the law's own try makes of a lambda's value -/
def ltryJ (P : Prog) (w : Bool) (o : Orc) (ρ : Env) : D → HH → R D := fun x h => match x with
  | .lam k => (match capsJ P k with
    | some caps => (match capD ρ caps with
      | some ds => tryW P w (o k ds h)
      | none => .no)
    | none => .no)
  | _ => .no
@[simp ↓] theorem e_ltry {w : Bool} {a : E} : ev P o (.ltry w a) ρ h = (ev P o a ρ h).bd fun x h1 => ltryJ P w o ρ x h1 := by
  show (ev P o a ρ h).bind _ = (ev P o a ρ h).bind _
  congr 1
@[simp] theorem ltryJ_l {w : Bool} {k : Nat} : ltryJ P w o ρ (.lam k) h = oc (capsJ P k) (fun caps => oc (capD ρ caps) (fun ds => tryW P w (o k ds h)) .no) .no := by
  show (match capsJ P k with
    | some caps => (match capD ρ caps with
      | some ds => tryW P w (o k ds h)
      | none => .no)
    | none => .no) = _
  cases capsJ P k with
  | none => rfl
  | some c =>
    dsimp only [oc]
    cases capD ρ c <;> rfl
@[simp] theorem capD_nil : capD ρ [] = some [] := (rfl)
@[simp] theorem capD_cons {i : Nat} {r : List Nat} : capD ρ (i :: r) = oc (eg ρ i) (fun d => oc (capD ρ r) (fun l => some (d :: l)) none) none := by
  show (match ρ[i]?, capD ρ r with
    | some (some d), some l => some (d :: l)
    | _, _ => none) = _
  rw [eg_eq]
  cases ρ[i]? with
  | none => rfl
  | some x =>
    cases x with
    | none => rfl
    | some d =>
      cases capD ρ r <;> rfl
@[simp] theorem tryW_f {r : R Ret} : tryW P false r = tryV P r := (rfl)
@[simp] theorem tryW_t {r : R Ret} : tryW P true r = (tryV P r).bd fun d h => R.of (itemD P.wd d (.int 0) h) h := (rfl)
@[simp] theorem tryV_ok {d : D} : tryV P (.ok (.val d) h) = .ok (.tup [.str "value", d]) h := (rfl)
@[simp ↓] theorem r_rais {c : Nat} {es : E} : run P o (.rais c es) ρ h = (evs P o es ρ h).su ρ fun ds h1 => oc P.xs[c]? (fun x => cs (x.n == ds.length) (oc (selD ds (x.fs.map (·.2))) (fun vs => .exc c (x.fs.map (·.1)) vs ρ h1) .no) .no) .no := by
  show (evs P o es ρ h).st ρ _ = (evs P o es ρ h).st ρ _
  congr 1
  funext ds h1
  cases P.xs[c]? with
  | none => rfl
  | some x =>
    dsimp only [oc]
    cases x.n == ds.length with
    | false => rfl
    | true =>
      dsimp only [cs]
      cases selD ds (x.fs.map (·.2)) <;> rfl
@[simp] theorem selD_nil {ds : List D} : selD ds [] = some [] := (rfl)
@[simp] theorem selD_a {ds : List D} {i : Nat} {r : List Sel} : selD ds (.a i :: r) = oc ds[i]? (fun d => oc (selD ds r) (fun l => some (d :: l)) none) none := by
  show (match ds[i]?, selD ds r with
    | some d, some l => some (d :: l)
    | _, _ => none) = _
  cases ds[i]? <;> cases selD ds r <;> rfl
@[simp] theorem selD_d {ds : List D} {x : D} {r : List Sel} : selD ds (.d x :: r) = oc (selD ds r) (fun l => some (x :: l)) none := by
  show (match selD ds r with
    | some l => some (x :: l)
    | none => none) = _
  cases selD ds r <;> rfl
end
end MV

set_option maxRecDepth 100000
set_option maxHeartbeats 4000000
/-! the text of the law in own syntax, by gen.py -/
namespace MV.X
open MV
def b_law : S := (.seq (.asg (.t_n 1) (.call true 0 (.cons (.v 0) .nil))) (.seq (.asg (.t_n 2) (.call false 1 .nil)) (.seq (.ite (.bor (.bnot (.call false 2 (.cons (.comp false [3] (.t_n 3) (.i_r1 (.c (.int 24))) .nil (.call false 3 (.cons (.v 3) .nil))) (.cons (.v 2) .nil)))) (.b1 (.cmp .NotEq (.v 2) (.blt false .sorted (.cons (.v 2) .nil))))) (.seq (.ret (.c (.bl false))) .skip) .skip) (.seq (.asg (.t_n 3) (.call false 4 (.cons (.v 1) (.cons (.c (.int 24)) .nil)))) (.seq (.ex (.bm .append (.call true 3 (.cons (.v 3) .nil)) (.cons (.c .non) .nil))) (.seq (.asg (.t_n 4) (.call false 5 (.cons (.v 3) .nil))) (.seq (.ite (.bor (.bnot (.call false 2 (.cons (.callk false 6 .nil (.cons (.v 3) .nil)) (.cons (.ix (.v 2) (.v 3)) .nil)))) (.b1 (.bnot (.call false 2 (.cons (.callk false 7 .nil (.cons (.v 3) .nil)) (.cons (.v 4) .nil)))))) (.seq (.ret (.c (.bl false))) .skip) .skip) (.seq (.loop (.t_n 5) (.i_r1 (.c (.int 24))) (.seq (.asg (.t_n 4) (.call false 5 (.cons (.v 5) .nil))) (.seq (.asg (.t_n 6) (.call false 8 (.cons (.v 4) .nil))) (.seq (.ite (.bor (.bnot (.isi (.v 4) [.tuple])) (.bor (.cmp .NotEq (.blt false .len (.cons (.v 4) .nil)) (.c (.int 4))) (.b1 (.cmp .NotIn (.v 6) (.tup (.cons (.c (.int 1)) (.cons (.c (.int 2)) (.cons (.c (.int 4)) .nil)))))))) (.seq (.ret (.c (.bl false))) .skip) .skip) (.seq (.ite (.bnot (.blt false .all (.cons (.comp false [9] (.t_n 9) (.i_e (.v 4)) .nil (.band (.cmp .In (.v 9) (.tup (.cons (.neg (.c (.int 1))) (.cons (.c (.int 0)) (.cons (.c (.int 1)) .nil))))) (.b1 (.bnot (.isi (.v 9) [.bool]))))) .nil))) (.seq (.ret (.c (.bl false))) .skip) .skip) (.seq (.ite (.bor (.cmp .Lt (.ix (.comp false [9] (.t_n 9) (.i_e (.v 4)) (.cons (.cmp .NotEq (.v 9) (.c (.int 0))) .nil) (.v 9)) (.c (.int 0))) (.c (.int 0))) (.b1 (.cmp .NotEq (.call false 9 (.cons (.v 4) .nil)) (.call false 10 (.cons (.ix (.v 2) (.v 5)) (.cons (.v 6) .nil)))))) (.seq (.ret (.c (.bl false))) .skip) .skip) .skip)))))) (.seq (.asg (.t_n 7) (.call false 11 (.cons (.v 1) (.cons (.lst false (.cons (.c (.int 24)) (.cons (.neg (.c (.int 1))) (.cons (.bin .Add false (.c (.int 25)) (.call false 4 (.cons (.v 1) (.cons (.bin .Pow false (.c (.int 10)) (.c (.int 9))) .nil)))) (.cons (.bin .Sub false (.c (.int 0)) (.c (.int 24))) .nil))))) .nil)))) (.seq (.asg (.t_n 8) (.lst false (.cons (.lamb 18) (.cons (.lamb 19) .nil)))) (.seq (.ite (.bnot (.call false 2 (.cons (.comp false [10] (.t_n 10) (.i_e (.v 8)) .nil (.ltry false (.v 10))) (.cons (.bin .Mult false (.lst false (.cons (.tup (.cons (.c (.str "InvalidQuarter")) (.cons (.v 7) .nil))) .nil)) (.c (.int 2))) .nil)))) (.seq (.ret (.c (.bl false))) .skip) .skip) (.seq (.ret (.call false 2 (.cons (.lst false (.cons (.g 0) (.cons (.g 1) (.cons (.call false 3 (.cons (.c (.int 23)) .nil)) .nil)))) (.cons (.lst false (.cons (.c (.int 24)) (.cons (.c (.int 23)) (.cons (.lst false (.cons (.tup (.cons (.c (.int 1)) (.cons (.c (.int 0)) (.cons (.c (.int 0)) .nil)))) (.cons (.tup (.cons (.c (.int 0)) (.cons (.c (.int 1)) (.cons (.c (.int 0)) .nil)))) (.cons (.tup (.cons (.c (.int 0)) (.cons (.c (.int 0)) (.cons (.c (.int 1)) .nil)))) .nil)))) .nil)))) .nil)))) .skip))))))))))))
abbrev F_law : Fn := { kind := .fn false, np := 1, nl := 11, body := b_law }
def b__law_bag : S := (.seq (.asg (.t_n 1) (.c (.int 3837))) (.seq (.loop (.t_n 2) (.i_e (.sl false (.v 0) .nil (.c (.int 63)))) (.seq (.asg (.t_n 1) (.bin .Mod false (.blt false .int (.cons (.bin .Add false (.bin .Add false (.bin .Mult false (.v 1) (.c (.int 44021))) (.bin .Mod false (.blt false .int (.cons (.v 2) .nil)) (.c (.int 2147483549)))) (.c (.int 31))) .nil)) (.c (.int 2147483647)))) .skip)) (.seq (.ret (.lst true (.cons (.blt false .list (.cons (.sl false (.v 0) .nil (.c (.int 63))) .nil)) (.cons (.c (.int 0)) (.cons (.c (.int 0)) (.cons (.v 1) (.cons (.c (.int 0)) .nil))))))) .skip)))
abbrev F__law_bag : Fn := { kind := .fn true, np := 1, nl := 3, body := b__law_bag }
def i__law_bag : Nat := 0
def b__law_quarters : S := (.seq (.asg (.t_n 0) (.lst false (.cons (.tup (.cons (.neg (.c (.int 1))) (.cons (.c (.int 0)) (.cons (.c (.int 0)) .nil)))) (.cons (.tup (.cons (.c (.int 0)) (.cons (.neg (.c (.int 1))) (.cons (.c (.int 0)) .nil)))) (.cons (.tup (.cons (.c (.int 0)) (.cons (.c (.int 0)) (.cons (.neg (.c (.int 1))) .nil)))) (.cons (.tup (.cons (.c (.int 0)) (.cons (.c (.int 0)) (.cons (.c (.int 1)) .nil)))) (.cons (.tup (.cons (.c (.int 0)) (.cons (.c (.int 1)) (.cons (.c (.int 0)) .nil)))) (.cons (.tup (.cons (.c (.int 1)) (.cons (.c (.int 0)) (.cons (.c (.int 0)) .nil)))) .nil)))))))) (.seq (.asg (.t_n 1) (.lst true .nil)) (.seq (.loop (.t_t (.cons (.t_n 2) (.cons (.t_n 3) (.cons (.t_n 4) .nil)))) (.i_e (.v 0)) (.seq (.loop (.t_t (.cons (.t_n 5) (.cons (.t_n 6) (.cons (.t_n 7) .nil)))) (.i_e (.v 0)) (.seq (.ite (.cmp .Eq (.bin .Add false (.bin .Add false (.bin .Mult false (.v 2) (.v 5)) (.bin .Mult false (.v 3) (.v 6))) (.bin .Mult false (.v 4) (.v 7))) (.c (.int 0))) (.seq (.ex (.bm .append (.v 1) (.cons (.lst false (.cons (.tup (.cons (.v 2) (.cons (.v 3) (.cons (.v 4) .nil)))) (.cons (.tup (.cons (.v 5) (.cons (.v 6) (.cons (.v 7) .nil)))) (.cons (.tup (.cons (.bin .Sub false (.bin .Mult false (.v 3) (.v 7)) (.bin .Mult false (.v 4) (.v 6))) (.cons (.bin .Sub false (.bin .Mult false (.v 4) (.v 5)) (.bin .Mult false (.v 2) (.v 7))) (.cons (.bin .Sub false (.bin .Mult false (.v 2) (.v 6)) (.bin .Mult false (.v 3) (.v 5))) .nil)))) .nil)))) .nil))) .skip) .skip) .skip)) .skip)) (.seq (.ret (.v 1)) .skip))))
abbrev F__law_quarters : Fn := { kind := .fn true, np := 0, nl := 8, body := b__law_quarters }
def i__law_quarters : Nat := 1
def b__law_same : S := (.seq (.ite (.isi (.v 1) [.list, .tuple]) (.seq (.ite (.bor (.cmp .NotEq (.isi (.v 0) [.list]) (.isi (.v 1) [.list])) (.b1 (.cmp .NotEq (.isi (.v 0) [.tuple]) (.isi (.v 1) [.tuple])))) (.seq (.ret (.c (.bl false))) .skip) .skip) (.seq (.ret (.band (.cmp .Eq (.blt false .len (.cons (.v 0) .nil)) (.blt false .len (.cons (.v 1) .nil))) (.b1 (.blt false .all (.cons (.comp false [2] (.t_n 2) (.i_r1 (.blt false .len (.cons (.v 1) .nil))) .nil (.call false 2 (.cons (.ix (.v 0) (.v 2)) (.cons (.ix (.v 1) (.v 2)) .nil)))) .nil))))) .skip)) .skip) (.seq (.ite (.bor (.cmp .Is (.v 1) (.c .non)) (.b1 (.cmp .Is (.v 0) (.c .non)))) (.seq (.ret (.band (.cmp .Is (.v 0) (.c .non)) (.b1 (.cmp .Is (.v 1) (.c .non))))) .skip) .skip) (.seq (.ite (.bor (.cmp .NotEq (.isi (.v 1) [.bool]) (.isi (.v 0) [.bool])) (.b1 (.cmp .NotEq (.isi (.v 1) [.int]) (.isi (.v 0) [.int])))) (.seq (.ret (.c (.bl false))) .skip) .skip) (.seq (.ret (.band (.cmp .Eq (.isi (.v 1) [.str]) (.isi (.v 0) [.str])) (.b1 (.cmp .Eq (.v 0) (.v 1))))) .skip))))
abbrev F__law_same : Fn := { kind := .fn true, np := 2, nl := 3, body := b__law_same }
def i__law_same : Nat := 2
def b_quarter_rows : S := (.seq (.ex (.call false 12 (.cons (.v 0) .nil))) (.seq (.ret (.comp true [1] (.t_n 1) (.i_e (.call false 13 (.cons (.v 0) .nil))) .nil (.ix (.g 2) (.v 1)))) .skip))
abbrev F_quarter_rows : Fn := { kind := .fn true, np := 1, nl := 2, body := b_quarter_rows }
def i_quarter_rows : Nat := 3
def b__law_pull : S := (.seq (.ite (.band (.cmp .Eq (.ix (.v 0) (.c (.int 2))) (.c (.int 0))) (.b1 (.cmp .Lt (.ix (.v 0) (.c (.int 1))) (.blt false .len (.cons (.ix (.v 0) (.c (.int 0))) .nil))))) (.seq (.asg (.t_n 2) (.ix (.ix (.v 0) (.c (.int 0))) (.ix (.v 0) (.c (.int 1))))) (.seq (.asg (.t_s (.v 0) (.c (.int 1))) (.bin .Add false (.ix (.v 0) (.c (.int 1))) (.c (.int 1)))) (.seq (.ite (.cmp .GtE (.v 2) (.bin .Pow false (.c (.int 10)) (.c (.int 18)))) (.seq (.asg (.t_s (.v 0) (.c (.int 2))) (.v 2)) .skip) (.seq (.asg (.t_s (.v 0) (.c (.int 3))) (.bin .Mod false (.blt false .int (.cons (.bin .Add false (.bin .Add false (.bin .Mult false (.ix (.v 0) (.c (.int 3))) (.c (.int 40127))) (.bin .Mod false (.blt false .int (.cons (.v 2) .nil)) (.c (.int 2147483543)))) (.c (.int 19))) .nil)) (.c (.int 2147483647)))) .skip)) .skip))) .skip) (.seq (.ite (.cmp .Gt (.ix (.v 0) (.c (.int 2))) (.c (.int 0))) (.seq (.asg (.t_n 3) (.bin .Mod false (.blt false .int (.cons (.ix (.v 0) (.c (.int 2))) .nil)) (.v 1))) (.seq (.asg (.t_s (.v 0) (.c (.int 2))) (.bin .FloorDiv false (.ix (.v 0) (.c (.int 2))) (.v 1))) (.seq (.ret (.v 3)) .skip))) .skip) (.seq (.asg (.t_s (.v 0) (.c (.int 4))) (.bin .Add false (.ix (.v 0) (.c (.int 4))) (.c (.int 1)))) (.seq (.asg (.t_n 4) (.bin .Mod false (.blt false .int (.cons (.bin .Add false (.ix (.v 0) (.c (.int 3))) (.bin .Mult false (.ix (.v 0) (.c (.int 4))) (.c (.int 8209)))) .nil)) (.c (.int 2147483647)))) (.seq (.asg (.t_s (.v 0) (.c (.int 3))) (.bin .Mod false (.blt false .int (.cons (.bin .Add false (.bin .Add false (.bin .Pow false (.v 4) (.c (.int 3))) (.bin .Mult false (.c (.int 28657)) (.v 4))) (.c (.int 3319))) .nil)) (.c (.int 2147483647)))) (.seq (.ret (.bin .Mod false (.blt false .int (.cons (.bin .Add false (.bin .FloorDiv false (.ix (.v 0) (.c (.int 3))) (.c (.int 71))) (.bin .Mult false (.bin .Mod false (.blt false .int (.cons (.ix (.v 0) (.c (.int 3))) .nil)) (.c (.int 7907))) (.c (.int 43)))) .nil)) (.v 1))) .skip))))))
abbrev F__law_pull : Fn := { kind := .fn false, np := 2, nl := 5, body := b__law_pull }
def i__law_pull : Nat := 4
def b_quarter_spin : S := (.seq (.par [1, 2] (.cons (.call false 3 (.cons (.v 0) .nil)) (.cons (.tup (.cons (.neg (.c (.int 1))) (.cons (.c (.int 0)) (.cons (.c (.int 1)) .nil)))) .nil))) (.seq (.loop (.t_n 3) (.i_e (.tup (.cons (.c (.int 1)) (.cons (.c (.int 2)) (.cons (.c (.int 4)) .nil))))) (.seq (.loop (.t_n 4) (.i_e (.tup (.cons (.c (.int 0)) (.cons (.c (.int 1)) .nil)))) (.seq (.loop (.t_n 5) (.i_e (.v 2)) (.seq (.loop (.t_n 6) (.i_e (.v 2)) (.seq (.loop (.t_n 7) (.i_e (.v 2)) (.seq (.asg (.t_n 8) (.tup (.cons (.v 4) (.cons (.v 5) (.cons (.v 6) (.cons (.v 7) .nil)))))) (.seq (.asg (.t_n 9) (.comp false [10] (.t_n 10) (.i_e (.v 1)) .nil (.blt false .tuple (.cons (.comp false [11] (.t_n 11) (.i_e (.v 10)) .nil (.bin .Mult false (.v 3) (.v 11))) .nil)))) (.seq (.ite (.band (.cmp .Eq (.call false 14 (.cons (.v 8) .nil)) (.v 3)) (.band (.cmp .Eq (.call false 15 (.cons (.v 8) .nil)) (.v 8)) (.b1 (.cmp .Eq (.call false 16 (.cons (.v 8) .nil)) (.v 9))))) (.seq (.ret (.v 8)) .skip) .skip) .skip)))) .skip)) .skip)) .skip)) .skip)) (.seq (.ret (.g 3)) .skip)))
abbrev F_quarter_spin : Fn := { kind := .fn true, np := 1, nl := 12, body := b_quarter_spin }
def i_quarter_spin : Nat := 5
def b__law_norm : S := (.seq (.ret (.blt true .sum (.cons (.comp false [1] (.t_n 1) (.i_e (.v 0)) .nil (.bin .Mult false (.v 1) (.v 1))) .nil))) .skip)
abbrev F__law_norm : Fn := { kind := .fn true, np := 1, nl := 2, body := b__law_norm }
def i__law_norm : Nat := 6
def b__law_table : S := (.seq (.asg (.t_t (.cons (.t_n 1) (.cons (.t_n 2) (.cons (.t_n 3) (.cons (.t_n 4) .nil))))) (.v 0)) (.seq (.ret (.lst true (.cons (.tup (.cons (.bin .Sub false (.bin .Sub false (.bin .Add false (.bin .Mult false (.v 1) (.v 1)) (.bin .Mult false (.v 2) (.v 2))) (.bin .Mult false (.v 3) (.v 3))) (.bin .Mult false (.v 4) (.v 4))) (.cons (.bin .Mult false (.c (.int 2)) (.bin .Sub false (.bin .Mult false (.v 2) (.v 3)) (.bin .Mult false (.v 1) (.v 4)))) (.cons (.bin .Mult false (.c (.int 2)) (.bin .Add false (.bin .Mult false (.v 2) (.v 4)) (.bin .Mult false (.v 1) (.v 3)))) .nil)))) (.cons (.tup (.cons (.bin .Mult false (.c (.int 2)) (.bin .Add false (.bin .Mult false (.v 2) (.v 3)) (.bin .Mult false (.v 1) (.v 4)))) (.cons (.bin .Sub false (.bin .Add false (.bin .Sub false (.bin .Mult false (.v 1) (.v 1)) (.bin .Mult false (.v 2) (.v 2))) (.bin .Mult false (.v 3) (.v 3))) (.bin .Mult false (.v 4) (.v 4))) (.cons (.bin .Mult false (.c (.int 2)) (.bin .Sub false (.bin .Mult false (.v 3) (.v 4)) (.bin .Mult false (.v 1) (.v 2)))) .nil)))) (.cons (.tup (.cons (.bin .Mult false (.c (.int 2)) (.bin .Sub false (.bin .Mult false (.v 2) (.v 4)) (.bin .Mult false (.v 1) (.v 3)))) (.cons (.bin .Mult false (.c (.int 2)) (.bin .Add false (.bin .Mult false (.v 3) (.v 4)) (.bin .Mult false (.v 1) (.v 2)))) (.cons (.bin .Add false (.bin .Sub false (.bin .Sub false (.bin .Mult false (.v 1) (.v 1)) (.bin .Mult false (.v 2) (.v 2))) (.bin .Mult false (.v 3) (.v 3))) (.bin .Mult false (.v 4) (.v 4))) .nil)))) .nil))))) .skip))
abbrev F__law_table : Fn := { kind := .fn true, np := 1, nl := 5, body := b__law_table }
def i__law_table : Nat := 7
def b__law_scaled : S := (.seq (.ret (.comp true [2] (.t_n 2) (.i_e (.v 0)) .nil (.blt false .tuple (.cons (.comp false [3] (.t_n 3) (.i_e (.v 2)) .nil (.bin .Mult false (.v 3) (.v 1))) .nil)))) .skip)
abbrev F__law_scaled : Fn := { kind := .fn true, np := 2, nl := 4, body := b__law_scaled }
def i__law_scaled : Nat := 8
def b__law_of : S := (.seq (.ret (.ix (.v 1) (.call false 4 (.cons (.v 0) (.cons (.blt false .len (.cons (.v 1) .nil)) .nil))))) .skip)
abbrev F__law_of : Fn := { kind := .fn false, np := 2, nl := 2, body := b__law_of }
def i__law_of : Nat := 9
def b_check_quarter : S := (.seq (.ite (.bnot (.chain .LtE .Lt (.c (.int 0)) (.v 0) (.g 0))) (.seq (.rais 0 (.cons (.v 0) .nil)) .skip) .skip) .skip)
abbrev F_check_quarter : Fn := { kind := .fn true, np := 1, nl := 1, body := b_check_quarter }
def i_check_quarter : Nat := 10
def b_sides : S := (.seq (.asg (.t_n 1) (.bin .FloorDiv false (.v 0) (.c (.int 4)))) (.seq (.asg (.t_n 2) (.ix (.call false 17 (.cons (.v 1) .nil)) (.bin .Mod false (.v 0) (.c (.int 4))))) (.seq (.ret (.tup (.cons (.v 1) (.cons (.v 2) (.cons (.call false 18 (.cons (.v 1) (.cons (.v 2) .nil))) .nil))))) .skip)))
abbrev F_sides : Fn := { kind := .fn true, np := 1, nl := 3, body := b_sides }
def i_sides : Nat := 11
def b_norm : S := (.seq (.ret (.blt true .sum (.cons (.comp false [1] (.t_n 1) (.i_e (.v 0)) .nil (.bin .Mult false (.v 1) (.v 1))) .nil))) .skip)
abbrev F_norm : Fn := { kind := .fn true, np := 1, nl := 2, body := b_norm }
def i_norm : Nat := 12
def b_primitive : S := (.seq (.asg (.t_n 1) (.c (.int 0))) (.seq (.loop (.t_n 2) (.i_e (.v 0)) (.seq (.asg (.t_n 1) (.call false 19 (.cons (.v 1) (.cons (.v 2) .nil)))) .skip)) (.seq (.ite (.cmp .Eq (.v 1) (.c (.int 0))) (.seq (.rais 1 .nil) .skip) .skip) (.seq (.ite (.cmp .Lt (.ix (.comp false [2] (.t_n 2) (.i_e (.v 0)) (.cons (.cmp .NotEq (.v 2) (.c (.int 0))) .nil) (.v 2)) (.c (.int 0))) (.c (.int 0))) (.seq (.asg (.t_n 1) (.neg (.v 1))) .skip) .skip) (.seq (.ret (.blt true .tuple (.cons (.comp false [2] (.t_n 2) (.i_e (.v 0)) .nil (.bin .FloorDiv false (.v 2) (.v 1))) .nil))) .skip)))))
abbrev F_primitive : Fn := { kind := .fn true, np := 1, nl := 3, body := b_primitive }
def i_primitive : Nat := 13
def b_table_of : S := (.seq (.asg (.t_t (.cons (.t_n 1) (.cons (.t_n 2) (.cons (.t_n 3) (.cons (.t_n 4) .nil))))) (.v 0)) (.seq (.ret (.lst true (.cons (.tup (.cons (.bin .Sub false (.bin .Sub false (.bin .Add false (.bin .Mult false (.v 1) (.v 1)) (.bin .Mult false (.v 2) (.v 2))) (.bin .Mult false (.v 3) (.v 3))) (.bin .Mult false (.v 4) (.v 4))) (.cons (.bin .Mult false (.c (.int 2)) (.bin .Sub false (.bin .Mult false (.v 2) (.v 3)) (.bin .Mult false (.v 1) (.v 4)))) (.cons (.bin .Mult false (.c (.int 2)) (.bin .Add false (.bin .Mult false (.v 2) (.v 4)) (.bin .Mult false (.v 1) (.v 3)))) .nil)))) (.cons (.tup (.cons (.bin .Mult false (.c (.int 2)) (.bin .Add false (.bin .Mult false (.v 2) (.v 3)) (.bin .Mult false (.v 1) (.v 4)))) (.cons (.bin .Sub false (.bin .Add false (.bin .Sub false (.bin .Mult false (.v 1) (.v 1)) (.bin .Mult false (.v 2) (.v 2))) (.bin .Mult false (.v 3) (.v 3))) (.bin .Mult false (.v 4) (.v 4))) (.cons (.bin .Mult false (.c (.int 2)) (.bin .Sub false (.bin .Mult false (.v 3) (.v 4)) (.bin .Mult false (.v 1) (.v 2)))) .nil)))) (.cons (.tup (.cons (.bin .Mult false (.c (.int 2)) (.bin .Sub false (.bin .Mult false (.v 2) (.v 4)) (.bin .Mult false (.v 1) (.v 3)))) (.cons (.bin .Mult false (.c (.int 2)) (.bin .Add false (.bin .Mult false (.v 3) (.v 4)) (.bin .Mult false (.v 1) (.v 2)))) (.cons (.bin .Add false (.bin .Sub false (.bin .Sub false (.bin .Mult false (.v 1) (.v 1)) (.bin .Mult false (.v 2) (.v 2))) (.bin .Mult false (.v 3) (.v 3))) (.bin .Mult false (.v 4) (.v 4))) .nil)))) .nil))))) .skip))
abbrev F_table_of : Fn := { kind := .fn true, np := 1, nl := 5, body := b_table_of }
def i_table_of : Nat := 14
def b_others_of : S := (.seq (.ret (.comp true [1] (.t_n 1) (.i_r1 (.c (.int 6))) (.cons (.cmp .NotIn (.v 1) (.tup (.cons (.v 0) (.cons (.bin .Sub false (.c (.int 5)) (.v 0)) .nil)))) .nil) (.v 1))) .skip)
abbrev F_others_of : Fn := { kind := .fn true, np := 1, nl := 2, body := b_others_of }
def i_others_of : Nat := 15
def b_cross : S := (.seq (.asg (.t_t (.cons (.t_n 2) (.cons (.t_n 3) (.cons (.t_n 4) .nil)))) (.ix (.g 2) (.v 0))) (.seq (.asg (.t_t (.cons (.t_n 5) (.cons (.t_n 6) (.cons (.t_n 7) .nil)))) (.ix (.g 2) (.v 1))) (.seq (.ret (.bm .index (.g 2) (.cons (.tup (.cons (.bin .Sub false (.bin .Mult false (.v 3) (.v 7)) (.bin .Mult false (.v 4) (.v 6))) (.cons (.bin .Sub false (.bin .Mult false (.v 4) (.v 5)) (.bin .Mult false (.v 2) (.v 7))) (.cons (.bin .Sub false (.bin .Mult false (.v 2) (.v 6)) (.bin .Mult false (.v 3) (.v 5))) .nil)))) .nil))) .skip)))
abbrev F_cross : Fn := { kind := .fn true, np := 2, nl := 8, body := b_cross }
def i_cross : Nat := 16
def b_common_divisor : S := (.seq (.par [0, 1] (.cons (.blt false .abs (.cons (.v 0) .nil)) (.cons (.blt false .abs (.cons (.v 1) .nil)) .nil))) (.seq (.whil (.cmp .Gt (.v 1) (.c (.int 0))) (.seq (.par [0, 1] (.cons (.v 1) (.cons (.bin .Mod false (.v 0) (.v 1)) .nil))) .skip)) (.seq (.ret (.v 0)) .skip)))
abbrev F_common_divisor : Fn := { kind := .fn true, np := 2, nl := 2, body := b_common_divisor }
def i_common_divisor : Nat := 17
def e_lam0 : MV.E := (.call false 3 (.cons (.v 7) .nil))
abbrev F_lam0 : Fn := { kind := .lam [7], np := 0, nl := 11, body := .ret e_lam0 }
def i_lam0 : Nat := 18
def e_lam1 : MV.E := (.call false 5 (.cons (.v 7) .nil))
abbrev F_lam1 : Fn := { kind := .lam [7], np := 0, nl := 11, body := .ret e_lam1 }
def i_lam1 : Nat := 19
def P : Prog := { fns := [F__law_bag, F__law_quarters, F__law_same, F_quarter_rows, F__law_pull, F_quarter_spin, F__law_norm, F__law_table, F__law_scaled, F__law_of, F_check_quarter, F_sides, F_norm, F_primitive, F_table_of, F_others_of, F_cross, F_common_divisor, F_lam0, F_lam1], sh := [⟨0, 1, [.a 0]⟩, ⟨1, 0, []⟩, ⟨2, 2, [.a 0, .a 1]⟩, ⟨3, 1, [.a 0]⟩, ⟨4, 2, [.a 0, .a 1]⟩, ⟨5, 1, [.a 0]⟩, ⟨3, 1, [.a 0]⟩, ⟨5, 1, [.a 0]⟩, ⟨6, 1, [.a 0]⟩, ⟨7, 1, [.a 0]⟩, ⟨8, 2, [.a 0, .a 1]⟩, ⟨9, 2, [.a 0, .a 1]⟩, ⟨10, 1, [.a 0]⟩, ⟨11, 1, [.a 0]⟩, ⟨12, 1, [.a 0]⟩, ⟨13, 1, [.a 0]⟩, ⟨14, 1, [.a 0]⟩, ⟨15, 1, [.a 0]⟩, ⟨16, 2, [.a 0, .a 1]⟩, ⟨17, 2, [.a 0, .a 1]⟩], gl := [(.int 24), (.int 23), (.wtup [(.wtup [(.int (-1)), (.int 0), (.int 0)]), (.wtup [(.int 0), (.int (-1)), (.int 0)]), (.wtup [(.int 0), (.int 0), (.int (-1))]), (.wtup [(.int 0), (.int 0), (.int 1)]), (.wtup [(.int 0), (.int 1), (.int 0)]), (.wtup [(.int 1), (.int 0), (.int 0)])]), (.wtup [(.int 1), (.int 0), (.int 0), (.int 0)])], wd := [], fld := [], nc := 0, xs := [⟨1, [(1, .a 0), (0, .d (.str "InvalidQuarter"))]⟩, ⟨0, [(0, .d (.str "InvalidSpin"))]⟩], xt := 0, xf := [("at", 1), ("most", 2), ("name", 3), ("given", 4), ("first", 5), ("number", 6), ("line", 7)] }
theorem fn_lam0 : P.fns[i_lam0]? = some F_lam0 := rfl
theorem fn_lam1 : P.fns[i_lam1]? = some F_lam1 := rfl
def x_InvalidQuarter : Nat := 0
@[simp] theorem xs_InvalidQuarter : P.xs[0]? = some ⟨1, [(1, .a 0), (0, .d (.str "InvalidQuarter"))]⟩ := (rfl)
def x_InvalidSpin : Nat := 1
@[simp] theorem xs_InvalidSpin : P.xs[1]? = some ⟨0, [(0, .d (.str "InvalidSpin"))]⟩ := (rfl)
theorem fn__law_bag : P.fns[i__law_bag]? = some F__law_bag := rfl
theorem fn__law_quarters : P.fns[i__law_quarters]? = some F__law_quarters := rfl
theorem fn__law_same : P.fns[i__law_same]? = some F__law_same := rfl
theorem fn_quarter_rows : P.fns[i_quarter_rows]? = some F_quarter_rows := rfl
theorem fn__law_pull : P.fns[i__law_pull]? = some F__law_pull := rfl
theorem fn_quarter_spin : P.fns[i_quarter_spin]? = some F_quarter_spin := rfl
theorem fn__law_norm : P.fns[i__law_norm]? = some F__law_norm := rfl
theorem fn__law_table : P.fns[i__law_table]? = some F__law_table := rfl
theorem fn__law_scaled : P.fns[i__law_scaled]? = some F__law_scaled := rfl
theorem fn__law_of : P.fns[i__law_of]? = some F__law_of := rfl
theorem fn_check_quarter : P.fns[i_check_quarter]? = some F_check_quarter := rfl
theorem fn_sides : P.fns[i_sides]? = some F_sides := rfl
theorem fn_norm : P.fns[i_norm]? = some F_norm := rfl
theorem fn_primitive : P.fns[i_primitive]? = some F_primitive := rfl
theorem fn_table_of : P.fns[i_table_of]? = some F_table_of := rfl
theorem fn_others_of : P.fns[i_others_of]? = some F_others_of := rfl
theorem fn_cross : P.fns[i_cross]? = some F_cross := rfl
theorem fn_common_divisor : P.fns[i_common_divisor]? = some F_common_divisor := rfl
@[simp] theorem cj__law_bag_1 (o : Orc) (ad : Bool) (x0 : MV.D) (h : HH) : callJ P o ad 0 [x0] h = (o i__law_bag [x0] h).bd fun r h1 => retD ad r h1 := (rfl)
@[simp] theorem cj__law_quarters_0 (o : Orc) (ad : Bool)  (h : HH) : callJ P o ad 1 [] h = (o i__law_quarters [] h).bd fun r h1 => retD ad r h1 := (rfl)
@[simp] theorem cj__law_same_2 (o : Orc) (ad : Bool) (x0 x1 : MV.D) (h : HH) : callJ P o ad 2 [x0, x1] h = (o i__law_same [x0, x1] h).bd fun r h1 => retD ad r h1 := (rfl)
@[simp] theorem cj_quarter_rows_1 (o : Orc) (ad : Bool) (x0 : MV.D) (h : HH) : callJ P o ad 3 [x0] h = (o i_quarter_rows [x0] h).bd fun r h1 => retD ad r h1 := (rfl)
@[simp] theorem cj__law_pull_2 (o : Orc) (ad : Bool) (x0 x1 : MV.D) (h : HH) : callJ P o ad 4 [x0, x1] h = (o i__law_pull [x0, x1] h).bd fun r h1 => retD ad r h1 := (rfl)
@[simp] theorem cj_quarter_spin_1 (o : Orc) (ad : Bool) (x0 : MV.D) (h : HH) : callJ P o ad 5 [x0] h = (o i_quarter_spin [x0] h).bd fun r h1 => retD ad r h1 := (rfl)
@[simp] theorem cj_quarter_rows_0_quarter (o : Orc) (ad : Bool) (x0 : MV.D) (h : HH) : callJ P o ad 6 [x0] h = (o i_quarter_rows [x0] h).bd fun r h1 => retD ad r h1 := (rfl)
@[simp] theorem cj_quarter_spin_0_quarter (o : Orc) (ad : Bool) (x0 : MV.D) (h : HH) : callJ P o ad 7 [x0] h = (o i_quarter_spin [x0] h).bd fun r h1 => retD ad r h1 := (rfl)
@[simp] theorem cj__law_norm_1 (o : Orc) (ad : Bool) (x0 : MV.D) (h : HH) : callJ P o ad 8 [x0] h = (o i__law_norm [x0] h).bd fun r h1 => retD ad r h1 := (rfl)
@[simp] theorem cj__law_table_1 (o : Orc) (ad : Bool) (x0 : MV.D) (h : HH) : callJ P o ad 9 [x0] h = (o i__law_table [x0] h).bd fun r h1 => retD ad r h1 := (rfl)
@[simp] theorem cj__law_scaled_2 (o : Orc) (ad : Bool) (x0 x1 : MV.D) (h : HH) : callJ P o ad 10 [x0, x1] h = (o i__law_scaled [x0, x1] h).bd fun r h1 => retD ad r h1 := (rfl)
@[simp] theorem cj__law_of_2 (o : Orc) (ad : Bool) (x0 x1 : MV.D) (h : HH) : callJ P o ad 11 [x0, x1] h = (o i__law_of [x0, x1] h).bd fun r h1 => retD ad r h1 := (rfl)
@[simp] theorem cj_check_quarter_1 (o : Orc) (ad : Bool) (x0 : MV.D) (h : HH) : callJ P o ad 12 [x0] h = (o i_check_quarter [x0] h).bd fun r h1 => retD ad r h1 := (rfl)
@[simp] theorem cj_sides_1 (o : Orc) (ad : Bool) (x0 : MV.D) (h : HH) : callJ P o ad 13 [x0] h = (o i_sides [x0] h).bd fun r h1 => retD ad r h1 := (rfl)
@[simp] theorem cj_norm_1 (o : Orc) (ad : Bool) (x0 : MV.D) (h : HH) : callJ P o ad 14 [x0] h = (o i_norm [x0] h).bd fun r h1 => retD ad r h1 := (rfl)
@[simp] theorem cj_primitive_1 (o : Orc) (ad : Bool) (x0 : MV.D) (h : HH) : callJ P o ad 15 [x0] h = (o i_primitive [x0] h).bd fun r h1 => retD ad r h1 := (rfl)
@[simp] theorem cj_table_of_1 (o : Orc) (ad : Bool) (x0 : MV.D) (h : HH) : callJ P o ad 16 [x0] h = (o i_table_of [x0] h).bd fun r h1 => retD ad r h1 := (rfl)
@[simp] theorem cj_others_of_1 (o : Orc) (ad : Bool) (x0 : MV.D) (h : HH) : callJ P o ad 17 [x0] h = (o i_others_of [x0] h).bd fun r h1 => retD ad r h1 := (rfl)
@[simp] theorem cj_cross_2 (o : Orc) (ad : Bool) (x0 x1 : MV.D) (h : HH) : callJ P o ad 18 [x0, x1] h = (o i_cross [x0, x1] h).bd fun r h1 => retD ad r h1 := (rfl)
@[simp] theorem cj_common_divisor_2 (o : Orc) (ad : Bool) (x0 x1 : MV.D) (h : HH) : callJ P o ad 19 [x0, x1] h = (o i_common_divisor [x0, x1] h).bd fun r h1 => retD ad r h1 := (rfl)
abbrev n_tag : Nat := 0
abbrev n_at : Nat := 1
abbrev n_most : Nat := 2
abbrev n_name : Nat := 3
abbrev n_given : Nat := 4
abbrev n_first : Nat := 5
abbrev n_number : Nat := 6
abbrev n_line : Nat := 7
def d_QUARTERS : MV.D := (.int 24)
@[simp] theorem gl_QUARTERS : P.gl[0]? = some d_QUARTERS := (rfl)
def d_STILL : MV.D := (.int 23)
@[simp] theorem gl_STILL : P.gl[1]? = some d_STILL := (rfl)
def d_AXES : MV.D := (.wtup [(.wtup [(.int (-1)), (.int 0), (.int 0)]), (.wtup [(.int 0), (.int (-1)), (.int 0)]), (.wtup [(.int 0), (.int 0), (.int (-1))]), (.wtup [(.int 0), (.int 0), (.int 1)]), (.wtup [(.int 0), (.int 1), (.int 0)]), (.wtup [(.int 1), (.int 0), (.int 0)])])
@[simp] theorem gl_AXES : P.gl[2]? = some d_AXES := (rfl)
def d_ONE : MV.D := (.wtup [(.int 1), (.int 0), (.int 0), (.int 0)])
@[simp] theorem gl_ONE : P.gl[3]? = some d_ONE := (rfl)
end MV.X

set_option maxRecDepth 100000
set_option maxHeartbeats 4000000
namespace MV.X
open MV
open PySem (Str Operator)
/-! common ground -/
structure Sp where
  (a b c d : Int)
  deriving DecidableEq
def Sp.D (s : Sp) : D := .tup [.int s.a, .int s.b, .int s.c, .int s.d]
def Sp.W (s : Sp) : MV.D := .wtup [.int s.a, .int s.b, .int s.c, .int s.d]
def LT5 : List Sp := [⟨1, (-2), 0, 0⟩, ⟨1, 0, (-2), 0⟩, ⟨1, 0, 0, (-2)⟩, ⟨1, 0, 0, 2⟩, ⟨1, 0, 2, 0⟩, ⟨1, 2, 0, 0⟩]
def LT13 : List Sp := [⟨1, (-2), (-2), (-2)⟩, ⟨1, (-2), (-2), 2⟩, ⟨1, (-2), 2, (-2)⟩, ⟨1, (-2), 2, 2⟩, ⟨1, 2, (-2), (-2)⟩, ⟨1, 2, (-2), 2⟩, ⟨1, 2, 2, (-2)⟩, ⟨1, 2, 2, 2⟩, ⟨3, (-2), 0, 0⟩, ⟨3, 0, (-2), 0⟩, ⟨3, 0, 0, (-2)⟩, ⟨3, 0, 0, 2⟩, ⟨3, 0, 2, 0⟩, ⟨3, 2, 0, 0⟩]
def LT17 : List Sp := [⟨1, (-4), 0, 0⟩, ⟨1, 0, (-4), 0⟩, ⟨1, 0, 0, (-4)⟩, ⟨1, 0, 0, 4⟩, ⟨1, 0, 4, 0⟩, ⟨1, 4, 0, 0⟩, ⟨3, (-2), (-2), 0⟩, ⟨3, (-2), 0, (-2)⟩, ⟨3, (-2), 0, 2⟩, ⟨3, (-2), 2, 0⟩, ⟨3, 0, (-2), (-2)⟩, ⟨3, 0, (-2), 2⟩, ⟨3, 0, 2, (-2)⟩, ⟨3, 0, 2, 2⟩, ⟨3, 2, (-2), 0⟩, ⟨3, 2, 0, (-2)⟩, ⟨3, 2, 0, 2⟩, ⟨3, 2, 2, 0⟩]
def LT29 : List Sp := [⟨3, (-4), (-2), 0⟩, ⟨3, (-4), 0, (-2)⟩, ⟨3, (-4), 0, 2⟩, ⟨3, (-4), 2, 0⟩, ⟨3, (-2), (-4), 0⟩, ⟨3, (-2), 0, (-4)⟩, ⟨3, (-2), 0, 4⟩, ⟨3, (-2), 4, 0⟩, ⟨3, 0, (-4), (-2)⟩, ⟨3, 0, (-4), 2⟩, ⟨3, 0, (-2), (-4)⟩, ⟨3, 0, (-2), 4⟩, ⟨3, 0, 2, (-4)⟩, ⟨3, 0, 2, 4⟩, ⟨3, 0, 4, (-2)⟩, ⟨3, 0, 4, 2⟩, ⟨3, 2, (-4), 0⟩, ⟨3, 2, 0, (-4)⟩, ⟨3, 2, 0, 4⟩, ⟨3, 2, 4, 0⟩, ⟨3, 4, (-2), 0⟩, ⟨3, 4, 0, (-2)⟩, ⟨3, 4, 0, 2⟩, ⟨3, 4, 2, 0⟩, ⟨5, (-2), 0, 0⟩, ⟨5, 0, (-2), 0⟩, ⟨5, 0, 0, (-2)⟩, ⟨5, 0, 0, 2⟩, ⟨5, 0, 2, 0⟩, ⟨5, 2, 0, 0⟩]
def LT (p : Int) : List Sp := if p = 5 then LT5 else if p = 13 then LT13 else if p = 17 then LT17 else if p = 29 then LT29 else []
def IsP (p : Int) : Prop := p = 5 ∨ p = 13 ∨ p = 17 ∨ p = 29
theorem lend2 {h : HH} {x y : MV.D} (a : x.flat = true) (b : y.flat = true) (hx : lend h x = some x) (hy : lend h y = some y) : lends h [x, y] = some [x, y] := by
  simp [lends, hx, hy]
theorem ans_of {k i : Nat} {es : List MV.D} {f : Fn} {d : MV.D} {h1 : HH} {r : Ret} (e1 : P.fns[i]? = some f) (e2 : f.kind = .fn true) (e3 : (es.length == f.np) = true) (e4 : MV.run P (callN P k) f.body (startE f.nl es) [] = .rt d h1) (e5 : takeOut d h1 = some r) : Ans P k i es r := ⟨f, d, h1, e1, e2, body_rt e3 e4, e5⟩
theorem small_nat {k : Nat} (h : k < 2 ^ 62) : smallI (k : Int) = true := by
  unfold smallI
  simp
  omega
theorem range_len (k : Nat) : (rangeL 0 (k : Int)).length = k := by
  unfold rangeL
  simp
def cmpE : S → E
  | .seq (.asg _ e) _ => e
  | _ => .nil
def elE : E → E
  | .comp _ _ _ _ _ el => el
  | e => e
/-- the body of a def's one loop -/
def lpB : S → S
  | .seq _ (.seq (.loop _ _ b) _) => b
  | s => s
def ansF (P : Prog) (k i : Nat) (es : List MV.D) : Option Ret := match P.fns[i]? with
  | some f => (match f.kind with
    | .fn true => (match body P (callN P k) f es [] with
      | .ok d h1 => takeOut d h1
      | _ => none)
    | _ => none)
  | none => none
theorem ans_by {P : Prog} {k i : Nat} {es : List MV.D} {r : Ret} (h : ansF P k i es = some r) : Ans P k i es r := by
  unfold ansF at h
  split at h
  · rename_i f e1
    split at h
    · rename_i e2
      split at h
      · rename_i d h1 e3
        exact ⟨f, d, h1, e1, e2, e3, h⟩
      · cases h
    · cases h
  · cases h
def UD5 : List Nat := [5, 4, 3, 2, 1, 0]
def UD13 : List Nat := [7, 6, 5, 4, 3, 2, 1, 0, 13, 12, 11, 10, 9, 8]
def UD17 : List Nat := [5, 4, 3, 2, 1, 0, 17, 16, 15, 14, 13, 12, 11, 10, 9, 8, 7, 6]
def UD29 : List Nat := [23, 22, 21, 20, 19, 18, 17, 16, 15, 14, 13, 12, 11, 10, 9, 8, 7, 6, 5, 4, 3, 2, 1, 0, 29, 28, 27, 26, 25, 24]
def UD (p : Int) : List Nat := if p = 5 then UD5 else if p = 13 then UD13 else if p = 17 then UD17 else if p = 29 then UD29 else []
/-- the letter that undoes a letter -/
def un (p : Int) (l : Nat) : Nat := (UD p).getD l 0
def ifsE : E → E
  | .comp _ _ _ _ ifs _ => ifs
  | e => e

end MV.X

set_option maxRecDepth 100000
set_option maxHeartbeats 4000000
namespace MV.X
open MV
open PySem (Str Operator)
/-! the bag of drawn numbers -/
def bagO (cells : List Int) (i : Nat) (big salt cnt : Int) : O := .lst [.lst (cells.map D.int), .int i, .int big, .int salt, .int cnt]
theorem bag_ix0 {W : Wds} {h : HH} {n : Nat} {cells : List Int} {i : Nat} {big salt cnt : Int} (e : h[n]? = some (bagO cells i big salt cnt)) : itemD W (.ref n) (.int 0) h = some (.lst (cells.map D.int)) := by
  rw [it_ref e]; rfl
theorem bag_ix1 {W : Wds} {h : HH} {n : Nat} {cells : List Int} {i : Nat} {big salt cnt : Int} (e : h[n]? = some (bagO cells i big salt cnt)) : itemD W (.ref n) (.int 1) h = some (.int i) := by
  rw [it_ref e]; rfl
theorem bag_ix2 {W : Wds} {h : HH} {n : Nat} {cells : List Int} {i : Nat} {big salt cnt : Int} (e : h[n]? = some (bagO cells i big salt cnt)) : itemD W (.ref n) (.int 2) h = some (.int big) := by
  rw [it_ref e]; rfl
theorem bag_ix3 {W : Wds} {h : HH} {n : Nat} {cells : List Int} {i : Nat} {big salt cnt : Int} (e : h[n]? = some (bagO cells i big salt cnt)) : itemD W (.ref n) (.int 3) h = some (.int salt) := by
  rw [it_ref e]; rfl
theorem bag_ix4 {W : Wds} {h : HH} {n : Nat} {cells : List Int} {i : Nat} {big salt cnt : Int} (e : h[n]? = some (bagO cells i big salt cnt)) : itemD W (.ref n) (.int 4) h = some (.int cnt) := by
  rw [it_ref e]; rfl
theorem bag_s1 {h : HH} {n : Nat} {cells : List Int} {i : Nat} {big salt cnt : Int} (e : h[n]? = some (bagO cells i big salt cnt)) : setD (.ref n) (.int 1) (.int ((i : Int) + 1)) h = some (h.set n (bagO cells (i + 1) big salt cnt)) := by
  unfold setD; simp only [e, bagO]; rfl
theorem bag_s2 {h : HH} {n : Nat} {cells : List Int} {i : Nat} {big salt cnt z : Int} (e : h[n]? = some (bagO cells i big salt cnt)) : setD (.ref n) (.int 2) (.int z) h = some (h.set n (bagO cells i z salt cnt)) := by
  unfold setD; simp only [e, bagO]; rfl
theorem bag_s3 {h : HH} {n : Nat} {cells : List Int} {i : Nat} {big salt cnt z : Int} (e : h[n]? = some (bagO cells i big salt cnt)) : setD (.ref n) (.int 3) (.int z) h = some (h.set n (bagO cells i big z cnt)) := by
  unfold setD; simp only [e, bagO]; rfl
theorem bag_s4 {h : HH} {n : Nat} {cells : List Int} {i : Nat} {big salt cnt z : Int} (e : h[n]? = some (bagO cells i big salt cnt)) : setD (.ref n) (.int 4) (.int z) h = some (h.set n (bagO cells i big salt z)) := by
  unfold setD; simp only [e, bagO]; rfl
/-- a bag that is well, from which at most c numbers were mixed -/
def BagAt (h : HH) (n c : Nat) : Prop := ∃ (cells : List Int) (i : Nat) (big salt cnt : Int), h[n]? = some (bagO cells i big salt cnt) ∧ cells.length ≤ 63 ∧ 0 ≤ big ∧ 0 ≤ salt ∧ salt < 2147483647 ∧ 0 ≤ cnt ∧ cnt ≤ c
theorem fm_lo (a : Int) {b : Int} (h : 0 < b) : 0 ≤ a.fmod b := Int.fmod_nonneg_of_pos a h
theorem fm_hi (a : Int) {b : Int} (h : 0 < b) : a.fmod b < b := Int.fmod_lt_of_pos a h
theorem powOk18 : powOk 10 18 = true := by decide
theorem bdi {k : Nat} {i : Int} (h1 : 0 ≤ i) (h2 : i < 2 ^ k) : Bd k i := by
  unfold Bd
  have : ((i.natAbs : Nat) : Int) < ((2 ^ k : Nat) : Int) := by
    rw [Int.natAbs_of_nonneg h1]
    exact_mod_cast h2
  exact_mod_cast this
theorem get_set {h : HH} {n : Nat} {o x : O} (e : h[n]? = some x) : (h.set n o)[n]? = some o := List.getElem?_set_self (List.getElem?_eq_some_iff.mp e).1
/-- the first part: a new cell is taken -/
theorem pull_1 {o : Orc} {h : HH} {n c : Nat} {k : D} {x2 x3 x4 : Option D} (b : BagAt h n c) : ∃ x2' bo, run P o (.ite (.band (.cmp .Eq (.ix (.v 0) (.c (.int 2))) (.c (.int 0))) (.b1 (.cmp .Lt (.ix (.v 0) (.c (.int 1))) (.blt false .len (.cons (.ix (.v 0) (.c (.int 0))) .nil))))) (.seq (.asg (.t_n 2) (.ix (.ix (.v 0) (.c (.int 0))) (.ix (.v 0) (.c (.int 1))))) (.seq (.asg (.t_s (.v 0) (.c (.int 1))) (.bin .Add false (.ix (.v 0) (.c (.int 1))) (.c (.int 1)))) (.seq (.ite (.cmp .GtE (.v 2) (.bin .Pow false (.c (.int 10)) (.c (.int 18)))) (.seq (.asg (.t_s (.v 0) (.c (.int 2))) (.v 2)) .skip) (.seq (.asg (.t_s (.v 0) (.c (.int 3))) (.bin .Mod false (.blt false .int (.cons (.bin .Add false (.bin .Add false (.bin .Mult false (.ix (.v 0) (.c (.int 3))) (.c (.int 40127))) (.bin .Mod false (.blt false .int (.cons (.v 2) .nil)) (.c (.int 2147483543)))) (.c (.int 19))) .nil)) (.c (.int 2147483647)))) .skip)) .skip))) .skip) [some (.ref n), some k, x2, x3, x4] h = .nx [some (.ref n), some k, x2', x3, x4] (h.set n bo) ∧ BagAt (h.set n bo) n c := by
  obtain ⟨cells, i, big, salt, cnt, e, h1, h2, h3, h4, h5, h6⟩ := b
  by_cases hb : big = 0
  · subst hb
    by_cases hi : i < cells.length
    · have ei : ixAt cells.length (i : Int) = some i := ixAt_nat hi
      have gi : cells[i]? = some cells[i] := List.getElem?_eq_getElem hi
      have e1 : ∀ o, (h.set n o)[n]? = some o := fun o => get_set e
      by_cases hc : (1000000000000000000 : Int) ≤ cells[i]
      · refine ⟨some (.int cells[i]), bagO cells (i + 1) cells[i] salt cnt, ?_, cells, i + 1, cells[i], salt, cnt, e1 _, h1, ?_, h3, h4, h5, h6⟩
        · simp [bag_ix2 e, bag_ix1 e, bag_ix0 e, hi, ei, gi, bag_s1 e, powD, powOk18, hc, bag_s2 (e1 _)]
        · omega
      · refine ⟨some (.int cells[i]), bagO cells (i + 1) 0 ((salt * 40127 + cells[i].fmod 2147483543 + 19).fmod 2147483647) cnt, ?_, cells, i + 1, 0, _, cnt, e1 _, h1, by omega, fm_lo _ (by decide), fm_hi _ (by decide), h5, h6⟩
        have mo : mulOk salt 40127 = true := Bd.ok (bdi (k := 40) h3 (by omega)) (bdi (k := 40) (by decide) (by decide))
        simp [bag_ix2 e, bag_ix1 e, bag_ix0 e, hi, ei, gi, bag_s1 e, powD, powOk18, hc, bag_ix3 (e1 _), bag_s3 (e1 _), mo]
    · refine ⟨x2, bagO cells i 0 salt cnt, ?_, cells, i, 0, salt, cnt, get_set e, h1, h2, h3, h4, h5, h6⟩
      have es : h.set n (bagO cells i 0 salt cnt) = h := by
        rw [← (List.getElem?_eq_some_iff.mp e).2]
        exact List.set_getElem_self _
      simp [bag_ix2 e, bag_ix1 e, bag_ix0 e, hi, es]
  · refine ⟨x2, bagO cells i big salt cnt, ?_, cells, i, big, salt, cnt, get_set e, h1, h2, h3, h4, h5, h6⟩
    have es : h.set n (bagO cells i big salt cnt) = h := by
      rw [← (List.getElem?_eq_some_iff.mp e).2]
      exact List.set_getElem_self _
    simp [bag_ix2 e, hb, es]
theorem divOk_sides {k : Int} (h1 : 0 < k) (h2 : k < 2 ^ 62) : divOk k = true := by
  unfold divOk
  have : Bd 62 k := bdi (by omega) h2
  have := log2_lt_of this
  rw [show (k != 0) = true by simp; omega, Bool.true_and]
  exact Nat.ble_eq_true_of_le (by omega)
theorem fdiv_lo {a b : Int} (h1 : 0 ≤ a) (h2 : 0 < b) : 0 ≤ a.fdiv b := Int.fdiv_nonneg h1 (by omega)
/-- a number is drawn -/
theorem pull_ok {m : Nat} {h : HH} {n c : Nat} {k : Int} (b : BagAt h n c) (hk : 0 < k) (hk2 : k < 2 ^ 62) (hc : c < 2 ^ 62) : ∃ (r : Int) (bo : O), callN P (m + 1) i__law_pull [.ref n, .int k] h = .ok (.val (.int r)) (h.set n bo) ∧ 0 ≤ r ∧ r < k ∧ BagAt (h.set n bo) n (c + 1) := by
  obtain ⟨x2, b1, e1, w1⟩ := pull_1 (o := callN P m) (k := .int k) (x2 := none) (x3 := none) (x4 := none) b
  obtain ⟨cells, i, big, salt, cnt, e, h1, h2, h3, h4, h5, h6⟩ := w1
  have hkb : (k != 0) = true := by simp; omega
  by_cases hb : 0 < big
  · refine ⟨big.fmod k, bagO cells i (big.fdiv k) salt cnt, callN_sh fn__law_pull rfl (body_rt rfl ?_), fm_lo _ hk, fm_hi _ hk, cells, i, _, salt, cnt, get_set b.choose_spec.choose_spec.choose_spec.choose_spec.choose_spec.1, h1, fdiv_lo h2 hk, h3, h4, h5, by push_cast; omega⟩
    show run P (callN P m) (.seq _ _) [some (.ref n), some (.int k), none, none, none] h = _
    rw [r_seq, e1]
    simp [bag_ix2 e, hb, hkb, divOk_sides hk hk2, bag_s2 e]
  · have hb0 : big = 0 := by omega
    subst hb0
    have e2 := get_set (o := bagO cells i 0 salt (cnt + 1)) e
    have mo1 : mulOk (cnt + 1) 8209 = true := Bd.ok (bdi (k := 63) (by omega) (by omega)) (bdi (k := 20) (by decide) (by decide))
    generalize hs : (salt + (cnt + 1) * 8209).fmod 2147483647 = seed
    have s1 : 0 ≤ seed := by rw [← hs]; exact fm_lo _ (by decide)
    have s2 : seed < 2147483647 := by rw [← hs]; exact fm_hi _ (by decide)
    have po : powOk seed 3 = true := by
      have : Bd 64 seed := bdi s1 (by omega)
      unfold powOk
      unfold Bd at this
      rw [show Nat.blt seed.natAbs (2 ^ 64) = true from Nat.ble_eq_true_of_le this]
      decide
    have mo2 : mulOk 28657 seed = true := Bd.ok (bdi (k := 20) (by decide) (by decide)) (bdi (k := 63) s1 (by omega))
    generalize hs2 : (seed ^ (3 : Nat) + 28657 * seed + 3319).fmod 2147483647 = s3
    have t1 : 0 ≤ s3 := by rw [← hs2]; exact fm_lo _ (by decide)
    have t2 : s3 < 2147483647 := by rw [← hs2]; exact fm_hi _ (by decide)
    have e3 := get_set (o := bagO cells i 0 s3 (cnt + 1)) e2
    have mo3 : mulOk (s3.fmod 7907) 43 = true := Bd.ok (bdi (k := 63) (fm_lo _ (by decide)) (by have := fm_hi s3 (b := 7907) (by decide); omega)) (bdi (k := 20) (by decide) (by decide))
    have dv : divOk 71 = true := divOk_sides (by decide) (by decide)
    rw [List.set_set] at e2 e3
    rw [List.set_set] at e3
    refine ⟨(s3.fdiv 71 + s3.fmod 7907 * 43).fmod k, bagO cells i 0 s3 (cnt + 1), callN_sh fn__law_pull rfl (body_rt rfl ?_), fm_lo _ hk, fm_hi _ hk, cells, i, 0, s3, cnt + 1, e3, h1, by omega, t1, t2, by omega, by push_cast; omega⟩
    show run P (callN P m) (.seq _ _) [some (.ref n), some (.int k), none, none, none] h = _
    rw [r_seq, e1]
    simp [bag_ix2 e, bag_ix4 e, bag_s4 e, bag_ix3 e2, bag_ix4 e2, mo1, hs, po, mo2, hs2, bag_s3 e2, bag_ix3 e3, dv, mo3, hkb]

end MV.X

set_option maxRecDepth 100000
set_option maxHeartbeats 4000000
namespace MV.X
open MV
open PySem (Str Operator)
/-! what is drawn -/
/-- but for the bag at n the heap has only grown -/
def Ch (n : Nat) (h h' : HH) : Prop := h.length ≤ h'.length ∧ ∀ i, i ≠ n → i < h.length → h'[i]? = h[i]?
theorem Ch.refl (n : Nat) (h : HH) : Ch n h h := ⟨Nat.le_refl _, fun _ _ _ => rfl⟩
theorem Ch.trans {n : Nat} {h1 h2 h3 : HH} (a : Ch n h1 h2) (b : Ch n h2 h3) : Ch n h1 h3 := ⟨Nat.le_trans a.1 b.1, fun i hi hl => (b.2 i hi (Nat.lt_of_lt_of_le hl a.1)).trans (a.2 i hi hl)⟩
theorem Ch.set (n : Nat) (h : HH) (o : O) : Ch n h (h.set n o) := ⟨by simp, fun i hi _ => List.getElem?_set_ne (Ne.symm hi)⟩
theorem Ch.app (n : Nat) (h k : HH) : Ch n h (h ++ k) := ⟨by simp, fun i _ hl => List.getElem?_append_left hl⟩
theorem BagAt.app {h : HH} {n c : Nat} (b : BagAt h n c) (k : HH) : BagAt (h ++ k) n c := by
  obtain ⟨cells, i, big, salt, cnt, e, r⟩ := b
  exact ⟨cells, i, big, salt, cnt, by rw [List.getElem?_append_left (List.getElem?_eq_some_iff.mp e).1]; exact e, r⟩
theorem BagAt.le {h : HH} {n c d : Nat} (b : BagAt h n c) (l : c ≤ d) : BagAt h n d := by
  obtain ⟨cells, i, big, salt, cnt, e, h1, h2, h3, h4, h5, h6⟩ := b
  exact ⟨cells, i, big, salt, cnt, e, h1, h2, h3, h4, h5, by omega⟩
theorem BagAt.lt {h : HH} {n c : Nat} (b : BagAt h n c) : n < h.length := by
  obtain ⟨cells, i, big, salt, cnt, e, r⟩ := b
  exact (List.getElem?_eq_some_iff.mp e).1
theorem pull_c {m : Nat} {h : HH} {n c : Nat} {k : Nat} (b : BagAt h n c) (hm : 1 ≤ m) (hk : 0 < k) (hk2 : k < 2 ^ 62) (hc : c < 2 ^ 62) : ∃ (r : Nat) (h' : HH), callN P m i__law_pull [.ref n, .int (k : Nat)] h = .ok (.val (.int (r : Nat))) h' ∧ r < k ∧ BagAt h' n (c + 1) ∧ Ch n h h' ∧ h'.length = h.length := by
  obtain ⟨m, rfl⟩ : ∃ q, m = q + 1 := ⟨m - 1, by omega⟩
  obtain ⟨r, bo, e, h1, h2, h3⟩ := pull_ok (m := m) (k := (k : Int)) b (by omega) (by exact_mod_cast hk2) hc
  refine ⟨r.toNat, _, ?_, by omega, h3, .set n h bo, by simp⟩
  rw [e, Int.toNat_of_nonneg h1]
theorem cut63 {l : List MV.D} (h : l.length ≤ 63) : cutL l none (some 63) = l := by
  show (l.drop 0).take (min (63 : Int).toNat l.length - 0) = l
  rw [List.drop_zero, Nat.sub_zero]
  exact List.take_of_length_le (by show l.length ≤ min 63 l.length; omega)
theorem bag_loop {o : Orc} {x0 : Option MV.D} {H : HH} : ∀ (w : List Int) (salt : Int) (x : Option MV.D), 0 ≤ salt → salt < 2147483647 →
    ∃ x' s', loopL (lf P o (.t_n 2) (lpB b__law_bag)) (w.map D.int) [x0, some (.int salt), x] H = .nx [x0, some (.int s'), x'] H ∧ 0 ≤ s' ∧ s' < 2147483647
  | [], salt, x, h1, h2 => ⟨x, salt, rfl, h1, h2⟩
  | i :: w, salt, x, h1, h2 => by
    obtain ⟨x', s', ih, r⟩ := bag_loop (o := o) (x0 := x0) (H := H) w ((salt * 44021 + i.fmod 2147483549 + 31).fmod 2147483647) (some (.int i)) (fm_lo _ (by decide)) (fm_hi _ (by decide))
    refine ⟨x', s', ?_, r⟩
    rw [← ih, List.map_cons, loopL_cons]
    have mo : mulOk salt 44021 = true := Bd.ok (bdi (k := 40) h1 (by omega)) (bdi (k := 40) (by decide) (by decide))
    simp [lpB, b__law_bag, mo]
theorem flats_int : ∀ w : List Int, D.flats (w.map D.int) = true
  | [] => rfl
  | i :: w => by
    rw [List.map_cons]
    simp only [D.flats, D.flat, flats_int w, Bool.and_true]
theorem bag_call {k : Nat} (hk : 1 ≤ k) {ns : List Int} (hl : ns.length ≤ 63) (h : HH) : ∃ bo, callN P k i__law_bag [.bor (ns.map D.int)] h = .ok (.newl bo) h ∧ BagAt (h ++ [.lst bo]) h.length 0 := by
  obtain ⟨x', s', e, r1, r2⟩ := bag_loop (o := callN P 0) (x0 := some (.bor (ns.map D.int))) (H := []) ns 3837 none (by decide) (by decide)
  refine ⟨[.lst (ns.map D.int), .int 0, .int 0, .int s', .int 0], ?_, ns, 0, 0, s', 0, by simp [bagO], hl, by decide, r1, r2, by decide, by decide⟩
  refine Ans.call (k := 0) ?_ (lends1 (lend_bor (flats_int ns))) hk
  have hline : (ns.map D.int).length ≤ line := by
    rw [List.length_map]
    unfold line
    omega
  refine ans_of fn__law_bag rfl rfl (d := .ref 0) (h1 := [.lst [.lst (ns.map D.int), .int 0, .int 0, .int s', .int 0]]) ?_ ?_
  · simp only [lpB, b__law_bag] at e
    have s1 : ∀ H, sliceD false (.bor (ns.map D.int)) none (some 63) H = .ok (.lst (ns.map D.int)) H := fun H => by
      show mkL false (cutL _ none (some 63)) H = _
      rw [cut63 (by simpa using hl), mkL_f hline]
    have s2 : ∀ H, listD false [.lst (ns.map D.int)] H = .ok (.lst (ns.map D.int)) H := fun H => (list_seq rfl).trans (mkL_f hline)
    simp [F__law_bag, b__law_bag, startE, partD, E.isNil, s1, s2, e]
  · show (if D.flats _ = true then _ else _) = _
    rw [if_pos (by simp [D.flats, D.flat, flats_int])]
theorem of_call {m : Nat} {h : HH} {n c : Nat} {l : List MV.D} (hm : 2 ≤ m) (b : BagAt h n c) (hl : 0 < l.length) (hl2 : l.length < 2 ^ 62) (hc : c < 2 ^ 62) : ∃ (i : Nat) (d : MV.D) (h' : HH), callN P m i__law_of [.ref n, .lst l] h = .ok (.val d) h' ∧ l[i]? = some d ∧ BagAt h' n (c + 1) ∧ Ch n h h' ∧ h'.length = h.length := by
  obtain ⟨r, h', e, h1, h2, h3, h4⟩ := pull_c (m := 1) b (Nat.le_refl _) hl hl2 hc
  refine ⟨r, l[r], h', callN_mono hm ?_ (by intro z; cases z), List.getElem?_eq_getElem h1, h2, h3, h4⟩
  refine callN_sh fn__law_of rfl (body_rt rfl ?_)
  simp [F__law_of, b__law_of, startE, e, ixAt_nat h1, List.getElem?_eq_getElem h1]

end MV.X

set_option maxRecDepth 100000
set_option maxHeartbeats 4000000
namespace MV.X
open MV
open PySem (Str Operator)
/-! the law's own comparison tells True of equal data -/
mutual
inductive Sim : Nat → MV.D → MV.D → Prop
  | int (n : Nat) (i : Int) : Sim n (.int i) (.int i)
  | str (n : Nat) (x : Str) : PySem.PyData.strOk x = true → Sim n (.str x) (.str x)
  | bl (n : Nat) (b : Bool) : Sim n (.bl b) (.bl b)
  | non (n : Nat) : Sim n .non .non
  | seq {n : Nat} {x y : MV.D} {xs ys : List MV.D} : ((x = .tup xs ∨ x = .wtup xs) ∧ (y = .tup ys ∨ y = .wtup ys)) ∨ ((x = .lst xs ∨ x = .bor xs) ∧ (y = .lst ys ∨ y = .bor ys)) → SimL n xs ys → xs.length ≤ line → Sim (n + 1) x y
inductive SimL : Nat → List MV.D → List MV.D → Prop
  | nil (n : Nat) : SimL n [] []
  | cons {n : Nat} {x y : MV.D} {xs ys : List MV.D} : x.flat = true → y.flat = true → Sim n x y → SimL n xs ys → SimL n (x :: xs) (y :: ys)
end
theorem SimL.len : ∀ {n : Nat} {xs ys : List MV.D}, SimL n xs ys → xs.length = ys.length
  | _, _, _, .nil _ => rfl
  | _, _, _, .cons _ _ _ t => congrArg Nat.succ t.len
theorem SimL.at : ∀ {n : Nat} {xs ys : List MV.D}, SimL n xs ys → ∀ i, i < xs.length → ∃ x y, xs[i]? = some x ∧ ys[i]? = some y ∧ x.flat = true ∧ y.flat = true ∧ Sim n x y
  | _, _, _, .nil _, i, h => by cases h
  | _, _, _, .cons a b c t, 0, _ => ⟨_, _, rfl, rfl, a, b, c⟩
  | _, _, _, .cons a b c t, i + 1, h => t.at i (Nat.lt_of_succ_lt_succ h)
theorem SimL.flats : ∀ {n : Nat} {xs ys : List MV.D}, SimL n xs ys → D.flats xs = true ∧ D.flats ys = true
  | _, _, _, .nil _ => ⟨rfl, rfl⟩
  | _, _, _, .cons a b c t => by
    obtain ⟨h1, h2⟩ := t.flats
    simp only [D.flats, a, b, h1, h2, Bool.and_self, and_self]
theorem eq_strX {t w : Str} {h : HH} (ht : PySem.PyData.strOk t = true) (hw : PySem.PyData.strOk w = true) : cmpD .Eq (.str t) (.str w) h = some (decide (t = w)) := by
  show eqD (.str t) (.str w) h = _
  have e1 : D.cmp 60 (.str t) = true := by simpa only [D.cmp] using ht
  have e2 : D.cmp 60 (.str w) = true := by simpa only [D.cmp] using hw
  have e3 : D.eqv (.str t) (.str w) = decide (t = w) := by
    simp only [D.eqv]
    rfl
  unfold eqD
  show (match D.cmp 60 (.str t) && D.cmp 60 (.str w) with
    | true => some (D.eqv (.str t) (.str w))
    | false => none) = _
  rw [e1, e2, e3]
  rfl
theorem eq_bb {a b : Bool} {h : HH} : eqD (.bl a) (.bl b) h = some (a == b) := by cases a <;> cases b <;> rfl
theorem lend_fl {h : HH} {d : MV.D} (f : d.flat = true) : lend h d = some d := by
  cases d <;> first | rfl | (cases f; done) | skip
  · exact lend_tup (by simpa only [D.flat] using f)
  · exact lend_wtup (by simpa only [D.flat] using f)
  · exact lend_lst (by simpa only [D.flat] using f)
  · unfold lend
    simp only [f, if_pos]
  · exact lend_obj (by simpa only [D.flat] using f)
theorem bls_rep : ∀ n : Nat, bls (List.replicate n (.bl true)) = some (List.replicate n true)
  | 0 => rfl
  | n + 1 => by
    rw [List.replicate_succ, bls_cons, bls_rep n]
    rfl
theorem bls_true (l : List Nat) : bls (l.map fun _ => MV.D.bl true) = some (l.map fun _ => true) := by
  induction l with
  | nil => rfl
  | cons a l ih =>
    rw [List.map_cons, bls_cons, ih]
    rfl
def thenS : S → S
  | .ite _ s _ => s
  | s => s
def fstS : S → S
  | .seq s _ => s
  | s => s
def sndS : S → S
  | .seq _ t => t
  | s => s
def retE : S → E
  | .ret e => e
  | _ => .nil
/-- the comprehension in it -/
def sameC : E := match retE (fstS (sndS (thenS (fstS b__law_same)))) with
  | .band _ (.b1 (.blt _ _ (.cons c .nil))) => c
  | e => e
theorem same_comp {k : Nat} {x y : MV.D} {xs : List MV.D} {h : HH} (h1 : ∀ j, j < xs.length → ∃ a b, itemD P.wd x (.int (j : Nat)) h = some a ∧ itemD P.wd y (.int (j : Nat)) h = some b ∧ callN P k i__law_same [a, b] h = .ok (.val (.bl true)) h) : ∀ (L : List Nat), (∀ j ∈ L, j < xs.length) →
    compL (cf P (callN P k) (.t_n 2) .nil (elE sameC) [some x, some y, none]) (L.map fun (j : Nat) => .int (j : Nat)) h = .ok (L.map fun _ => .bl true) h
  | [], _ => rfl
  | j :: L, hL => by
    have ih := same_comp h1 L fun i hi => hL i (List.mem_cons_of_mem _ hi)
    obtain ⟨a, b, e1, e2, e3⟩ := h1 j (hL j (List.mem_cons_self ..))
    rw [List.map_cons, compL_cons]
    simp only [sameC, retE, fstS, sndS, thenS, b__law_same, elE] at ih
    simp [sameC, retE, fstS, sndS, thenS, b__law_same, elE, e1, e2, e3, ih]
theorem range_map (n : Nat) : rangeL 0 (n : Int) = (List.range n).map fun (j : Nat) => .int (j : Nat) := by
  unfold rangeL
  simp
theorem ty_tup {l : List MV.D} {h : HH} {ts : List Ty} : isiD P.nc (.tup l) h ts = some (ts.any (tyIs .tup)) := (rfl)
theorem ty_wtup {l : List MV.D} {h : HH} {ts : List Ty} : isiD P.nc (.wtup l) h ts = some (ts.any (tyIs .tup)) := (rfl)
theorem ty_lst {l : List MV.D} {h : HH} {ts : List Ty} : isiD P.nc (.lst l) h ts = some (ts.any (tyIs .lst)) := (rfl)
theorem ty_bor {l : List MV.D} {h : HH} {ts : List Ty} : isiD P.nc (.bor l) h ts = some (ts.any (tyIs .lst)) := (rfl)
theorem ty_int {i : Int} {h : HH} {ts : List Ty} : isiD P.nc (.int i) h ts = some (ts.any (tyIs .int)) := (rfl)
theorem ty_bl {i : Bool} {h : HH} {ts : List Ty} : isiD P.nc (.bl i) h ts = some (ts.any (tyIs .bl)) := (rfl)
theorem ty_non {h : HH} {ts : List Ty} : isiD P.nc .non h ts = some (ts.any (tyIs .non)) := (rfl)
theorem ty_str {x : Str} {h : HH} {ts : List Ty} : isiD P.nc (.str x) h ts = some (ts.any (tyIs .str)) := (rfl)
theorem item_any {W : Wds} {x : MV.D} {l : List MV.D} {j : Nat} {d : MV.D} {h : HH} (hx : x = .tup l ∨ x = .wtup l ∨ x = .lst l ∨ x = .bor l) (e : l[j]? = some d) : itemD W x (.int (j : Nat)) h = some d := by
  have hj : j < l.length := (List.getElem?_eq_some_iff.mp e).1
  rcases hx with rfl | rfl | rfl | rfl
  · rw [it_tup, ixAt_nat hj, Option.bind_some, e]
  · rw [it_wtup, ixAt_nat hj, Option.bind_some, e]
  · rw [it_lst, ixAt_nat hj, Option.bind_some, e]
  · rw [it_bor, ixAt_nat hj, Option.bind_some, e]
theorem same_seq {m : Nat} {x y : MV.D} {xs ys : List MV.D} (hxy : ((x = .tup xs ∨ x = .wtup xs) ∧ (y = .tup ys ∨ y = .wtup ys)) ∨ ((x = .lst xs ∨ x = .bor xs) ∧ (y = .lst ys ∨ y = .bor ys))) (ln : xs.length = ys.length) (hl : xs.length ≤ line)
    (hc : ∀ j, j < xs.length → ∃ a b, itemD P.wd x (.int (j : Nat)) [] = some a ∧ itemD P.wd y (.int (j : Nat)) [] = some b ∧ callN P m i__law_same [a, b] [] = .ok (.val (.bl true)) []) : Ans P m i__law_same [x, y] (.val (.bl true)) := by
  have e := same_comp hc (List.range xs.length) (fun j hj => List.mem_range.mp hj)
  have hb := bls_true (List.range xs.length)
  have hal : ((List.range xs.length).map fun _ => true).all id = true := by simp
  have hq : mkL false ((List.range xs.length).map fun _ => MV.D.bl true) [] = .ok (.lst ((List.range xs.length).map fun _ => MV.D.bl true)) [] := mkL_f (by simpa using hl)
  simp only [sameC, retE, fstS, sndS, thenS, b__law_same, elE] at e
  have sm : smallI (xs.length : Int) = true := small_nat (Nat.lt_of_le_of_lt hl (by decide))
  have ra := range_map xs.length
  refine ans_of fn__law_same rfl rfl (d := .bl true) (h1 := []) ?_ rfl
  rcases hxy with ⟨rfl | rfl, rfl | rfl⟩ | ⟨rfl | rfl, rfl | rfl⟩
  · simp [F__law_same, b__law_same, startE, ty_tup, ty_wtup, ty_lst, ty_bor, tyIs, eq_bb, ra, e, hq, all_lst, hb, hal, ← ln, sm, noneD]
  · simp [F__law_same, b__law_same, startE, ty_tup, ty_wtup, ty_lst, ty_bor, tyIs, eq_bb, ra, e, hq, all_lst, hb, hal, ← ln, sm, noneD]
  · simp [F__law_same, b__law_same, startE, ty_tup, ty_wtup, ty_lst, ty_bor, tyIs, eq_bb, ra, e, hq, all_lst, hb, hal, ← ln, sm, noneD]
  · simp [F__law_same, b__law_same, startE, ty_tup, ty_wtup, ty_lst, ty_bor, tyIs, eq_bb, ra, e, hq, all_lst, hb, hal, ← ln, sm, noneD]
  · simp [F__law_same, b__law_same, startE, ty_tup, ty_wtup, ty_lst, ty_bor, tyIs, eq_bb, ra, e, hq, all_lst, hb, hal, ← ln, sm, noneD]
  · simp [F__law_same, b__law_same, startE, ty_tup, ty_wtup, ty_lst, ty_bor, tyIs, eq_bb, ra, e, hq, all_lst, hb, hal, ← ln, sm, noneD]
  · simp [F__law_same, b__law_same, startE, ty_tup, ty_wtup, ty_lst, ty_bor, tyIs, eq_bb, ra, e, hq, all_lst, hb, hal, ← ln, sm, noneD]
  · simp [F__law_same, b__law_same, startE, ty_tup, ty_wtup, ty_lst, ty_bor, tyIs, eq_bb, ra, e, hq, all_lst, hb, hal, ← ln, sm, noneD]
theorem same_ans : ∀ {n : Nat} {x y : MV.D}, Sim n x y → Ans P (n + 1) i__law_same [x, y] (.val (.bl true))
  | n, _, _, .int _ i => by
    refine ans_of fn__law_same rfl rfl (d := .bl true) (h1 := []) ?_ rfl
    simp [F__law_same, b__law_same, startE, ty_int, tyIs, eq_bb, noneD]
  | n, _, _, .str _ i ok => by
    refine ans_of fn__law_same rfl rfl (d := .bl true) (h1 := []) ?_ rfl
    have q : cmpD .Eq (.str i) (.str i) [] = some true := by
      rw [eq_strX ok ok, decide_eq_true rfl]
    simp [F__law_same, b__law_same, startE, ty_str, tyIs, eq_bb, noneD, q]
  | n, _, _, .bl _ i => by
    refine ans_of fn__law_same rfl rfl (d := .bl true) (h1 := []) ?_ rfl
    simp [F__law_same, b__law_same, startE, ty_bl, tyIs, eq_bb, noneD]
  | n, _, _, .non _ => by
    refine ans_of fn__law_same rfl rfl (d := .bl true) (h1 := []) ?_ rfl
    simp [F__law_same, b__law_same, startE, ty_non, tyIs, eq_bb, noneD]
  | _, x, y, .seq (n := n) (xs := xs) (ys := ys) hxy sl hl => by
    refine same_seq hxy sl.len hl fun j hj => ?_
    obtain ⟨a, b, e1, e2, f1, f2, s⟩ := sl.at j hj
    exact ⟨a, b, item_any (l := xs) (by rcases hxy with ⟨h, _⟩ | ⟨h, _⟩ <;> rcases h with h | h <;> simp [h]) e1, item_any (l := ys) (by rcases hxy with ⟨_, h⟩ | ⟨_, h⟩ <;> rcases h with h | h <;> simp [h]) e2, (same_ans s).call (lends2 (lend_fl f1) (lend_fl f2)) (Nat.le_refl _)⟩

end MV.X

set_option maxRecDepth 100000
set_option maxHeartbeats 4000000
namespace MV.X
open MV
open PySem (Str Operator)
/-! matrices of quarters -/
structure Mat where
  (a b c d e f g h i : Int)
  deriving DecidableEq
def Mat.D (m : Mat) : D := .lst [.tup [.int m.a, .int m.b, .int m.c], .tup [.int m.d, .int m.e, .int m.f], .tup [.int m.g, .int m.h, .int m.i]]
def Mat.W (m : Mat) : MV.D := .lst [.wtup [.int m.a, .int m.b, .int m.c], .wtup [.int m.d, .int m.e, .int m.f], .wtup [.int m.g, .int m.h, .int m.i]]
def Mat.mul (m n : Mat) : Mat := ⟨m.a*n.a+m.b*n.d+m.c*n.g, m.a*n.b+m.b*n.e+m.c*n.h, m.a*n.c+m.b*n.f+m.c*n.i, m.d*n.a+m.e*n.d+m.f*n.g, m.d*n.b+m.e*n.e+m.f*n.h, m.d*n.c+m.e*n.f+m.f*n.i, m.g*n.a+m.h*n.d+m.i*n.g, m.g*n.b+m.h*n.e+m.i*n.h, m.g*n.c+m.h*n.f+m.i*n.i⟩
def Mat.one : Mat := ⟨1, 0, 0, 0, 1, 0, 0, 0, 1⟩
def Mat.Bd (k : Nat) (m : Mat) : Prop := MV.Bd k m.a ∧ MV.Bd k m.b ∧ MV.Bd k m.c ∧ MV.Bd k m.d ∧ MV.Bd k m.e ∧ MV.Bd k m.f ∧ MV.Bd k m.g ∧ MV.Bd k m.h ∧ MV.Bd k m.i
theorem Mat.Bd.le {k n : Nat} {m : Mat} (b : m.Bd k) (h : k ≤ n) : m.Bd n := ⟨b.1.le h, b.2.1.le h, b.2.2.1.le h, b.2.2.2.1.le h, b.2.2.2.2.1.le h, b.2.2.2.2.2.1.le h, b.2.2.2.2.2.2.1.le h, b.2.2.2.2.2.2.2.1.le h, b.2.2.2.2.2.2.2.2.le h⟩
theorem bd3 {k n : Nat} {a b c x y z : Int} (ha : MV.Bd k a) (hb : MV.Bd k b) (hc : MV.Bd k c) (hx : MV.Bd n x) (hy : MV.Bd n y) (hz : MV.Bd n z) : MV.Bd (k + n + 2) (a * x + b * y + c * z) :=
  ((((ha.mul hx).add (hb.mul hy)).add ((hc.mul hz).le (Nat.le_succ _))))
theorem Mat.Bd.mul {k n : Nat} {x y : Mat} (a : x.Bd k) (b : y.Bd n) : (x.mul y).Bd (k + n + 2) := by
  obtain ⟨a1, a2, a3, a4, a5, a6, a7, a8, a9⟩ := a
  obtain ⟨b1, b2, b3, b4, b5, b6, b7, b8, b9⟩ := b
  exact ⟨bd3 a1 a2 a3 b1 b4 b7, bd3 a1 a2 a3 b2 b5 b8, bd3 a1 a2 a3 b3 b6 b9, bd3 a4 a5 a6 b1 b4 b7, bd3 a4 a5 a6 b2 b5 b8, bd3 a4 a5 a6 b3 b6 b9, bd3 a7 a8 a9 b1 b4 b7, bd3 a7 a8 a9 b2 b5 b8, bd3 a7 a8 a9 b3 b6 b9⟩
def QT : List Mat := [⟨(-1), 0, 0, 0, (-1), 0, 0, 0, 1⟩, ⟨(-1), 0, 0, 0, 0, (-1), 0, (-1), 0⟩, ⟨(-1), 0, 0, 0, 0, 1, 0, 1, 0⟩, ⟨(-1), 0, 0, 0, 1, 0, 0, 0, (-1)⟩, ⟨0, (-1), 0, (-1), 0, 0, 0, 0, (-1)⟩, ⟨0, (-1), 0, 0, 0, (-1), 1, 0, 0⟩, ⟨0, (-1), 0, 0, 0, 1, (-1), 0, 0⟩, ⟨0, (-1), 0, 1, 0, 0, 0, 0, 1⟩, ⟨0, 0, (-1), (-1), 0, 0, 0, 1, 0⟩, ⟨0, 0, (-1), 0, (-1), 0, (-1), 0, 0⟩, ⟨0, 0, (-1), 0, 1, 0, 1, 0, 0⟩, ⟨0, 0, (-1), 1, 0, 0, 0, (-1), 0⟩, ⟨0, 0, 1, (-1), 0, 0, 0, (-1), 0⟩, ⟨0, 0, 1, 0, (-1), 0, 1, 0, 0⟩, ⟨0, 0, 1, 0, 1, 0, (-1), 0, 0⟩, ⟨0, 0, 1, 1, 0, 0, 0, 1, 0⟩, ⟨0, 1, 0, (-1), 0, 0, 0, 0, 1⟩, ⟨0, 1, 0, 0, 0, (-1), (-1), 0, 0⟩, ⟨0, 1, 0, 0, 0, 1, 1, 0, 0⟩, ⟨0, 1, 0, 1, 0, 0, 0, 0, (-1)⟩, ⟨1, 0, 0, 0, (-1), 0, 0, 0, (-1)⟩, ⟨1, 0, 0, 0, 0, (-1), 0, 1, 0⟩, ⟨1, 0, 0, 0, 0, 1, 0, (-1), 0⟩, ⟨1, 0, 0, 0, 1, 0, 0, 0, 1⟩]
@[simp] theorem range3 : rangeL 0 3 = [.int 0, .int 1, .int 2] := (rfl)
@[simp] theorem small3 : smallI 3 = true := (rfl)
def Mat.rows (m : Mat) : List MV.D := [.tup [.int m.a, .int m.b, .int m.c], .tup [.int m.d, .int m.e, .int m.f], .tup [.int m.g, .int m.h, .int m.i]]
theorem Mat.D_rows (m : Mat) : m.D = .lst m.rows := (rfl)
def qt (q : Nat) : Mat := QT.getD q Mat.one

end MV.X

set_option maxRecDepth 100000
set_option maxHeartbeats 4000000
namespace MV.X
open MV
open PySem (Str Operator)
/-! spins and their tables -/
def Sp.tab (s : Sp) : Mat := ⟨s.a*s.a+s.b*s.b-s.c*s.c-s.d*s.d, 2*(s.b*s.c-s.a*s.d), 2*(s.b*s.d+s.a*s.c), 2*(s.b*s.c+s.a*s.d), s.a*s.a-s.b*s.b+s.c*s.c-s.d*s.d, 2*(s.c*s.d-s.a*s.b), 2*(s.b*s.d-s.a*s.c), 2*(s.c*s.d+s.a*s.b), s.a*s.a-s.b*s.b-s.c*s.c+s.d*s.d⟩
def Sp.mul (s t : Sp) : Sp := ⟨s.a*t.a-s.b*t.b-s.c*t.c-s.d*t.d, s.a*t.b+s.b*t.a+s.c*t.d-s.d*t.c, s.a*t.c-s.b*t.d+s.c*t.a+s.d*t.b, s.a*t.d+s.b*t.c-s.c*t.b+s.d*t.a⟩
def Sp.Bd (k : Nat) (s : Sp) : Prop := MV.Bd k s.a ∧ MV.Bd k s.b ∧ MV.Bd k s.c ∧ MV.Bd k s.d
theorem Sp.Bd.le {k n : Nat} {m : Sp} (b : m.Bd k) (h : k ≤ n) : m.Bd n := ⟨b.1.le h, b.2.1.le h, b.2.2.1.le h, b.2.2.2.le h⟩
theorem bd2 : MV.Bd 2 2 := by
  unfold MV.Bd
  decide
theorem Sp.Bd.tab {k : Nat} {s : Sp} (h : s.Bd k) : s.tab.Bd (k + k + 3) := by
  obtain ⟨ha, hb, hc, hd⟩ := h
  have q : ∀ {x y : Int}, MV.Bd (k + k + 1) x → MV.Bd (k + k + 3) (2 * x) := fun {x y} h => (bd2.mul h).le (by omega)
  have p : ∀ {x y z w : Int}, MV.Bd (k + k) x → MV.Bd (k + k) y → MV.Bd (k + k) z → MV.Bd (k + k) w → MV.Bd (k + k + 3) (x + y - z - w) := fun {x y z w} h1 h2 h3 h4 => ((h1.add h2).sub (h3.le (by omega))).sub (h4.le (by omega))
  have p2 : ∀ {x y z w : Int}, MV.Bd (k + k) x → MV.Bd (k + k) y → MV.Bd (k + k) z → MV.Bd (k + k) w → MV.Bd (k + k + 3) (x - y + z - w) := fun {x y z w} h1 h2 h3 h4 => ((h1.sub h2).add (h3.le (by omega))).sub (h4.le (by omega))
  have p3 : ∀ {x y z w : Int}, MV.Bd (k + k) x → MV.Bd (k + k) y → MV.Bd (k + k) z → MV.Bd (k + k) w → MV.Bd (k + k + 3) (x - y - z + w) := fun {x y z w} h1 h2 h3 h4 => ((h1.sub h2).sub (h3.le (by omega))).add (h4.le (by omega))
  exact ⟨p (ha.mul ha) (hb.mul hb) (hc.mul hc) (hd.mul hd), q (y := 0) ((hb.mul hc).sub (ha.mul hd)), q (y := 0) ((hb.mul hd).add (ha.mul hc)), q (y := 0) ((hb.mul hc).add (ha.mul hd)), p2 (ha.mul ha) (hb.mul hb) (hc.mul hc) (hd.mul hd), q (y := 0) ((hc.mul hd).sub (ha.mul hb)), q (y := 0) ((hb.mul hd).sub (ha.mul hc)), q (y := 0) ((hc.mul hd).add (ha.mul hb)), p3 (ha.mul ha) (hb.mul hb) (hc.mul hc) (hd.mul hd)⟩
theorem bdl {k : Nat} {s : Sp} (h : s.Bd k) : ∀ {i j : Int}, (i = s.a ∨ i = s.b ∨ i = s.c ∨ i = s.d) → (j = s.a ∨ j = s.b ∨ j = s.c ∨ j = s.d) → k + k < 1000000 → mulOk i j = true := fun {i j} hi hj hk => by
  obtain ⟨h1, h2, h3, h4⟩ := h
  rcases hi with rfl | rfl | rfl | rfl <;> rcases hj with rfl | rfl | rfl | rfl <;> exact MV.Bd.ok (by assumption) (by assumption) hk
theorem table_sub {k : Nat} {s : Sp} (h : s.Bd k) (hk : k + k < 900000) : mulOk s.a s.a = true ∧ mulOk s.b s.b = true ∧ mulOk s.c s.c = true ∧ mulOk s.d s.d = true ∧ mulOk s.b s.c = true ∧ mulOk s.a s.d = true ∧ mulOk s.b s.d = true ∧ mulOk s.a s.c = true ∧ mulOk s.c s.d = true ∧ mulOk s.a s.b = true ∧
    mulOk 2 (s.b * s.c - s.a * s.d) = true ∧ mulOk 2 (s.b * s.d + s.a * s.c) = true ∧ mulOk 2 (s.b * s.c + s.a * s.d) = true ∧ mulOk 2 (s.c * s.d - s.a * s.b) = true ∧ mulOk 2 (s.b * s.d - s.a * s.c) = true ∧ mulOk 2 (s.c * s.d + s.a * s.b) = true := by
  obtain ⟨h1, h2, h3, h4⟩ := h
  have m : ∀ {i j : Int}, MV.Bd k i → MV.Bd k j → mulOk i j = true := fun a b => a.ok b (by omega)
  have m2 : ∀ {i : Int}, MV.Bd (k + k + 1) i → mulOk 2 i = true := fun a => bd2.ok a (by omega)
  exact ⟨m h1 h1, m h2 h2, m h3 h3, m h4 h4, m h2 h3, m h1 h4, m h2 h4, m h1 h3, m h3 h4, m h1 h2, m2 ((h2.mul h3).sub (h1.mul h4)), m2 ((h2.mul h4).add (h1.mul h3)), m2 ((h2.mul h3).add (h1.mul h4)), m2 ((h3.mul h4).sub (h1.mul h2)), m2 ((h2.mul h4).sub (h1.mul h3)), m2 ((h3.mul h4).add (h1.mul h2))⟩
theorem ltable_ans {k n : Nat} {s : Sp} (h : s.Bd n) (hn : n + n < 900000) : Ans P k i__law_table [s.D] (.newl s.tab.rows) := by
  obtain ⟨m1, m2, m3, m4, m5, m6, m7, m8, m9, m10, m11, m12, m13, m14, m15, m16⟩ := table_sub h hn
  refine ans_of fn__law_table rfl rfl (d := .ref 0) (h1 := [.lst s.tab.rows]) ?_ rfl
  simp [F__law_table, b__law_table, startE, Sp.D, m1, m2, m3, m4, m5, m6, m7, m8, m9, m10, m11, m12, m13, m14, m15, m16, Mat.rows, Sp.tab]
theorem ltable_call {n q : Nat} {s : Sp} {h : HH} (a : s.Bd q) (hq : q + q < 900000) (hn : 1 ≤ n) : callN P n i__law_table [s.D] h = .ok (.newl s.tab.rows) h := (ltable_ans (k := 0) a hq).call rfl hn

end MV.X

set_option maxRecDepth 100000
set_option maxHeartbeats 4000000
namespace MV.X
open MV
open PySem (Str Operator)
/-! pure defs that raise -/
theorem pure_exc {k i c : Nat} {es ds : List MV.D} {f : Fn} {ks : List Nat} {vs : List MV.D} {h1 h : HH} (e1 : P.fns[i]? = some f) (e2 : f.kind = .fn true) (l : lends h ds = some es) (e3 : MV.body P (callN P k) f es [] = .exc c ks vs h1) (fl : D.flats vs = true) : callN P (k + 1) i ds h = .exc c ks vs h := by
  rw [callN_s e1, e2]
  dsimp only
  unfold pureRun
  rw [l]
  dsimp only
  rw [e3]
  dsimp only
  rw [if_pos fl]
theorem body_exc {o : Orc} {f : Fn} {ds : List MV.D} {h h1 : HH} {ρ : Env} {c : Nat} {ks : List Nat} {vs : List MV.D} (l : (ds.length == f.np) = true) (e : MV.run P o f.body (startE f.nl ds) h = .exc c ks vs ρ h1) : MV.body P o f ds h = .exc c ks vs h1 := by
  unfold MV.body
  rw [l]
  dsimp only
  rw [e]

end MV.X

set_option maxRecDepth 100000
set_option maxHeartbeats 4000000
namespace MV.X
open MV
open PySem (Str Operator)
/-! the program's spins of quarters -/
def SQ : List Sp := [⟨0, 0, 0, 1⟩, ⟨0, 0, 1, (-1)⟩, ⟨0, 0, 1, 1⟩, ⟨0, 0, 1, 0⟩, ⟨0, 1, (-1), 0⟩, ⟨1, 1, (-1), 1⟩, ⟨1, (-1), 1, 1⟩, ⟨1, 0, 0, 1⟩, ⟨1, 1, (-1), (-1)⟩, ⟨0, 1, 0, (-1)⟩, ⟨1, 0, (-1), 0⟩, ⟨1, (-1), (-1), 1⟩, ⟨1, (-1), 1, (-1)⟩, ⟨0, 1, 0, 1⟩, ⟨1, 0, 1, 0⟩, ⟨1, 1, 1, 1⟩, ⟨1, 0, 0, (-1)⟩, ⟨1, 1, 1, (-1)⟩, ⟨1, (-1), (-1), (-1)⟩, ⟨0, 1, 1, 0⟩, ⟨0, 1, 0, 0⟩, ⟨1, 1, 0, 0⟩, ⟨1, (-1), 0, 0⟩, ⟨1, 0, 0, 0⟩]
def sq (q : Nat) : Sp := SQ.getD q ⟨1, 0, 0, 0⟩
theorem qspin_0 : Ans P 9 i_quarter_spin [.int (0 : Nat)] (.val (sq 0).D) := ans_by (by kernel_rfl)
theorem qspin_1 : Ans P 9 i_quarter_spin [.int (1 : Nat)] (.val (sq 1).D) := ans_by (by kernel_rfl)
theorem qspin_2 : Ans P 9 i_quarter_spin [.int (2 : Nat)] (.val (sq 2).D) := ans_by (by kernel_rfl)
theorem qspin_3 : Ans P 9 i_quarter_spin [.int (3 : Nat)] (.val (sq 3).D) := ans_by (by kernel_rfl)
theorem qspin_4 : Ans P 9 i_quarter_spin [.int (4 : Nat)] (.val (sq 4).D) := ans_by (by kernel_rfl)
theorem qspin_5 : Ans P 9 i_quarter_spin [.int (5 : Nat)] (.val (sq 5).D) := ans_by (by kernel_rfl)
theorem qspin_6 : Ans P 9 i_quarter_spin [.int (6 : Nat)] (.val (sq 6).D) := ans_by (by kernel_rfl)
theorem qspin_7 : Ans P 9 i_quarter_spin [.int (7 : Nat)] (.val (sq 7).D) := ans_by (by kernel_rfl)
theorem qspin_8 : Ans P 9 i_quarter_spin [.int (8 : Nat)] (.val (sq 8).D) := ans_by (by kernel_rfl)
theorem qspin_9 : Ans P 9 i_quarter_spin [.int (9 : Nat)] (.val (sq 9).D) := ans_by (by kernel_rfl)
theorem qspin_10 : Ans P 9 i_quarter_spin [.int (10 : Nat)] (.val (sq 10).D) := ans_by (by kernel_rfl)
theorem qspin_11 : Ans P 9 i_quarter_spin [.int (11 : Nat)] (.val (sq 11).D) := ans_by (by kernel_rfl)
theorem qspin_12 : Ans P 9 i_quarter_spin [.int (12 : Nat)] (.val (sq 12).D) := ans_by (by kernel_rfl)
theorem qspin_13 : Ans P 9 i_quarter_spin [.int (13 : Nat)] (.val (sq 13).D) := ans_by (by kernel_rfl)
theorem qspin_14 : Ans P 9 i_quarter_spin [.int (14 : Nat)] (.val (sq 14).D) := ans_by (by kernel_rfl)
theorem qspin_15 : Ans P 9 i_quarter_spin [.int (15 : Nat)] (.val (sq 15).D) := ans_by (by kernel_rfl)
theorem qspin_16 : Ans P 9 i_quarter_spin [.int (16 : Nat)] (.val (sq 16).D) := ans_by (by kernel_rfl)
theorem qspin_17 : Ans P 9 i_quarter_spin [.int (17 : Nat)] (.val (sq 17).D) := ans_by (by kernel_rfl)
theorem qspin_18 : Ans P 9 i_quarter_spin [.int (18 : Nat)] (.val (sq 18).D) := ans_by (by kernel_rfl)
theorem qspin_19 : Ans P 9 i_quarter_spin [.int (19 : Nat)] (.val (sq 19).D) := ans_by (by kernel_rfl)
theorem qspin_20 : Ans P 9 i_quarter_spin [.int (20 : Nat)] (.val (sq 20).D) := ans_by (by kernel_rfl)
theorem qspin_21 : Ans P 9 i_quarter_spin [.int (21 : Nat)] (.val (sq 21).D) := ans_by (by kernel_rfl)
theorem qspin_22 : Ans P 9 i_quarter_spin [.int (22 : Nat)] (.val (sq 22).D) := ans_by (by kernel_rfl)
theorem qspin_23 : Ans P 9 i_quarter_spin [.int (23 : Nat)] (.val (sq 23).D) := ans_by (by kernel_rfl)
theorem qspin_ans : ∀ q : Nat, q < 24 → Ans P 9 i_quarter_spin [.int q] (.val (sq q).D)
  | 0, _ => qspin_0
  | 1, _ => qspin_1
  | 2, _ => qspin_2
  | 3, _ => qspin_3
  | 4, _ => qspin_4
  | 5, _ => qspin_5
  | 6, _ => qspin_6
  | 7, _ => qspin_7
  | 8, _ => qspin_8
  | 9, _ => qspin_9
  | 10, _ => qspin_10
  | 11, _ => qspin_11
  | 12, _ => qspin_12
  | 13, _ => qspin_13
  | 14, _ => qspin_14
  | 15, _ => qspin_15
  | 16, _ => qspin_16
  | 17, _ => qspin_17
  | 18, _ => qspin_18
  | 19, _ => qspin_19
  | 20, _ => qspin_20
  | 21, _ => qspin_21
  | 22, _ => qspin_22
  | 23, _ => qspin_23
  | n + 24, h => absurd h (by omega)

end MV.X

set_option maxRecDepth 100000
set_option maxHeartbeats 4000000
namespace MV.X
open MV
open PySem (Str Operator)
/-! k04: the quarters -/
def lpS : S → S
  | .loop _ _ b => b
  | s => s
def nthS : Nat → S → S
  | 0, s => fstS s
  | n + 1, s => nthS n (sndS s)
def tB : S := lpS (nthS 7 b_law)
def Mat.rowsW (m : Mat) : List MV.D := [.wtup [.int m.a, .int m.b, .int m.c], .wtup [.int m.d, .int m.e, .int m.f], .wtup [.int m.g, .int m.h, .int m.i]]
theorem quarters_ans : Ans P 3 i__law_quarters [] (.newl (QT.map Mat.D)) := ans_by (by kernel_rfl)
theorem qrows_ans : ∀ q : Nat, q < 24 → Ans P 6 i_quarter_rows [.int q] (.newl (qt q).rowsW)
  | 0, _ => ans_by (by kernel_rfl)
  | 1, _ => ans_by (by kernel_rfl)
  | 2, _ => ans_by (by kernel_rfl)
  | 3, _ => ans_by (by kernel_rfl)
  | 4, _ => ans_by (by kernel_rfl)
  | 5, _ => ans_by (by kernel_rfl)
  | 6, _ => ans_by (by kernel_rfl)
  | 7, _ => ans_by (by kernel_rfl)
  | 8, _ => ans_by (by kernel_rfl)
  | 9, _ => ans_by (by kernel_rfl)
  | 10, _ => ans_by (by kernel_rfl)
  | 11, _ => ans_by (by kernel_rfl)
  | 12, _ => ans_by (by kernel_rfl)
  | 13, _ => ans_by (by kernel_rfl)
  | 14, _ => ans_by (by kernel_rfl)
  | 15, _ => ans_by (by kernel_rfl)
  | 16, _ => ans_by (by kernel_rfl)
  | 17, _ => ans_by (by kernel_rfl)
  | 18, _ => ans_by (by kernel_rfl)
  | 19, _ => ans_by (by kernel_rfl)
  | 20, _ => ans_by (by kernel_rfl)
  | 21, _ => ans_by (by kernel_rfl)
  | 22, _ => ans_by (by kernel_rfl)
  | 23, _ => ans_by (by kernel_rfl)
  | n + 24, h => absurd h (by omega)
def sz (q : Nat) : Int := (sq q).a * (sq q).a + (sq q).b * (sq q).b + (sq q).c * (sq q).c + (sq q).d * (sq q).d
def due : MV.D := .lst (QT.map Mat.D)
def TurnQ (q : Nat) : Prop := ∀ (x0 x1 x3 x4 x6 x7 x8 x9 x10 : Option MV.D) (H : HH), run P (callN P 40) tB [x0, x1, some due, x3, x4, some (.int (q : Nat)), x6, x7, x8, x9, x10] H = .nx [x0, x1, some due, x3, some (sq q).D, some (.int (q : Nat)), some (.int (sz q)), x7, x8, x9, x10] H
theorem tn_0 : TurnQ 0 := fun _ _ _ _ _ _ _ _ _ _ => by kernel_rfl
theorem tn_1 : TurnQ 1 := fun _ _ _ _ _ _ _ _ _ _ => by kernel_rfl
theorem tn_2 : TurnQ 2 := fun _ _ _ _ _ _ _ _ _ _ => by kernel_rfl
theorem tn_3 : TurnQ 3 := fun _ _ _ _ _ _ _ _ _ _ => by kernel_rfl
theorem tn_4 : TurnQ 4 := fun _ _ _ _ _ _ _ _ _ _ => by kernel_rfl
theorem tn_5 : TurnQ 5 := fun _ _ _ _ _ _ _ _ _ _ => by kernel_rfl
theorem tn_6 : TurnQ 6 := fun _ _ _ _ _ _ _ _ _ _ => by kernel_rfl
theorem tn_7 : TurnQ 7 := fun _ _ _ _ _ _ _ _ _ _ => by kernel_rfl
theorem tn_8 : TurnQ 8 := fun _ _ _ _ _ _ _ _ _ _ => by kernel_rfl
theorem tn_9 : TurnQ 9 := fun _ _ _ _ _ _ _ _ _ _ => by kernel_rfl
theorem tn_10 : TurnQ 10 := fun _ _ _ _ _ _ _ _ _ _ => by kernel_rfl
theorem tn_11 : TurnQ 11 := fun _ _ _ _ _ _ _ _ _ _ => by kernel_rfl
theorem tn_12 : TurnQ 12 := fun _ _ _ _ _ _ _ _ _ _ => by kernel_rfl
theorem tn_13 : TurnQ 13 := fun _ _ _ _ _ _ _ _ _ _ => by kernel_rfl
theorem tn_14 : TurnQ 14 := fun _ _ _ _ _ _ _ _ _ _ => by kernel_rfl
theorem tn_15 : TurnQ 15 := fun _ _ _ _ _ _ _ _ _ _ => by kernel_rfl
theorem tn_16 : TurnQ 16 := fun _ _ _ _ _ _ _ _ _ _ => by kernel_rfl
theorem tn_17 : TurnQ 17 := fun _ _ _ _ _ _ _ _ _ _ => by kernel_rfl
theorem tn_18 : TurnQ 18 := fun _ _ _ _ _ _ _ _ _ _ => by kernel_rfl
theorem tn_19 : TurnQ 19 := fun _ _ _ _ _ _ _ _ _ _ => by kernel_rfl
theorem tn_20 : TurnQ 20 := fun _ _ _ _ _ _ _ _ _ _ => by kernel_rfl
theorem tn_21 : TurnQ 21 := fun _ _ _ _ _ _ _ _ _ _ => by kernel_rfl
theorem tn_22 : TurnQ 22 := fun _ _ _ _ _ _ _ _ _ _ => by kernel_rfl
theorem tn_23 : TurnQ 23 := fun _ _ _ _ _ _ _ _ _ _ => by kernel_rfl
theorem tn_all : ∀ q : Nat, q < 24 → TurnQ q
  | 0, _ => tn_0
  | 1, _ => tn_1
  | 2, _ => tn_2
  | 3, _ => tn_3
  | 4, _ => tn_4
  | 5, _ => tn_5
  | 6, _ => tn_6
  | 7, _ => tn_7
  | 8, _ => tn_8
  | 9, _ => tn_9
  | 10, _ => tn_10
  | 11, _ => tn_11
  | 12, _ => tn_12
  | 13, _ => tn_13
  | 14, _ => tn_14
  | 15, _ => tn_15
  | 16, _ => tn_16
  | 17, _ => tn_17
  | 18, _ => tn_18
  | 19, _ => tn_19
  | 20, _ => tn_20
  | 21, _ => tn_21
  | 22, _ => tn_22
  | 23, _ => tn_23
  | n + 24, h => absurd h (by omega)

end MV.X

set_option maxRecDepth 100000
set_option maxHeartbeats 4000000
namespace MV.X
open MV
open PySem (Str Operator)
/-! k04: wrong numbers, the law -/
def QW : List MV.D := (List.range 24).map fun q => .lst (qt q).rowsW
theorem cmp_rows (x0 x1 : Option MV.D) (H : HH) : compL (cf P (callN P 40) (.t_n 3) .nil (.call false 3 (.cons (.v 3) .nil)) [x0, x1, some due, none, none, none, none, none, none, none, none]) (rangeL 0 24) H = .ok QW H := by kernel_rfl
theorem same_rows (H : HH) : callN P 40 i__law_same [.lst QW, due] H = .ok (.val (.bl true)) H := by kernel_rfl
theorem eq_due (H : HH) : eqD due due H = some true := by kernel_rfl
theorem due_in : (QT.map Mat.D).Pairwise fun a b => PySem.W.dataLe false D.pd a b = true := by decide +kernel
theorem due_srt : sortedD false [due] H = .ok due H := by
  have e : (QT.map Mat.D).mergeSort (PySem.W.dataLe false D.pd) = QT.map Mat.D := List.mergeSort_of_pairwise due_in
  have c : (D.cmp 52 (.lst (QT.map Mat.D)) && (alikeB (QT.map Mat.D) && sortableB (QT.map Mat.D))) = true := by decide +kernel
  have o : oneL [due] H = some (QT.map Mat.D) := rfl
  have n : (oneL [due] H).bind intsD = none := by kernel_rfl
  unfold sortedD
  rw [n, o]
  dsimp only
  rw [c, e]
  rfl
theorem cq_exc {d : Int} (hd : d < 0 ∨ 24 ≤ d) {m : Nat} (hm : 1 ≤ m) (H : HH) : callN P m i_check_quarter [.int d] H = .exc x_InvalidQuarter [n_at, n_tag] [.int d, .str "InvalidQuarter"] H := by
  refine callN_mono hm ?_ (by intro z; cases z)
  refine pure_exc (f := F_check_quarter) (h1 := []) fn_check_quarter rfl (lends1 rfl) (body_exc (ρ := [some (.int d)]) rfl ?_) rfl
  rcases hd with hd | hd
  · have e : decide (0 ≤ d) = false := decide_eq_false (by omega)
    simp [F_check_quarter, b_check_quarter, startE, x_InvalidQuarter, selD, e]
  · have e : decide (0 ≤ d) = true := decide_eq_true (by omega)
    have e2 : decide (d < 24) = false := decide_eq_false (by omega)
    simp [F_check_quarter, b_check_quarter, startE, x_InvalidQuarter, selD, e, e2, d_QUARTERS]
theorem qr_exc {d : Int} (hd : d < 0 ∨ 24 ≤ d) {m : Nat} (hm : 2 ≤ m) (H : HH) : callN P m i_quarter_rows [.int d] H = .exc x_InvalidQuarter [n_at, n_tag] [.int d, .str "InvalidQuarter"] H := by
  refine callN_mono hm ?_ (by intro z; cases z)
  refine pure_exc (f := F_quarter_rows) (h1 := []) fn_quarter_rows rfl (lends1 rfl) (body_exc (ρ := [some (.int d), none]) rfl ?_) rfl
  have e := fun H => cq_exc hd (m := 1) (by decide) H
  simp [F_quarter_rows, b_quarter_rows, startE, e]
theorem qs_exc {d : Int} (hd : d < 0 ∨ 24 ≤ d) {m : Nat} (hm : 3 ≤ m) (H : HH) : callN P m i_quarter_spin [.int d] H = .exc x_InvalidQuarter [n_at, n_tag] [.int d, .str "InvalidQuarter"] H := by
  refine callN_mono hm ?_ (by intro z; cases z)
  refine pure_exc (f := F_quarter_spin) (h1 := []) fn_quarter_spin rfl (lends1 rfl) (body_exc (ρ := [some (.int d), none, none, none, none, none, none, none, none, none, none, none]) rfl ?_) rfl
  have e := fun H => qr_exc hd (m := 2) (by decide) H
  simp [F_quarter_spin, b_quarter_spin, startE, e]
theorem tv_at {d : Int} {h : HH} : tryV P (.exc x_InvalidQuarter [n_at, n_tag] [.int d, .str "InvalidQuarter"] h) = .ok (.tup [.str "InvalidQuarter", .int d]) h := by kernel_rfl
theorem lam_a {d : Int} (hd : d < 0 ∨ 24 ≤ d) (H : HH) : tryV P (callN P 40 18 [.int d] H) = .ok (.tup [.str "InvalidQuarter", .int d]) H := by
  have e : callN P 40 18 [.int d] H = .exc x_InvalidQuarter [n_at, n_tag] [.int d, .str "InvalidQuarter"] H := by
    rw [show callN P 40 18 [.int d] H = callN P (39 + 1) i_lam0 [.int d] H from rfl, callN_s fn_lam0]
    show (ev P (callN P 39) e_lam0 (lamE 11 [7] [.int d]) H).bd _ = _
    have z := fun H => qr_exc hd (m := 39) (by decide) H
    simp [e_lam0, lamE, z]
  rw [e, tv_at]
theorem lam_b {d : Int} (hd : d < 0 ∨ 24 ≤ d) (H : HH) : tryV P (callN P 40 19 [.int d] H) = .ok (.tup [.str "InvalidQuarter", .int d]) H := by
  have e : callN P 40 19 [.int d] H = .exc x_InvalidQuarter [n_at, n_tag] [.int d, .str "InvalidQuarter"] H := by
    rw [show callN P 40 19 [.int d] H = callN P (39 + 1) i_lam1 [.int d] H from rfl, callN_s fn_lam1]
    show (ev P (callN P 39) e_lam1 (lamE 11 [7] [.int d]) H).bd _ = _
    have z := fun H => qs_exc hd (m := 39) (by decide) H
    simp [e_lam1, lamE, z]
  rw [e, tv_at]
theorem t_loop (x0 x1 x3 x7 x8 x9 x10 : Option MV.D) (H : HH) : ∀ (L : List Nat), (∀ q ∈ L, q < 24) → ∀ (x4 x5 x6 : Option MV.D), ∃ y4 y5 y6, loopL (lf P (callN P 40) (.t_n 5) tB) (L.map fun (j : Nat) => .int (j : Nat)) [x0, x1, some due, x3, x4, x5, x6, x7, x8, x9, x10] H = .nx [x0, x1, some due, x3, y4, y5, y6, x7, x8, x9, x10] H
  | [], _, x4, x5, x6 => ⟨x4, x5, x6, rfl⟩
  | q :: L, hL, x4, x5, x6 => by
    obtain ⟨y4, y5, y6, e⟩ := t_loop x0 x1 x3 x7 x8 x9 x10 H L (fun r hr => hL r (List.mem_cons_of_mem _ hr)) (some (sq q).D) (some (.int (q : Nat))) (some (.int (sz q)))
    refine ⟨y4, y5, y6, ?_⟩
    rw [List.map_cons, loopL_cons, lf_ap, a_tn, pur_ok', st_ok']
    show (run P (callN P 40) tB [x0, x1, some due, x3, x4, some (.int (q : Nat)), x6, x7, x8, x9, x10] H).tn _ = _
    rw [tn_all q (hL q (List.mem_cons_self ..)), tn_nx, e]
theorem sm_r_0 (H : HH) : callN P 40 i__law_same [.lst (qt (0 : Nat)).rowsW, (qt (0 : Nat)).D] H = .ok (.val (.bl true)) H := by kernel_rfl
theorem sm_r_1 (H : HH) : callN P 40 i__law_same [.lst (qt (1 : Nat)).rowsW, (qt (1 : Nat)).D] H = .ok (.val (.bl true)) H := by kernel_rfl
theorem sm_r_2 (H : HH) : callN P 40 i__law_same [.lst (qt (2 : Nat)).rowsW, (qt (2 : Nat)).D] H = .ok (.val (.bl true)) H := by kernel_rfl
theorem sm_r_3 (H : HH) : callN P 40 i__law_same [.lst (qt (3 : Nat)).rowsW, (qt (3 : Nat)).D] H = .ok (.val (.bl true)) H := by kernel_rfl
theorem sm_r_4 (H : HH) : callN P 40 i__law_same [.lst (qt (4 : Nat)).rowsW, (qt (4 : Nat)).D] H = .ok (.val (.bl true)) H := by kernel_rfl
theorem sm_r_5 (H : HH) : callN P 40 i__law_same [.lst (qt (5 : Nat)).rowsW, (qt (5 : Nat)).D] H = .ok (.val (.bl true)) H := by kernel_rfl
theorem sm_r_6 (H : HH) : callN P 40 i__law_same [.lst (qt (6 : Nat)).rowsW, (qt (6 : Nat)).D] H = .ok (.val (.bl true)) H := by kernel_rfl
theorem sm_r_7 (H : HH) : callN P 40 i__law_same [.lst (qt (7 : Nat)).rowsW, (qt (7 : Nat)).D] H = .ok (.val (.bl true)) H := by kernel_rfl
theorem sm_r_8 (H : HH) : callN P 40 i__law_same [.lst (qt (8 : Nat)).rowsW, (qt (8 : Nat)).D] H = .ok (.val (.bl true)) H := by kernel_rfl
theorem sm_r_9 (H : HH) : callN P 40 i__law_same [.lst (qt (9 : Nat)).rowsW, (qt (9 : Nat)).D] H = .ok (.val (.bl true)) H := by kernel_rfl
theorem sm_r_10 (H : HH) : callN P 40 i__law_same [.lst (qt (10 : Nat)).rowsW, (qt (10 : Nat)).D] H = .ok (.val (.bl true)) H := by kernel_rfl
theorem sm_r_11 (H : HH) : callN P 40 i__law_same [.lst (qt (11 : Nat)).rowsW, (qt (11 : Nat)).D] H = .ok (.val (.bl true)) H := by kernel_rfl
theorem sm_r_12 (H : HH) : callN P 40 i__law_same [.lst (qt (12 : Nat)).rowsW, (qt (12 : Nat)).D] H = .ok (.val (.bl true)) H := by kernel_rfl
theorem sm_r_13 (H : HH) : callN P 40 i__law_same [.lst (qt (13 : Nat)).rowsW, (qt (13 : Nat)).D] H = .ok (.val (.bl true)) H := by kernel_rfl
theorem sm_r_14 (H : HH) : callN P 40 i__law_same [.lst (qt (14 : Nat)).rowsW, (qt (14 : Nat)).D] H = .ok (.val (.bl true)) H := by kernel_rfl
theorem sm_r_15 (H : HH) : callN P 40 i__law_same [.lst (qt (15 : Nat)).rowsW, (qt (15 : Nat)).D] H = .ok (.val (.bl true)) H := by kernel_rfl
theorem sm_r_16 (H : HH) : callN P 40 i__law_same [.lst (qt (16 : Nat)).rowsW, (qt (16 : Nat)).D] H = .ok (.val (.bl true)) H := by kernel_rfl
theorem sm_r_17 (H : HH) : callN P 40 i__law_same [.lst (qt (17 : Nat)).rowsW, (qt (17 : Nat)).D] H = .ok (.val (.bl true)) H := by kernel_rfl
theorem sm_r_18 (H : HH) : callN P 40 i__law_same [.lst (qt (18 : Nat)).rowsW, (qt (18 : Nat)).D] H = .ok (.val (.bl true)) H := by kernel_rfl
theorem sm_r_19 (H : HH) : callN P 40 i__law_same [.lst (qt (19 : Nat)).rowsW, (qt (19 : Nat)).D] H = .ok (.val (.bl true)) H := by kernel_rfl
theorem sm_r_20 (H : HH) : callN P 40 i__law_same [.lst (qt (20 : Nat)).rowsW, (qt (20 : Nat)).D] H = .ok (.val (.bl true)) H := by kernel_rfl
theorem sm_r_21 (H : HH) : callN P 40 i__law_same [.lst (qt (21 : Nat)).rowsW, (qt (21 : Nat)).D] H = .ok (.val (.bl true)) H := by kernel_rfl
theorem sm_r_22 (H : HH) : callN P 40 i__law_same [.lst (qt (22 : Nat)).rowsW, (qt (22 : Nat)).D] H = .ok (.val (.bl true)) H := by kernel_rfl
theorem sm_r_23 (H : HH) : callN P 40 i__law_same [.lst (qt (23 : Nat)).rowsW, (qt (23 : Nat)).D] H = .ok (.val (.bl true)) H := by kernel_rfl
theorem sm_r : ∀ q : Nat, q < 24 → ∀ H : HH, callN P 40 i__law_same [.lst (qt q).rowsW, (qt q).D] H = .ok (.val (.bl true)) H
  | 0, _, H => sm_r_0 H
  | 1, _, H => sm_r_1 H
  | 2, _, H => sm_r_2 H
  | 3, _, H => sm_r_3 H
  | 4, _, H => sm_r_4 H
  | 5, _, H => sm_r_5 H
  | 6, _, H => sm_r_6 H
  | 7, _, H => sm_r_7 H
  | 8, _, H => sm_r_8 H
  | 9, _, H => sm_r_9 H
  | 10, _, H => sm_r_10 H
  | 11, _, H => sm_r_11 H
  | 12, _, H => sm_r_12 H
  | 13, _, H => sm_r_13 H
  | 14, _, H => sm_r_14 H
  | 15, _, H => sm_r_15 H
  | 16, _, H => sm_r_16 H
  | 17, _, H => sm_r_17 H
  | 18, _, H => sm_r_18 H
  | 19, _, H => sm_r_19 H
  | 20, _, H => sm_r_20 H
  | 21, _, H => sm_r_21 H
  | 22, _, H => sm_r_22 H
  | 23, _, H => sm_r_23 H
  | n + 24, h, _ => absurd h (by omega)
theorem sm_s_0 (H : HH) : callN P 40 i__law_same [(sq (0 : Nat)).D, (sq (0 : Nat)).D] H = .ok (.val (.bl true)) H := by kernel_rfl
theorem sm_s_1 (H : HH) : callN P 40 i__law_same [(sq (1 : Nat)).D, (sq (1 : Nat)).D] H = .ok (.val (.bl true)) H := by kernel_rfl
theorem sm_s_2 (H : HH) : callN P 40 i__law_same [(sq (2 : Nat)).D, (sq (2 : Nat)).D] H = .ok (.val (.bl true)) H := by kernel_rfl
theorem sm_s_3 (H : HH) : callN P 40 i__law_same [(sq (3 : Nat)).D, (sq (3 : Nat)).D] H = .ok (.val (.bl true)) H := by kernel_rfl
theorem sm_s_4 (H : HH) : callN P 40 i__law_same [(sq (4 : Nat)).D, (sq (4 : Nat)).D] H = .ok (.val (.bl true)) H := by kernel_rfl
theorem sm_s_5 (H : HH) : callN P 40 i__law_same [(sq (5 : Nat)).D, (sq (5 : Nat)).D] H = .ok (.val (.bl true)) H := by kernel_rfl
theorem sm_s_6 (H : HH) : callN P 40 i__law_same [(sq (6 : Nat)).D, (sq (6 : Nat)).D] H = .ok (.val (.bl true)) H := by kernel_rfl
theorem sm_s_7 (H : HH) : callN P 40 i__law_same [(sq (7 : Nat)).D, (sq (7 : Nat)).D] H = .ok (.val (.bl true)) H := by kernel_rfl
theorem sm_s_8 (H : HH) : callN P 40 i__law_same [(sq (8 : Nat)).D, (sq (8 : Nat)).D] H = .ok (.val (.bl true)) H := by kernel_rfl
theorem sm_s_9 (H : HH) : callN P 40 i__law_same [(sq (9 : Nat)).D, (sq (9 : Nat)).D] H = .ok (.val (.bl true)) H := by kernel_rfl
theorem sm_s_10 (H : HH) : callN P 40 i__law_same [(sq (10 : Nat)).D, (sq (10 : Nat)).D] H = .ok (.val (.bl true)) H := by kernel_rfl
theorem sm_s_11 (H : HH) : callN P 40 i__law_same [(sq (11 : Nat)).D, (sq (11 : Nat)).D] H = .ok (.val (.bl true)) H := by kernel_rfl
theorem sm_s_12 (H : HH) : callN P 40 i__law_same [(sq (12 : Nat)).D, (sq (12 : Nat)).D] H = .ok (.val (.bl true)) H := by kernel_rfl
theorem sm_s_13 (H : HH) : callN P 40 i__law_same [(sq (13 : Nat)).D, (sq (13 : Nat)).D] H = .ok (.val (.bl true)) H := by kernel_rfl
theorem sm_s_14 (H : HH) : callN P 40 i__law_same [(sq (14 : Nat)).D, (sq (14 : Nat)).D] H = .ok (.val (.bl true)) H := by kernel_rfl
theorem sm_s_15 (H : HH) : callN P 40 i__law_same [(sq (15 : Nat)).D, (sq (15 : Nat)).D] H = .ok (.val (.bl true)) H := by kernel_rfl
theorem sm_s_16 (H : HH) : callN P 40 i__law_same [(sq (16 : Nat)).D, (sq (16 : Nat)).D] H = .ok (.val (.bl true)) H := by kernel_rfl
theorem sm_s_17 (H : HH) : callN P 40 i__law_same [(sq (17 : Nat)).D, (sq (17 : Nat)).D] H = .ok (.val (.bl true)) H := by kernel_rfl
theorem sm_s_18 (H : HH) : callN P 40 i__law_same [(sq (18 : Nat)).D, (sq (18 : Nat)).D] H = .ok (.val (.bl true)) H := by kernel_rfl
theorem sm_s_19 (H : HH) : callN P 40 i__law_same [(sq (19 : Nat)).D, (sq (19 : Nat)).D] H = .ok (.val (.bl true)) H := by kernel_rfl
theorem sm_s_20 (H : HH) : callN P 40 i__law_same [(sq (20 : Nat)).D, (sq (20 : Nat)).D] H = .ok (.val (.bl true)) H := by kernel_rfl
theorem sm_s_21 (H : HH) : callN P 40 i__law_same [(sq (21 : Nat)).D, (sq (21 : Nat)).D] H = .ok (.val (.bl true)) H := by kernel_rfl
theorem sm_s_22 (H : HH) : callN P 40 i__law_same [(sq (22 : Nat)).D, (sq (22 : Nat)).D] H = .ok (.val (.bl true)) H := by kernel_rfl
theorem sm_s_23 (H : HH) : callN P 40 i__law_same [(sq (23 : Nat)).D, (sq (23 : Nat)).D] H = .ok (.val (.bl true)) H := by kernel_rfl
theorem sm_s : ∀ q : Nat, q < 24 → ∀ H : HH, callN P 40 i__law_same [(sq q).D, (sq q).D] H = .ok (.val (.bl true)) H
  | 0, _, H => sm_s_0 H
  | 1, _, H => sm_s_1 H
  | 2, _, H => sm_s_2 H
  | 3, _, H => sm_s_3 H
  | 4, _, H => sm_s_4 H
  | 5, _, H => sm_s_5 H
  | 6, _, H => sm_s_6 H
  | 7, _, H => sm_s_7 H
  | 8, _, H => sm_s_8 H
  | 9, _, H => sm_s_9 H
  | 10, _, H => sm_s_10 H
  | 11, _, H => sm_s_11 H
  | 12, _, H => sm_s_12 H
  | 13, _, H => sm_s_13 H
  | 14, _, H => sm_s_14 H
  | 15, _, H => sm_s_15 H
  | 16, _, H => sm_s_16 H
  | 17, _, H => sm_s_17 H
  | 18, _, H => sm_s_18 H
  | 19, _, H => sm_s_19 H
  | 20, _, H => sm_s_20 H
  | 21, _, H => sm_s_21 H
  | 22, _, H => sm_s_22 H
  | 23, _, H => sm_s_23 H
  | n + 24, h, _ => absurd h (by omega)
theorem it_q_0 (H : HH) : itemD P.wd due (.int ((0 : Nat) : Nat)) H = some (qt (0 : Nat)).D := by kernel_rfl
theorem it_q_1 (H : HH) : itemD P.wd due (.int ((1 : Nat) : Nat)) H = some (qt (1 : Nat)).D := by kernel_rfl
theorem it_q_2 (H : HH) : itemD P.wd due (.int ((2 : Nat) : Nat)) H = some (qt (2 : Nat)).D := by kernel_rfl
theorem it_q_3 (H : HH) : itemD P.wd due (.int ((3 : Nat) : Nat)) H = some (qt (3 : Nat)).D := by kernel_rfl
theorem it_q_4 (H : HH) : itemD P.wd due (.int ((4 : Nat) : Nat)) H = some (qt (4 : Nat)).D := by kernel_rfl
theorem it_q_5 (H : HH) : itemD P.wd due (.int ((5 : Nat) : Nat)) H = some (qt (5 : Nat)).D := by kernel_rfl
theorem it_q_6 (H : HH) : itemD P.wd due (.int ((6 : Nat) : Nat)) H = some (qt (6 : Nat)).D := by kernel_rfl
theorem it_q_7 (H : HH) : itemD P.wd due (.int ((7 : Nat) : Nat)) H = some (qt (7 : Nat)).D := by kernel_rfl
theorem it_q_8 (H : HH) : itemD P.wd due (.int ((8 : Nat) : Nat)) H = some (qt (8 : Nat)).D := by kernel_rfl
theorem it_q_9 (H : HH) : itemD P.wd due (.int ((9 : Nat) : Nat)) H = some (qt (9 : Nat)).D := by kernel_rfl
theorem it_q_10 (H : HH) : itemD P.wd due (.int ((10 : Nat) : Nat)) H = some (qt (10 : Nat)).D := by kernel_rfl
theorem it_q_11 (H : HH) : itemD P.wd due (.int ((11 : Nat) : Nat)) H = some (qt (11 : Nat)).D := by kernel_rfl
theorem it_q_12 (H : HH) : itemD P.wd due (.int ((12 : Nat) : Nat)) H = some (qt (12 : Nat)).D := by kernel_rfl
theorem it_q_13 (H : HH) : itemD P.wd due (.int ((13 : Nat) : Nat)) H = some (qt (13 : Nat)).D := by kernel_rfl
theorem it_q_14 (H : HH) : itemD P.wd due (.int ((14 : Nat) : Nat)) H = some (qt (14 : Nat)).D := by kernel_rfl
theorem it_q_15 (H : HH) : itemD P.wd due (.int ((15 : Nat) : Nat)) H = some (qt (15 : Nat)).D := by kernel_rfl
theorem it_q_16 (H : HH) : itemD P.wd due (.int ((16 : Nat) : Nat)) H = some (qt (16 : Nat)).D := by kernel_rfl
theorem it_q_17 (H : HH) : itemD P.wd due (.int ((17 : Nat) : Nat)) H = some (qt (17 : Nat)).D := by kernel_rfl
theorem it_q_18 (H : HH) : itemD P.wd due (.int ((18 : Nat) : Nat)) H = some (qt (18 : Nat)).D := by kernel_rfl
theorem it_q_19 (H : HH) : itemD P.wd due (.int ((19 : Nat) : Nat)) H = some (qt (19 : Nat)).D := by kernel_rfl
theorem it_q_20 (H : HH) : itemD P.wd due (.int ((20 : Nat) : Nat)) H = some (qt (20 : Nat)).D := by kernel_rfl
theorem it_q_21 (H : HH) : itemD P.wd due (.int ((21 : Nat) : Nat)) H = some (qt (21 : Nat)).D := by kernel_rfl
theorem it_q_22 (H : HH) : itemD P.wd due (.int ((22 : Nat) : Nat)) H = some (qt (22 : Nat)).D := by kernel_rfl
theorem it_q_23 (H : HH) : itemD P.wd due (.int ((23 : Nat) : Nat)) H = some (qt (23 : Nat)).D := by kernel_rfl
theorem it_q : ∀ q : Nat, q < 24 → ∀ H : HH, itemD P.wd due (.int (q : Nat)) H = some (qt q).D
  | 0, _, H => it_q_0 H
  | 1, _, H => it_q_1 H
  | 2, _, H => it_q_2 H
  | 3, _, H => it_q_3 H
  | 4, _, H => it_q_4 H
  | 5, _, H => it_q_5 H
  | 6, _, H => it_q_6 H
  | 7, _, H => it_q_7 H
  | 8, _, H => it_q_8 H
  | 9, _, H => it_q_9 H
  | 10, _, H => it_q_10 H
  | 11, _, H => it_q_11 H
  | 12, _, H => it_q_12 H
  | 13, _, H => it_q_13 H
  | 14, _, H => it_q_14 H
  | 15, _, H => it_q_15 H
  | 16, _, H => it_q_16 H
  | 17, _, H => it_q_17 H
  | 18, _, H => it_q_18 H
  | 19, _, H => it_q_19 H
  | 20, _, H => it_q_20 H
  | 21, _, H => it_q_21 H
  | 22, _, H => it_q_22 H
  | 23, _, H => it_q_23 H
  | n + 24, h, _ => absurd h (by omega)
theorem ap_row {h1 : HH} {r : List MV.D} (hr : r.length < 100) : appendD (.ref h1.length) [.non] (h1 ++ [O.lst r]) = .ok .non (h1 ++ [O.lst (r ++ [.non])]) := by
  have e : (h1 ++ [O.lst r])[h1.length]? = some (O.lst r) := by simp
  have b : Nat.blt r.length line = true := Nat.ble_eq_true_of_le (by unfold line; omega)
  unfold appendD
  simp [e, b]
theorem main (ns : List Int) (hl : ns.length ≤ 63) : ∃ h', MV.body P (MV.callN P 40) F_law [.bor (ns.map .int)] [] = .ok (.bl true) h' := by
  obtain ⟨bo, e0, bg⟩ := bag_call (k := 40) (by decide) hl []
  have bg : BagAt [O.lst bo] 0 0 := bg
  have r24 : rangeL 0 24 = (List.range 24).map fun (j : Nat) => MV.D.int (j : Nat) := by kernel_rfl
  have s24 : smallI 24 = true := rfl
  have q0 : ∀ H, callN P 40 i__law_quarters [] H = .ok (.newl (QT.map Mat.D)) H := fun H => quarters_ans.call rfl (by decide)
  have c0 := fun H => cmp_rows (some (.bor (ns.map .int))) (some (.ref 0)) H
  have same0 := same_rows
  have mkQ : ∀ H : HH, mkL false QW H = .ok (.lst QW) H := fun H => rfl
  have sr : ∀ H, bltD false .sorted [due] H = .ok due H := fun H => due_srt
  obtain ⟨q, h1, p1, hq, bg1, ch1, _⟩ := pull_c (m := 40) (k := 24) bg (by decide) (by decide) (by decide) (by decide)
  rw [show ((24 : Nat) : Int) = 24 from rfl] at p1
  have q1 : ∀ H, callN P 40 i_quarter_rows [.int (q : Nat)] H = .ok (.newl (qt q).rowsW) H := fun H => (qrows_ans q hq).call rfl (by decide)
  have q2 : ∀ H, callN P 40 i_quarter_spin [.int (q : Nat)] H = .ok (.val (sq q).D) H := fun H => (qspin_ans q hq).call rfl (by decide)
  have q3 := fun H => sm_r q hq H
  have q4 := fun H => sm_s q hq H
  have q5 := fun H => it_q q hq H
  have ap := ap_row (h1 := h1) (r := (qt q).rowsW) (by show 3 < 100; decide)
  have bg2 := bg1.app [O.lst ((qt q).rowsW ++ [.non])]
  generalize h1 ++ [O.lst ((qt q).rowsW ++ [.non])] = h2 at ap bg2
  obtain ⟨y4, y5, y6, lp⟩ := t_loop (some (.bor (ns.map .int))) (some (.ref 0)) (some (.int (q : Nat))) none none none none h2 (List.range 24) (fun r hr => List.mem_range.mp hr) (some (sq q).D) none none
  rw [← r24] at lp
  obtain ⟨r, h3, p2, hr, bg3, ch3, _⟩ := pull_c (m := 40) (k := 1000000000) bg2 (by decide) (by decide) (by decide) (by decide)
  rw [show ((1000000000 : Nat) : Int) = 1000000000 from rfl] at p2
  obtain ⟨i, dd, h4, p3, q6, bg4, ch4, _⟩ := of_call (m := 40) (l := [.int 24, .int (-1), .int (25 + (r : Nat)), .int (-24)]) (by decide) bg3 (by simp) (by simp) (by decide)
  have hdd : ∃ d : Int, dd = .int d ∧ (d < 0 ∨ 24 ≤ d) := by
    have w := List.mem_of_getElem? q6
    simp only [List.mem_cons, List.not_mem_nil, or_false] at w
    rcases w with rfl | rfl | rfl | rfl
    · exact ⟨_, rfl, by omega⟩
    · exact ⟨_, rfl, by omega⟩
    · exact ⟨_, rfl, by omega⟩
    · exact ⟨_, rfl, by omega⟩
  obtain ⟨d, rfl, hd⟩ := hdd
  have l0 := fun H => lam_a hd H
  have l1 := fun H => lam_b hd H
  have c18 : capsJ P 18 = some [7] := rfl
  have c19 : capsJ P 19 = some [7] := rfl
  have iq : PySem.PyData.strOk "InvalidQuarter" = true := by decide +kernel
  have st : Sim 1 (.tup [.str "InvalidQuarter", .int d]) (.tup [.str "InvalidQuarter", .int d]) := .seq (n := 0) (.inl ⟨.inl rfl, .inl rfl⟩) (.cons rfl rfl (.str 0 _ iq) (.cons rfl rfl (.int 0 _) (.nil 0))) (by show 2 ≤ line; decide)
  have l2 : ∀ H, callN P 40 i__law_same [.lst [.tup [.str "InvalidQuarter", .int d], .tup [.str "InvalidQuarter", .int d]], .lst [.tup [.str "InvalidQuarter", .int d], .tup [.str "InvalidQuarter", .int d]]] H = .ok (.val (.bl true)) H := fun H =>
    (same_ans (.seq (n := 1) (.inr ⟨.inl rfl, .inl rfl⟩) (.cons rfl rfl st (.cons rfl rfl st (.nil 1))) (by show 2 ≤ line; decide))).call (lends2 (lend_lst rfl) (lend_lst rfl)) (by decide)
  have l3 : ∀ H, callN P 40 i_quarter_rows [.int 23] H = .ok (.newl (qt 23).rowsW) H := fun H => (qrows_ans 23 (by decide)).call rfl (by decide)
  have l4 : ∀ H, callN P 40 i__law_same [.lst [.int 24, .int 23, .lst (qt 23).rowsW], .lst [.int 24, .int 23, .lst [.tup [.int 1, .int 0, .int 0], .tup [.int 0, .int 1, .int 0], .tup [.int 0, .int 0, .int 1]]]] H = .ok (.val (.bl true)) H := fun H => by kernel_rfl
  have m2 : ∀ {x : MV.D} {H : HH}, mulD false (.lst [x]) (.int 2) H = .ok (.lst [x, x]) H := fun {x H} => rfl
  have p9 : powOk 10 9 = true := by decide
  simp only [tB, lpS, nthS, fstS, sndS, b_law] at lp
  refine ⟨h4, body_rt rfl ?_⟩
  have dq : MV.D.lst (List.map Mat.D QT) = due := rfl
  have ed := eq_due
  generalize due = DU at *
  generalize (sq q).D = SD at *
  generalize (qt q).rowsW = RW at *
  generalize QW = QWl at *
  generalize (qt 23).rowsW = R23 at *
  simp [F_law, b_law, startE, e0, q0, dq, s24, c0, mkQ, same0, sr, ed, p1, q1, ap, q2, q3, q5, q4, lp, compL_cons, m2, p9, p2, p3, c18, c19, l0, l1, l2, l3, l4, d_QUARTERS, d_STILL]

end MV.X

set_option maxRecDepth 100000
set_option maxHeartbeats 4000000
/-! the text of the law, by gen.py -/
namespace MV.X
open PySem PySem.Spec PyProof.Rows L2 MV
def topS (i : Nat) : Stmt := PySem.Challenge.pw_peelpose_k04_quarters_listed.main.body.getD i (.Pass ⟨0, 0, 0, 0⟩)
def clsAt (s : Stmt) (j : Nat) : Stmt := match s with
  | .ClassDef _ _ _ b _ _ _ _ _ _ _ => b.getD j (.Pass ⟨0, 0, 0, 0⟩)
  | _ => .Pass ⟨0, 0, 0, 0⟩
def pgA (K : PySem.W.Frag) (C : Addr) (m : Str) : Addr := match PySem.W.findIn K (.ref C) m with
  | some (some (.ref p)) => (match PySem.W.recIn K p "property" with
    | some (.ref a :: _) => a
    | _ => 0)
  | _ => 0
def lw : FnE := { adr := fun K => He.ga K "law", name := "law", qual := "law", params := defArgs (topS 33), bd := defBody (topS 33), scope := defScope (topS 33), N := ["_law_script", "_law_bag_here", "_law_due", "_law_at_z", "_law_found_z", "_law_step_z", "_law_size", "_law_odd", "_law_asks", "_law_entry", "_law_ask"], ps := ["_law_script"], f := F_law }
def es : List FnE := [
  { adr := fun K => He.ga K "_law_bag", name := "_law_bag", qual := "_law_bag", params := defArgs (topS 23), bd := defBody (topS 23), scope := defScope (topS 23), N := ["_law_script", "_law_salt", "_law_cell"], ps := ["_law_script"], f := F__law_bag },
  { adr := fun K => He.ga K "_law_quarters", name := "_law_quarters", qual := "_law_quarters", params := defArgs (topS 31), bd := defBody (topS 31), scope := defScope (topS 31), N := ["_law_axes", "_law_found_z", "_law_a", "_law_b", "_law_c", "_law_d", "_law_e", "_law_f"], ps := [], f := F__law_quarters },
  { adr := fun K => He.ga K "_law_same", name := "_law_same", qual := "_law_same", params := defArgs (topS 26), bd := defBody (topS 26), scope := defScope (topS 26), N := ["_law_found_z", "_law_due", "_law_k"], ps := ["_law_found_z", "_law_due"], f := F__law_same },
  { adr := fun K => He.ga K "quarter_rows", name := "quarter_rows", qual := "quarter_rows", params := defArgs (topS 20), bd := defBody (topS 20), scope := defScope (topS 20), N := ["quarter", "axis"], ps := ["quarter"], f := F_quarter_rows },
  { adr := fun K => He.ga K "_law_pull", name := "_law_pull", qual := "_law_pull", params := defArgs (topS 24), bd := defBody (topS 24), scope := defScope (topS 24), N := ["_law_bag_here", "_law_sides_z", "_law_cell", "_law_got", "_law_seed"], ps := ["_law_bag_here", "_law_sides_z"], f := F__law_pull },
  { adr := fun K => He.ga K "quarter_spin", name := "quarter_spin", qual := "quarter_spin", params := defArgs (topS 21), bd := defBody (topS 21), scope := defScope (topS 21), N := ["quarter", "rows", "near", "size", "a", "b", "c", "d", "spin", "due", "row", "entry"], ps := ["quarter"], f := F_quarter_spin },
  { adr := fun K => He.ga K "_law_norm", name := "_law_norm", qual := "_law_norm", params := defArgs (topS 29), bd := defBody (topS 29), scope := defScope (topS 29), N := ["_law_spin_z", "_law_entry"], ps := ["_law_spin_z"], f := F__law_norm },
  { adr := fun K => He.ga K "_law_table", name := "_law_table", qual := "_law_table", params := defArgs (topS 30), bd := defBody (topS 30), scope := defScope (topS 30), N := ["_law_spin_z", "_law_a", "_law_b", "_law_c", "_law_d"], ps := ["_law_spin_z"], f := F__law_table },
  { adr := fun K => He.ga K "_law_scaled", name := "_law_scaled", qual := "_law_scaled", params := defArgs (topS 32), bd := defBody (topS 32), scope := defScope (topS 32), N := ["_law_rows_z", "_law_size", "_law_row_z", "_law_entry"], ps := ["_law_rows_z", "_law_size"], f := F__law_scaled },
  { adr := fun K => He.ga K "_law_of", name := "_law_of", qual := "_law_of", params := defArgs (topS 25), bd := defBody (topS 25), scope := defScope (topS 25), N := ["_law_bag_here", "_law_some"], ps := ["_law_bag_here", "_law_some"], f := F__law_of },
  { adr := fun K => He.ga K "check_quarter", name := "check_quarter", qual := "check_quarter", params := defArgs (topS 16), bd := defBody (topS 16), scope := defScope (topS 16), N := ["quarter"], ps := ["quarter"], f := F_check_quarter },
  { adr := fun K => He.ga K "sides", name := "sides", qual := "sides", params := defArgs (topS 19), bd := defBody (topS 19), scope := defScope (topS 19), N := ["quarter", "first", "second"], ps := ["quarter"], f := F_sides },
  { adr := fun K => He.ga K "norm", name := "norm", qual := "norm", params := defArgs (topS 8), bd := defBody (topS 8), scope := defScope (topS 8), N := ["spin", "entry"], ps := ["spin"], f := F_norm },
  { adr := fun K => He.ga K "primitive", name := "primitive", qual := "primitive", params := defArgs (topS 10), bd := defBody (topS 10), scope := defScope (topS 10), N := ["spin", "divisor", "entry"], ps := ["spin"], f := F_primitive },
  { adr := fun K => He.ga K "table_of", name := "table_of", qual := "table_of", params := defArgs (topS 11), bd := defBody (topS 11), scope := defScope (topS 11), N := ["spin", "a", "b", "c", "d"], ps := ["spin"], f := F_table_of },
  { adr := fun K => He.ga K "others_of", name := "others_of", qual := "others_of", params := defArgs (topS 17), bd := defBody (topS 17), scope := defScope (topS 17), N := ["axis", "other"], ps := ["axis"], f := F_others_of },
  { adr := fun K => He.ga K "cross", name := "cross", qual := "cross", params := defArgs (topS 18), bd := defBody (topS 18), scope := defScope (topS 18), N := ["one", "other", "a", "b", "c", "d", "e", "f"], ps := ["one", "other"], f := F_cross },
  { adr := fun K => He.ga K "common_divisor", name := "common_divisor", qual := "common_divisor", params := defArgs (topS 9), bd := defBody (topS 9), scope := defScope (topS 9), N := ["one", "other"], ps := ["one", "other"], f := F_common_divisor }
]
def ss : List ShE := [
  ⟨.glob, "_law_bag", 1, [], 0, [.a 0]⟩,
  ⟨.glob, "_law_quarters", 0, [], 1, []⟩,
  ⟨.glob, "_law_same", 2, [], 2, [.a 0, .a 1]⟩,
  ⟨.glob, "quarter_rows", 1, [], 3, [.a 0]⟩,
  ⟨.glob, "_law_pull", 2, [], 4, [.a 0, .a 1]⟩,
  ⟨.glob, "quarter_spin", 1, [], 5, [.a 0]⟩,
  ⟨.glob, "quarter_rows", 0, ["quarter"], 3, [.a 0]⟩,
  ⟨.glob, "quarter_spin", 0, ["quarter"], 5, [.a 0]⟩,
  ⟨.glob, "_law_norm", 1, [], 6, [.a 0]⟩,
  ⟨.glob, "_law_table", 1, [], 7, [.a 0]⟩,
  ⟨.glob, "_law_scaled", 2, [], 8, [.a 0, .a 1]⟩,
  ⟨.glob, "_law_of", 2, [], 9, [.a 0, .a 1]⟩,
  ⟨.glob, "check_quarter", 1, [], 10, [.a 0]⟩,
  ⟨.glob, "sides", 1, [], 11, [.a 0]⟩,
  ⟨.glob, "norm", 1, [], 12, [.a 0]⟩,
  ⟨.glob, "primitive", 1, [], 13, [.a 0]⟩,
  ⟨.glob, "table_of", 1, [], 14, [.a 0]⟩,
  ⟨.glob, "others_of", 1, [], 15, [.a 0]⟩,
  ⟨.glob, "cross", 2, [], 16, [.a 0, .a 1]⟩,
  ⟨.glob, "common_divisor", 2, [], 17, [.a 0, .a 1]⟩
]
def xs : List XnE := [{ cls := "InvalidQuarter", n := 1, e := { adr := fun K => He.ma K (He.ga K "InvalidQuarter") "__init__", name := "__init__", qual := "InvalidQuarter.__init__", params := defArgs (clsAt (topS 4) 0), bd := defBody (clsAt (topS 4) 0), scope := defScope (clsAt (topS 4) 0), N := ["self", "at"], ps := ["self", "at"], f := { kind := .fn true, np := 2, nl := 2, body := .skip } } },
  { cls := "InvalidSpin", n := 0, e := { adr := fun K => He.ma K (He.ga K "InvalidSpin") "__init__", name := "__init__", qual := "InvalidSpin.__init__", params := defArgs (clsAt (topS 3) 0), bd := defBody (clsAt (topS 3) 0), scope := defScope (clsAt (topS 3) 0), N := ["self"], ps := ["self"], f := { kind := .fn true, np := 1, nl := 1, body := .skip } } }]
def tr : Option TrE := some ⟨{ adr := fun K => He.ga K "_law_try", name := "_law_try", qual := "_law_try", params := defArgs (topS 28), bd := defBody (topS 28), scope := defScope (topS 28), N := ["_law_ask", "_law_e"], ps := ["_law_ask"], f := { kind := .fn true, np := 1, nl := 2, body := .skip } }, { adr := fun K => He.ga K "_law_field", name := "_law_field", qual := "_law_field", params := defArgs (topS 27), bd := defBody (topS 27), scope := defScope (topS 27), N := ["_law_e"], ps := ["_law_e"], f := { kind := .fn true, np := 1, nl := 1, body := .skip } }, none⟩
def T0 : Tb := { nm := ["tag", "at", "most", "name", "given", "first", "number", "line"], gn := ["QUARTERS", "STILL", "AXES", "ONE"], cn := [], sn := ss.map fun s => (s.sk, s.nm, s.n, s.ks), xn := xs.map fun x => (x.cls, x.n), lc := [7], tr := true, tw := false }
def T : Tx := { toTb := { T0 with lk := lamK P T0 ["_law_script", "_law_bag_here", "_law_due", "_law_at_z", "_law_found_z", "_law_step_z", "_law_size", "_law_odd", "_law_asks", "_law_entry", "_law_ask"] }, wn := [], lN := ["_law_script", "_law_bag_here", "_law_due", "_law_at_z", "_law_found_z", "_law_step_z", "_law_size", "_law_odd", "_law_asks", "_law_entry", "_law_ask"], lS := some (defScope (topS 33)) }
theorem bnd0 : ShE.bind es (ss.getD 0 ⟨.glob, "", 0, [], 0, []⟩) := bind_0 rfl rfl fun _ _ _ _ _ _ us ws h1 h2 => match us, ws, h1, h2 with | [_], [], _, _ => rfl
theorem bnd1 : ShE.bind es (ss.getD 1 ⟨.glob, "", 0, [], 0, []⟩) := bind_0 rfl rfl fun _ _ _ _ _ _ us ws h1 h2 => match us, ws, h1, h2 with | [], [], _, _ => rfl
theorem bnd2 : ShE.bind es (ss.getD 2 ⟨.glob, "", 0, [], 0, []⟩) := bind_0 rfl rfl fun _ _ _ _ _ _ us ws h1 h2 => match us, ws, h1, h2 with | [_, _], [], _, _ => rfl
theorem bnd3 : ShE.bind es (ss.getD 3 ⟨.glob, "", 0, [], 0, []⟩) := bind_0 rfl rfl fun _ _ _ _ _ _ us ws h1 h2 => match us, ws, h1, h2 with | [_], [], _, _ => rfl
theorem bnd4 : ShE.bind es (ss.getD 4 ⟨.glob, "", 0, [], 0, []⟩) := bind_0 rfl rfl fun _ _ _ _ _ _ us ws h1 h2 => match us, ws, h1, h2 with | [_, _], [], _, _ => rfl
theorem bnd5 : ShE.bind es (ss.getD 5 ⟨.glob, "", 0, [], 0, []⟩) := bind_0 rfl rfl fun _ _ _ _ _ _ us ws h1 h2 => match us, ws, h1, h2 with | [_], [], _, _ => rfl
theorem bnd6 : ShE.bind es (ss.getD 6 ⟨.glob, "", 0, [], 0, []⟩) := bind_0 rfl rfl fun _ _ _ _ _ _ us ws h1 h2 => match us, ws, h1, h2 with | [], [_], _, _ => rfl
theorem bnd7 : ShE.bind es (ss.getD 7 ⟨.glob, "", 0, [], 0, []⟩) := bind_0 rfl rfl fun _ _ _ _ _ _ us ws h1 h2 => match us, ws, h1, h2 with | [], [_], _, _ => rfl
theorem bnd8 : ShE.bind es (ss.getD 8 ⟨.glob, "", 0, [], 0, []⟩) := bind_0 rfl rfl fun _ _ _ _ _ _ us ws h1 h2 => match us, ws, h1, h2 with | [_], [], _, _ => rfl
theorem bnd9 : ShE.bind es (ss.getD 9 ⟨.glob, "", 0, [], 0, []⟩) := bind_0 rfl rfl fun _ _ _ _ _ _ us ws h1 h2 => match us, ws, h1, h2 with | [_], [], _, _ => rfl
theorem bnd10 : ShE.bind es (ss.getD 10 ⟨.glob, "", 0, [], 0, []⟩) := bind_0 rfl rfl fun _ _ _ _ _ _ us ws h1 h2 => match us, ws, h1, h2 with | [_, _], [], _, _ => rfl
theorem bnd11 : ShE.bind es (ss.getD 11 ⟨.glob, "", 0, [], 0, []⟩) := bind_0 rfl rfl fun _ _ _ _ _ _ us ws h1 h2 => match us, ws, h1, h2 with | [_, _], [], _, _ => rfl
theorem bnd12 : ShE.bind es (ss.getD 12 ⟨.glob, "", 0, [], 0, []⟩) := bind_0 rfl rfl fun _ _ _ _ _ _ us ws h1 h2 => match us, ws, h1, h2 with | [_], [], _, _ => rfl
theorem bnd13 : ShE.bind es (ss.getD 13 ⟨.glob, "", 0, [], 0, []⟩) := bind_0 rfl rfl fun _ _ _ _ _ _ us ws h1 h2 => match us, ws, h1, h2 with | [_], [], _, _ => rfl
theorem bnd14 : ShE.bind es (ss.getD 14 ⟨.glob, "", 0, [], 0, []⟩) := bind_0 rfl rfl fun _ _ _ _ _ _ us ws h1 h2 => match us, ws, h1, h2 with | [_], [], _, _ => rfl
theorem bnd15 : ShE.bind es (ss.getD 15 ⟨.glob, "", 0, [], 0, []⟩) := bind_0 rfl rfl fun _ _ _ _ _ _ us ws h1 h2 => match us, ws, h1, h2 with | [_], [], _, _ => rfl
theorem bnd16 : ShE.bind es (ss.getD 16 ⟨.glob, "", 0, [], 0, []⟩) := bind_0 rfl rfl fun _ _ _ _ _ _ us ws h1 h2 => match us, ws, h1, h2 with | [_], [], _, _ => rfl
theorem bnd17 : ShE.bind es (ss.getD 17 ⟨.glob, "", 0, [], 0, []⟩) := bind_0 rfl rfl fun _ _ _ _ _ _ us ws h1 h2 => match us, ws, h1, h2 with | [_], [], _, _ => rfl
theorem bnd18 : ShE.bind es (ss.getD 18 ⟨.glob, "", 0, [], 0, []⟩) := bind_0 rfl rfl fun _ _ _ _ _ _ us ws h1 h2 => match us, ws, h1, h2 with | [_, _], [], _, _ => rfl
theorem bnd19 : ShE.bind es (ss.getD 19 ⟨.glob, "", 0, [], 0, []⟩) := bind_0 rfl rfl fun _ _ _ _ _ _ us ws h1 h2 => match us, ws, h1, h2 with | [_, _], [], _, _ => rfl
theorem bnds : BindAll es ss := ⟨bnd0, bnd1, bnd2, bnd3, bnd4, bnd5, bnd6, bnd7, bnd8, bnd9, bnd10, bnd11, bnd12, bnd13, bnd14, bnd15, bnd16, bnd17, bnd18, bnd19, trivial⟩
theorem bx0 : BindO (xs.getD 0 ⟨"", 0, lw⟩).e := fun _ _ _ _ _ _ us h => match us, h with | [_, _], _ => rfl
theorem bx1 : BindO (xs.getD 1 ⟨"", 0, lw⟩).e := fun _ _ _ _ _ _ us h => match us, h with | [_], _ => rfl
theorem bxs : BindOs xs := ⟨bx0, bx1, trivial⟩
theorem btr : BindTr tr := ⟨fun _ _ _ _ _ _ us h => match us, h with | [_], _ => rfl, fun _ _ _ _ _ _ us h => match us, h with | [_], _ => rfl, fun e z => by cases z⟩
theorem cks : es.all (·.ckB T.toTb) = true := by decide +kernel
theorem ckl : lw.ckB T.toTb.on = true := by decide +kernel
theorem ckx : allX (XnE.ckB T) P.xs xs = true := by decide +kernel
theorem ckt : tr.all (·.ckB T P) = true := by decide +kernel
theorem cktw : tr.all (·.ckW) = true := by decide +kernel
theorem fits : Fits T P es ss xs tr lw := ⟨ckl, rfl, rfl, rfl, rfl, rfl, rfl, ckx, bxs, rfl, ckt, rfl, cktw, btr, ⟨[F_lam0, F_lam1], rfl⟩, rfl, rfl, cks, bnds⟩
def tx : Txt := ⟨T, P, es, ss, xs, tr, lw⟩
def nms0 : List PySem.Str := ["PoseError", "Missing", "InvalidSpin", "InvalidQuarter", "NothingLeft", "ONE", "norm", "common_divisor", "primitive", "table_of", "QUARTERS", "STILL", "AXES", "check_quarter", "others_of", "cross", "sides", "quarter_rows", "quarter_spin", "_law_bag", "_law_pull", "_law_of", "_law_same", "_law_field", "_law_try", "_law_norm", "_law_table", "_law_quarters", "_law_scaled"]
def nms : List PySem.Str := nms0
abbrev R : PySem.W.OpenRow := PySem.W.OpenLaw.row PySem.Challenge.rw_peelpose_k04_quarters_listed
abbrev hk : PySem.W.Hook := hookM 6 tx
def ob (s : PySem.W.SharedT) : AlM := obsMG 6 tx (HandSHeadRun.getT s)
theorem ob_eq (s : PySem.W.SharedT) : ob s = hk.obs s.abs := obsMG_eq (HandSHeadRun.getT_eq s)
abbrev RE (w : World) : Prop := HandSHeadRun.RunEq R (PySem.W.view R.prog [33]) hk ob 20000 nms w
theorem run0 (w : World) : RE (w.withFollow "special-get-raises" false) := by
  intro os
  kernel_rfl
theorem run1 (w : World) : RE (w.withFollow "special-get-raises" true) := by
  intro os
  kernel_rfl
theorem run (w : World) : RE w := PySem.W.byRow2 "special-get-raises" (P := RE) run0 run1 w
theorem lawB (kV doc pm : Value) (an : Option Addr) (cdv ct : Value) (u : Value) : bindArgs (PySem.W.fnOf "law" "law" (defArgs (topS 33)) (defBody (topS 33)) (defScope (topS 33)) .none kV doc pm an cdv ct) ⟨[u], []⟩ = pure [(("_law_script" : Str), u)] := rfl
end MV.X

open PySem PySem.W PySem.Calls PyProof.Rows
set_option maxRecDepth 100000 in
set_option maxHeartbeats 8000000 in
theorem PySem.Challenge.cw_peelpose_k04_quarters_listed_holds : PySem.Challenge.rw_peelpose_k04_quarters_listed.Holds := by
  w_on; o_law
  refine HandSHeadRun.head_any (r := OpenLaw.row PySem.Challenge.rw_peelpose_k04_quarters_listed) (q := view (OpenLaw.row PySem.Challenge.rw_peelpose_k04_quarters_listed).prog [33]) (H := MV.X.hk) (ob := MV.X.ob) (M := 20000) (loose := MV.X.nms) (d := HandSHeadRun.topDef (OpenLaw.row PySem.Challenge.rw_peelpose_k04_quarters_listed).prog 33) (kwd := []) MV.X.ob_eq
    (by kernel_rfl) (fun s => by kernel_rfl) MV.X.run (by kernel_rfl) (by kernel_rfl) (by kernel_rfl) (by rfl) (by first | assumption | decide +kernel) (by decide +kernel) ⟨rfl, rfl, rfl, rfl, rfl, by decide +kernel⟩ ?hw ?hc
  case hw => w_witness2
  case hc =>
    refine LamX.walk_ofTsE (l := PySem.Challenge.rw_peelpose_k04_quarters_listed) (n := 63) (k := 3 * 40 + 4) (x := "_law_script") (CX := fun w => L2.CX (PySem.Challenge.rw_peelpose_k04_quarters_listed).prog w) rfl (by decide) (by kernel_rfl) ⟨rfl, by decide, by decide⟩ ?F (fun _ _ _ _ _ z => by
      obtain ⟨_, _, _, _, _, _, _, _, _, _, _, _, z⟩ := z
      exact z.elim)
    intro w mg fa h Y G hmg0
    obtain ⟨K, S⟩ := Y
    have hmg : mg ("law" : PySem.Str) = some (.ref fa) := by
      have e : (HandSHeadRun.topDef (OpenLaw.row PySem.Challenge.rw_peelpose_k04_quarters_listed).prog 33).name = ("law" : PySem.Str) := by kernel_rfl
      rw [← e]
      exact hmg0
    exact ⟨K, S.X, MV.law_F (t := MV.X.tx) (l := PySem.Challenge.rw_peelpose_k04_quarters_listed) (w := w) (m := 40) (n := 63) (x := "_law_script") MV.X.fits S G hmg rfl rfl rfl MV.X.lawB MV.X.main⟩
