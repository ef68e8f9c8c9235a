import PyProof.Rows.All
import Wide.All
import OpenK.AllK
import Wide.FinOn
import Wide.Once
import PyProof.TableCode
import PySem.Syntax
import PySem.Sem
import PyProof.P3Statements
import HandS.Base
import HandS.Call
import HandS.List
import HandS.Comp
import HandS.Exc
import HandS.More
import HandS.Dict
import HandS.IsInst
import HandS.Strs
import HandS.Style
import HandS.TupAny
import HandS.Deep
import HandS.Defaults
import HandS.MakeKwOnly
import HandS.WordsExc
import HandS.HeadWalk
import HandS.TryOnly
import HandS.Flow
import HandS.Zip
import HandS.Property
import HandS.Star
import PyProof.AutoIntOps
import HandS.HeadHook2
import HandS.HeadEnd
import HandS.EndTab
import HandS.Head0
import HandS.Head1
import HandS.Head2
import PySem.Challenge.RW_peelpose_k08_matrices_of_poses
set_option Elab.async false
set_option linter.all false
/-! V1: own data, own syntax, the interpreter. -/
namespace MV
open PySem (Str Operator)
abbrev Key := Sum Int Str

inductive D where
  | non | bl (b : Bool) | int (i : Int) | str (s : Str) | cls (c : Nat) | wd (k : Nat)
  | tup (l : List D) | wtup (l : List D) | lst (l : List D) | bor (l : List D)
  | dct (ks : List Key) (vs : List D)
  | obj (c : Nat) (ks : List Nat) (vs : List D)
  | ref (n : Nat)
  deriving Inhabited
inductive O where
  | lst (l : List D)
  | dct (ks : List Key) (vs : List D)
  | ins (c : Nat) (ks : List Nat) (vs : List D)
  deriving Inhabited
abbrev HH := List O
abbrev Env := List (Option D)

/-- the result of a run -/
inductive R (α : Type) where
  | ok (a : α) (h : HH)
  | exc (c : Nat) (ks : List Nat) (vs : List D) (h : HH)
  | no
  deriving Inhabited
def R.bind {α β : Type} (r : R α) (f : α → HH → R β) : R β := match r with
  | .ok a h => f a h
  | .exc c ks vs h => .exc c ks vs h
  | .no => .no
/-- nothing raised -/
def R.pur {α : Type} (r : R α) : R α := match r with
  | .exc _ _ _ _ => .no
  | r => r
/-- what a call hands back: a value, or a new list that nobody else knows -/
inductive Ret where
  | val (d : D)
  | newl (l : List D)
  deriving Inhabited

/-! ### data -/
mutual
/-- no references to own objects, nothing borrowed -/
def D.flat : D → Bool
  | .tup l => D.flats l
  | .wtup l => D.flats l
  | .lst l => D.flats l
  | .dct _ vs => D.flats vs
  | .obj _ _ vs => D.flats vs
  | .ref _ => false
  | .bor _ => false
  | _ => true
def D.flats : List D → Bool
  | [] => true
  | d :: r => D.flat d && D.flats r
end
mutual
/-- may be compared (deep data without objects) -/
def D.cmp : Nat → D → Bool
  | n, .tup l => match n with
    | 0 => false
    | m + 1 => D.cmps m l
  | n, .wtup l => match n with
    | 0 => false
    | m + 1 => D.cmps m l
  | n, .lst l => match n with
    | 0 => false
    | m + 1 => D.cmps m l
  | n, .bor l => match n with
    | 0 => false
    | m + 1 => D.cmps m l
  | _, .non => true
  | _, .bl _ => true
  | _, .int _ => true
  | _, .str s => PySem.PyData.strOk s
  | _, _ => false
def D.cmps : Nat → List D → Bool
  | _, [] => true
  | n, d :: r => D.cmp n d && D.cmps n r
end
mutual
def D.eqv : D → D → Bool
  | .non, y => match y with
    | .non => true
    | _ => false
  | .bl a, y => match y with
    | .bl b => a == b
    | .int j => (if a then 1 else 0) == j
    | _ => false
  | .int i, y => match y with
    | .bl b => i == (if b then 1 else 0)
    | .int j => i == j
    | _ => false
  | .str x, y => match y with
    | .str z => x == z
    | _ => false
  | .tup xs, y => match y with
    | .tup ys => D.eqvs xs ys
    | .wtup ys => D.eqvs xs ys
    | _ => false
  | .wtup xs, y => match y with
    | .tup ys => D.eqvs xs ys
    | .wtup ys => D.eqvs xs ys
    | _ => false
  | .lst xs, y => match y with
    | .lst ys => D.eqvs xs ys
    | .bor ys => D.eqvs xs ys
    | _ => false
  | .bor xs, y => match y with
    | .lst ys => D.eqvs xs ys
    | .bor ys => D.eqvs xs ys
    | _ => false
  | _, _ => false
def D.eqvs : List D → List D → Bool
  | [], ys => match ys with
    | [] => true
    | _ => false
  | x :: xs, ys => match ys with
    | [] => false
    | y :: ys => D.eqv x y && D.eqvs xs ys
end

/-! ### reading -/
def listOf : D → HH → Option (List D)
  | .lst l, _ => some l
  | .bor l, _ => some l
  | .ref n, h => match h[n]? with
    | some (.lst l) => some l
    | _ => none
  | _, _ => none
def seqOf : D → HH → Option (List D)
  | .tup l, _ => some l
  | .wtup l, _ => some l
  | d, h => listOf d h
/-- the instance: its class, its fields -/
def insOf : D → HH → Option (Nat × List Nat × List D)
  | .obj c ks vs, _ => some (c, ks, vs)
  | .ref n, h => match h[n]? with
    | some (.ins c ks vs) => some (c, ks, vs)
    | _ => none
  | _, _ => none
def lookF : List Nat → List D → Nat → Option D
  | k :: ks, v :: vs, i => if k == i then some v else lookF ks vs i
  | _, _, _ => none
def putF : List Nat → List D → Nat → D → List Nat × List D
  | k :: ks, v :: vs, i, d => if k == i then (k :: ks, d :: vs) else ((k :: (putF ks vs i d).1), (v :: (putF ks vs i d).2))
  | _, _, i, d => ([i], [d])
def line : Nat := 16777216
def mkL (m : Bool) (l : List D) (h : HH) : R D := match Nat.ble l.length line with
  | true => (match m with
    | true => .ok (.ref h.length) (h ++ [.lst l])
    | false => .ok (.lst l) h)
  | false => .no
def mkT (l : List D) (h : HH) : R D := match Nat.ble l.length line with
  | true => .ok (.tup l) h
  | false => .no
def truthD : D → HH → Option Bool
  | .non, _ => some false
  | .bl b, _ => some b
  | .int i, _ => some (i != 0)
  | .str s, _ => if s.length ≤ line then some (s.length != 0) else none
  | .tup l, _ => some (!l.isEmpty)
  | .wtup l, _ => some (!l.isEmpty)
  | d, h => match listOf d h with
    | some l => some (!l.isEmpty)
    | none => none
/-! ### operators -/
def mulOk (i j : Int) : Bool := Nat.blt (i.natAbs.log2 + j.natAbs.log2) 1000000
def divOk (j : Int) : Bool := (j != 0) && Nat.blt j.natAbs.log2 9000
def powOk (i j : Int) : Bool := decide (0 ≤ j) && (decide (j ≤ 1000000) && Nat.blt i.natAbs (2 ^ 64))
def addD (m : Bool) (x y : D) (h : HH) : R D := match x, y with
  | .int i, .int j => .ok (.int (i + j)) h
  | .str s, .str t => if s.length + t.length ≤ line then .ok (.str (s ++ t)) h else .no
  | .tup a, .tup b => mkT (a ++ b) h
  | .lst a, .lst b => mkL m (a ++ b) h
  | .lst a, .ref n => match h[n]? with
    | some (.lst b) => mkL m (a ++ b) h
    | _ => .no
  | .ref n, .lst b => match h[n]? with
    | some (.lst a) => mkL m (a ++ b) h
    | _ => .no
  | .ref n, .ref k => match h[n]?, h[k]? with
    | some (.lst a), some (.lst b) => mkL m (a ++ b) h
    | _, _ => .no
  | _, _ => .no
def subD (x y : D) (h : HH) : R D := match x, y with
  | .int i, .int j => .ok (.int (i - j)) h
  | _, _ => .no
def mulD (m : Bool) (x y : D) (h : HH) : R D := match x, y with
  | .int i, .int j => (match mulOk i j with
    | true => .ok (.int (i * j)) h
    | false => .no)
  | .lst a, .int k => if 0 ≤ k ∧ k < 2 ^ 20 ∧ a.length * k.toNat ≤ line then mkL m (List.replicate k.toNat a).flatten h else .no
  | _, _ => .no
def divD (x y : D) (h : HH) : R D := match x, y with
  | .int i, .int j => (match divOk j with
    | true => .ok (.int (i.fdiv j)) h
    | false => .no)
  | _, _ => .no
def modD (x y : D) (h : HH) : R D := match x, y with
  | .int i, .int j => (match j != 0 with
    | true => .ok (.int (i.fmod j)) h
    | false => .no)
  | _, _ => .no
def powD (x y : D) (h : HH) : R D := match x, y with
  | .int i, .int j => (match powOk i j with
    | true => .ok (.int (i ^ j.toNat)) h
    | false => .no)
  | _, _ => .no
def binD (op : Operator) (m : Bool) (x y : D) (h : HH) : R D := match op with
  | .Add => addD m x y h
  | .Sub => subD x y h
  | .Mult => mulD m x y h
  | .FloorDiv => divD x y h
  | .Mod => modD x y h
  | .Pow => powD x y h
  | _ => .no
def D.scal : D → Bool
  | .non => true
  | .bl _ => true
  | .int _ => true
  | .str _ => true
  | _ => false
/-- the list itself in place of a reference to it -/
def shown : D → HH → D
  | .ref n, h => match h[n]? with
    | some (.lst l) => .lst l
    | _ => .ref n
  | d, _ => d
def eqD (x y : D) (h : HH) : Option Bool := match D.cmp 60 (shown x h) && D.cmp 60 (shown y h) with
  | true => some (D.eqv (shown x h) (shown y h))
  | false => none
def keyOf : D → Option Key
  | .int i => some (.inl i)
  | .str s => some (.inr s)
  | _ => none
def findK : List Key → List D → Key → Option D
  | k :: ks, v :: vs, i => if decide (k = i) then some v else findK ks vs i
  | _, _, _ => none
def replK : List Key → List D → Key → D → List D
  | k :: ks, v :: vs, q, d => (if decide (k = q) then d else v) :: replK ks vs q d
  | _, _, _, _ => []
def putK (ks : List Key) (vs : List D) (q : Key) (d : D) : List Key × List D := match ks.any fun k => decide (k = q) with
  | true => (ks, replK ks vs q d)
  | false => (ks ++ [q], vs ++ [d])
def dctOf : D → HH → Option (List Key × List D)
  | .dct ks vs, _ => some (ks, vs)
  | .ref n, h => match h[n]? with
    | some (.dct ks vs) => some (ks, vs)
    | _ => none
  | _, _ => none
abbrev Wds := List (List Key × List D)
def inD (x y : D) (h : HH) : Option Bool := match dctOf y h with
  | some w => (match keyOf x with
    | some q => some (findK w.1 w.2 q).isSome
    | none => none)
  | none => match seqOf y h with
  | some l => (match D.scal x && l.all D.scal with
    | true => some (l.any fun z => D.eqv z x)
    | false => none)
  | none => none
def noneD : D → Bool
  | .non => true
  | _ => false
def cmpD (op : PySem.CmpOp) (x y : D) (h : HH) : Option Bool := match op with
  | .Eq => eqD x y h
  | .NotEq => (eqD x y h).map (!·)
  | .Lt => match x, y with
    | .int i, .int j => some (decide (i < j))
    | _, _ => none
  | .LtE => match x, y with
    | .int i, .int j => some (decide (i ≤ j))
    | _, _ => none
  | .Gt => match x, y with
    | .int i, .int j => some (decide (j < i))
    | _, _ => none
  | .GtE => match x, y with
    | .int i, .int j => some (decide (j ≤ i))
    | _, _ => none
  | .Is => match y with
    | .non => some (noneD x)
    | _ => none
  | .IsNot => match y with
    | .non => some (!noneD x)
    | _ => none
  | .In => inD x y h
  | .NotIn => (inD x y h).map (!·)
/-- the place of an index -/
def ixAt (n : Nat) (i : Int) : Option Nat := if 0 ≤ i then (if i < n then some i.toNat else none) else if -(n : Int) ≤ i then some (i + n).toNat else none
def itemL (x i : D) (h : HH) : Option D := match i with
  | .int i => (match x with
    | .str s => if s.length ≤ line then (ixAt s.cps.size i).bind fun j => s.cps[j]?.map fun c => .str ⟨#[c]⟩ else none
    | _ => match seqOf x h with
      | some l => (ixAt l.length i).bind fun j => l[j]?
      | none => none)
  | _ => none
def itemD (W : Wds) (x i : D) (h : HH) : Option D := match x with
  | .wd k => (match W[k]?, keyOf i with
    | some w, some q => findK w.1 w.2 q
    | _, _ => none)
  | _ => match dctOf x h with
    | some w => (match keyOf i with
      | some q => findK w.1 w.2 q
      | none => none)
    | none => itemL x i h
def setD (x i v : D) (h : HH) : Option HH := match x with
  | .ref n => (match h[n]? with
    | some (.lst l) => (match i with
      | .int j => (ixAt l.length j).map fun p => h.set n (.lst (l.set p v))
      | _ => none)
    | some (.dct ks vs) => (match keyOf i with
      | some q => (match Nat.blt ks.length line with
        | true => some (h.set n (.dct (putK ks vs q v).1 (putK ks vs q v).2))
        | false => none)
      | none => none)
    | _ => none)
  | _ => none
/-- a slice's end, clipped -/
def clip (n d : Nat) : Option Int → Nat
  | none => d
  | some v => if v < 0 then (v + (n : Int)).toNat else min v.toNat n
def cutL (l : List D) (lo hi : Option Int) : List D := (l.drop (clip l.length 0 lo)).take (clip l.length l.length hi - clip l.length 0 lo)
def partD (n : Bool) (d : D) : Option (Option Int) := match n with
  | true => some none
  | false => match d with
    | .int i => some (some i)
    | _ => none
def sliceD (m : Bool) (x : D) (lo hi : Option Int) (h : HH) : R D := match x with
  | .tup l => .ok (.tup (cutL l lo hi)) h
  | .wtup l => .ok (.tup (cutL l lo hi)) h
  | _ => match listOf x h with
    | some l => mkL m (cutL l lo hi) h
    | none => .no
def revD (m : Bool) (x : D) (h : HH) : R D := match listOf x h with
  | some l => mkL m l.reverse h
  | none => .no
/-! ### built-ins -/
inductive Blt where
  | len | abs | int | list | tuple | sum | any | all | min | max | sorted
def intsD : List D → Option (List Int)
  | [] => some []
  | .int i :: r => (intsD r).map (i :: ·)
  | _ => none
def bls : List D → Option (List Bool)
  | [] => some []
  | .bl b :: r => (bls r).map (b :: ·)
  | _ => none
def insI (x : Int) : List Int → List Int
  | [] => [x]
  | y :: r => if x ≤ y then x :: y :: r else y :: insI x r
def sortI : List Int → List Int
  | [] => []
  | x :: r => insI x (sortI r)
def minI : List Int → Option Int
  | [] => none
  | [x] => some x
  | x :: r => (minI r).map fun m => if x ≤ m then x else m
def maxI : List Int → Option Int
  | [] => none
  | [x] => some x
  | x :: r => (maxI r).map fun m => if m ≤ x then x else m
def lenD (ds : List D) (h : HH) : R D := match ds with
  | [x] => (match seqOf x h with
    | some l => .ok (.int l.length) h
    | none => (match x with
      | .str s => if s.length ≤ line then .ok (.int s.length) h else .no
      | _ => .no))
  | _ => .no
def absD (ds : List D) (h : HH) : R D := match ds with
  | [.int i] => .ok (.int (if i < 0 then -i else i)) h
  | _ => .no
def intD (ds : List D) (h : HH) : R D := match ds with
  | [.int i] => .ok (.int i) h
  | [.bl k] => .ok (.int (if k then 1 else 0)) h
  | _ => .no
def listD (m : Bool) (ds : List D) (h : HH) : R D := match ds with
  | [x] => (match seqOf x h with
    | some l => mkL m l h
    | none => .no)
  | _ => .no
def tupleD (ds : List D) (h : HH) : R D := match ds with
  | [x] => (match seqOf x h with
    | some l => .ok (.tup l) h
    | none => .no)
  | _ => .no
/-- the one list that a call is given -/
def oneL (ds : List D) (h : HH) : Option (List D) := match ds with
  | [x] => listOf x h
  | _ => none
def sumD (ds : List D) (h : HH) : R D := match (oneL ds h).bind intsD with
  | some ns => .ok (.int ns.sum) h
  | none => .no
def anyD (ds : List D) (h : HH) : R D := match (oneL ds h).bind bls with
  | some ns => .ok (.bl (ns.any id)) h
  | none => .no
def allD (ds : List D) (h : HH) : R D := match (oneL ds h).bind bls with
  | some ns => .ok (.bl (ns.all id)) h
  | none => .no
def minD (ds : List D) (h : HH) : R D := match ((oneL ds h).bind intsD).bind minI with
  | some n => .ok (.int n) h
  | none => .no
def maxD (ds : List D) (h : HH) : R D := match ((oneL ds h).bind intsD).bind maxI with
  | some n => .ok (.int n) h
  | none => .no
def sortedD (m : Bool) (ds : List D) (h : HH) : R D := match (oneL ds h).bind intsD with
  | some ns => (match Nat.blt ns.length 64 with
    | true => mkL m ((sortI ns).map D.int) h
    | false => .no)
  | none => .no
def bltD (m : Bool) (b : Blt) (ds : List D) (h : HH) : R D := match b with
  | .len => lenD ds h
  | .abs => absD ds h
  | .int => intD ds h
  | .list => listD m ds h
  | .tuple => tupleD ds h
  | .sum => sumD ds h
  | .any => anyD ds h
  | .all => allD ds h
  | .min => minD ds h
  | .max => maxD ds h
  | .sorted => sortedD m ds h
inductive Ty where
  | int | bool | str | list | tuple | dict | cls (c : Nat)
  deriving DecidableEq
/-- the type of a value -/
inductive TyV where
  | non | bl | int | str | lst | tup | dct | own (c : Nat)
def ownV (nc c : Nat) : Option TyV := match Nat.blt c nc with
  | true => some (.own c)
  | false => none
def tyOfO (nc : Nat) : O → Option TyV
  | .lst _ => some .lst
  | .dct _ _ => some .dct
  | .ins c _ _ => ownV nc c
def tyOfD (nc : Nat) : D → HH → Option TyV
  | .non, _ => some .non
  | .bl _, _ => some .bl
  | .int _, _ => some .int
  | .str _, _ => some .str
  | .tup _, _ => some .tup
  | .wtup _, _ => some .tup
  | .lst _, _ => some .lst
  | .bor _, _ => some .lst
  | .dct _ _, _ => some .dct
  | .obj c _ _, _ => ownV nc c
  | .ref n, h => (match h[n]? with
    | some o => tyOfO nc o
    | none => none)
  | .cls _, _ => none
  | .wd _, _ => none
def tyIs : TyV → Ty → Bool
  | .bl, .int => true
  | .bl, .bool => true
  | .int, .int => true
  | .str, .str => true
  | .lst, .list => true
  | .tup, .tuple => true
  | .dct, .dict => true
  | .own c, .cls k => c == k
  | _, _ => false
/-- isinstance; own classes have no own bases here -/
def isiD (nc : Nat) (x : D) (h : HH) (ts : List Ty) : Option Bool := (tyOfD nc x h).map fun t => ts.any (tyIs t)
inductive BM where
  | append | pop | insert | clear | index | reverse
/-- the place of the first item that equals -/
def findD (x : D) : List D → Option Nat
  | [] => none
  | y :: r => if D.eqv y x then some 0 else (findD x r).map (· + 1)
/-- what a method is asked of -/
def isRcv (b : BM) (x : D) (h : HH) : Bool := match b with
  | .index => (match x with
    | .wtup _ => true
    | _ => (listOf x h).isSome)
  | _ => (listOf x h).isSome
def appendD (o : D) (ds : List D) (h : HH) : R D := match ds, o with
  | [x], .ref n => (match h[n]? with
    | some (.lst l) => (match Nat.blt l.length line with
      | true => .ok .non (h.set n (.lst (l ++ [x])))
      | false => .no)
    | _ => .no)
  | _, _ => .no
def popD (o : D) (ds : List D) (h : HH) : R D := match ds, o with
  | [], .ref n => (match h[n]? with
    | some (.lst l) => (match l[l.length - 1]? with
      | some x => .ok x (h.set n (.lst l.dropLast))
      | none => .no)
    | _ => .no)
  | _, _ => .no
def insertD (o : D) (ds : List D) (h : HH) : R D := match ds, o with
  | [.int i, x], .ref n => (match h[n]? with
    | some (.lst l) => (match Nat.blt l.length line && (decide (0 ≤ i) && decide (i ≤ l.length)) with
      | true => .ok .non (h.set n (.lst (l.take i.toNat ++ [x] ++ l.drop i.toNat)))
      | false => .no)
    | _ => .no)
  | _, _ => .no
def clearD (o : D) (ds : List D) (h : HH) : R D := match ds, o with
  | [], .ref n => (match h[n]? with
    | some (.lst _) => .ok .non (h.set n (.lst []))
    | _ => .no)
  | _, _ => .no
def reverseD (o : D) (ds : List D) (h : HH) : R D := match ds, o with
  | [], .ref n => (match h[n]? with
    | some (.lst l) => .ok .non (h.set n (.lst l.reverse))
    | _ => .no)
  | _, _ => .no
def idxIn (x : D) (l : List D) (h : HH) : R D := match D.cmp 50 (shown x h) && D.cmps 50 l with
  | true => (match findD (shown x h) l with
    | some j => .ok (.int j) h
    | none => .no)
  | false => .no
def lindexD (o : D) (ds : List D) (h : HH) : R D := match ds with
  | [x] => (match listOf o h with
    | some l => idxIn x l h
    | none => .no)
  | _ => .no
def tindexD (o : D) (ds : List D) (h : HH) : R D := match ds, o with
  | [x], .wtup l => idxIn x l h
  | _, _ => .no
def bmD (b : BM) (o : D) (ds : List D) (h : HH) : R D := match b with
  | .append => appendD o ds h
  | .pop => popD o ds h
  | .insert => insertD o ds h
  | .clear => clearD o ds h
  | .reverse => reverseD o ds h
  | .index => (match o with
    | .wtup _ => tindexD o ds h
    | _ => lindexD o ds h)

/-! ### syntax -/
inductive E where
  | v (i : Nat) | c (d : D) | g (k : Nat)
  | bin (op : Operator) (m : Bool) (a b : E)
  | neg (a : E)
  | cmp (op : PySem.CmpOp) (a b : E)
  | chain (o p : PySem.CmpOp) (a b d : E)
  | band (a b : E) | bor (a b : E) | b1 (a : E)
  | bnot (a : E)
  | ife (t a b : E)
  | tup (es : E) | lst (m : Bool) (es : E) | dct
  | nil | cons (e es : E) | star (e es : E)
  | ix (a i : E)
  | sl (m : Bool) (a lo hi : E)
  | rev (m : Bool) (a : E)
  | call (ad : Bool) (j : Nat) (es : E)
  | callk (ad : Bool) (j : Nat) (es ks : E)
  | meth (ad : Bool) (mi : Nat) (o : E) (alts : List (Nat × Nat)) (es : E)
  | att (o : E) (k : Nat) (alts : List (Nat × Nat))
  | blt (m : Bool) (b : Blt) (es : E)
  | isi (x : E) (ts : List Ty)
  | bm (b : BM) (o es : E)
  | comp (m : Bool) (own : List Nat) (tg it ifs el : E)
  | comp2 (m : Bool) (own own2 : List Nat) (tg it tg2 it2 el : E)
  | i_e (e : E) | i_r1 (a : E) | i_r2 (a b : E) | i_en (e : E) | i_zip (a b : E)
  | t_n (i : Nat) | t_t (ts : E) | t_s (o i : E) | t_a (o : E) (k : Nat)
  deriving Inhabited
def E.isNil : E → Bool
  | .nil => true
  | _ => false
inductive S where
  | skip | seq (s t : S)
  | ex (e : E) | asg (t e : E) | par (ns : List Nat) (es : E)
  | aug (i : Nat) (op : Operator) (e : E)
  | ite (c : E) (s t : S)
  | loop (t it : E) (b : S)
  | whil (c : E) (b : S)
  | ret (e : E) | retN | brk | cnt
  | rais (c : Nat) (es : E)
  | pass
  deriving Inhabited

/-! ### the program -/
inductive Sel where
  | a (i : Nat) | d (x : D)
/-- how a def is called: which one, how its parameters are filled -/
structure Shape where
  fn : Nat
  n : Nat
  sel : List Sel
def selD (ds : List D) : List Sel → Option (List D)
  | [] => some []
  | .a i :: r => (match ds[i]?, selD ds r with
    | some d, some l => some (d :: l)
    | _, _ => none)
  | .d x :: r => (match selD ds r with
    | some l => some (x :: l)
    | none => none)
def Shape.fill (s : Shape) (ds : List D) : Option (List D) := match ds.length == s.n with
  | true => selD ds s.sel
  | false => none
inductive Kind where
  | fn (pure : Bool)
  | ctor (c : Nat) (frozen : Bool)
structure Fn where
  kind : Kind
  np : Nat
  nl : Nat
  body : S
structure Prog where
  fns : List Fn
  sh : List Shape
  gl : List D
  wd : Wds
  fld : List (Nat × Nat)
  nc : Nat

/-! ### the run -/
inductive Itr where
  | items (l : List D) | live (n : Nat)
inductive RS where
  | nx (ρ : Env) (h : HH) | rt (d : D) (h : HH) | bk (ρ : Env) (h : HH) | ct (ρ : Env) (h : HH)
  | exc (c : Nat) (ks : List Nat) (vs : List D) (ρ : Env) (h : HH)
  | no
  deriving Inhabited
def R.st {α : Type} (r : R α) (ρ : Env) (f : α → HH → RS) : RS := match r with
  | .ok a h => f a h
  | .exc c ks vs h => .exc c ks vs ρ h
  | .no => .no
def R.of {α : Type} (o : Option α) (h : HH) : R α := match o with
  | some a => .ok a h
  | none => .no
abbrev Orc := Nat → List D → HH → R Ret
def retD (ad : Bool) (r : Ret) (h : HH) : R D := match r with
  | .val d => .ok d h
  | .newl l => (match ad with
    | true => .ok (.ref h.length) (h ++ [.lst l])
    | false => .ok (.lst l) h)
def callJ (P : Prog) (orc : Orc) (ad : Bool) (j : Nat) (ds : List D) (h : HH) : R D := match P.sh[j]? with
  | some s => (match s.fill ds with
    | some ps => (orc s.fn ps h).bind fun r h1 => retD ad r h1
    | none => .no)
  | none => .no
def pairL : List D → List D → List D
  | x :: xs, y :: ys => .tup [x, y] :: pairL xs ys
  | _, _ => []
def enumL : Nat → List D → List D
  | n, x :: xs => .tup [.int n, x] :: enumL (n + 1) xs
  | _, [] => []
def rangeL (lo hi : Int) : List D := (List.range (hi - lo).toNat).map fun (k : Nat) => .int (lo + (k : Int))
def smallI (i : Int) : Bool := decide (-(2 ^ 62) ≤ i) && decide (i < 2 ^ 62)
/-- the own names of a comprehension forgotten -/
def wipeE (ρ : Env) : List Nat → Env
  | [] => ρ
  | v :: vs => (wipeE ρ vs).set v none
/-- the turns of a comprehension over written items: what each gives (none: left out) -/
def compL (f : D → HH → R (Option D)) : List D → HH → R (List D)
  | [], h => .ok [] h
  | x :: r, h => (f x h).bind fun o h1 => (compL f r h1).bind fun l h2 => .ok (match o with
    | some d => d :: l
    | none => l) h2
def compLive (f : D → HH → R (Option D)) (n : Nat) : Nat → Nat → HH → R (List D)
  | 0, _, _ => .no
  | k + 1, i, h => match h[n]? with
    | some (.lst l) => (match l[i]? with
      | some x => (f x h).bind fun o h1 => (compLive f n k (i + 1) h1).bind fun l h2 => .ok (match o with
        | some d => d :: l
        | none => l) h2
      | none => .ok [] h)
    | _ => .no
def fuel : Nat := 1000000
def compI (f : D → HH → R (Option D)) (it : Itr) (h : HH) : R (List D) := match it with
  | .items l => compL f l h
  | .live n => compLive f n fuel 0 h
def getT : List (Nat × Nat) → Nat → Option Nat
  | (c, j) :: r, k => if c == k then some j else getT r k
  | [], _ => none
def setF (fld : List (Nat × Nat)) (x : D) (k : Nat) (d : D) (h : HH) : Option HH := match x with
  | .ref n => (match h[n]? with
    | some (.ins c ks vs) => (match fld.contains (c, k) && Nat.blt ks.length 1000 with
      | true => some (h.set n (.ins c (putF ks vs k d).1 (putF ks vs k d).2))
      | false => none)
    | _ => none)
  | _ => none
/-- the shape of the method that an instance's class has -/
def methJ (alts : List (Nat × Nat)) (mi : Nat) (o : Option (Nat × List Nat × List D)) : Option Nat := match o with
  | some (c, ks, _) => (match ks.contains mi with
    | true => none
    | false => getT alts c)
  | none => none
def propJ (alts : List (Nat × Nat)) (o : Option (Nat × List Nat × List D)) : Option Nat := match o with
  | some (c, _, _) => getT alts c
  | none => none
def fieldD (fld : List (Nat × Nat)) (k : Nat) (o : Option (Nat × List Nat × List D)) : Option D := match o with
  | some (c, ks, vs) => (match fld.contains (c, k) with
    | true => lookF ks vs k
    | false => none)
  | none => none
structure Sm where
  ev : Env → HH → R D
  es : Env → HH → R (List D)
  ts : Env → HH → R Bool
  tl : Env → HH → R Bool
  it : Env → HH → R Itr
  tg : D → Env → HH → R Env
  tgs : List D → Env → HH → R Env
def Sm.of (f : Env → HH → R D) : Sm := ⟨f, fun _ _ => .no, fun ρ h => (f ρ h).bind fun x h1 => R.of (truthD x h1) h1, fun _ _ => .no, fun _ _ => .no, fun _ _ _ => .no, fun _ _ _ => .no⟩
def Sm.tw (f : Env → HH → R D) (g : Env → HH → R Bool) : Sm := ⟨f, fun _ _ => .no, g, fun _ _ => .no, fun _ _ => .no, fun _ _ _ => .no, fun _ _ _ => .no⟩
def Sm.li (f : Env → HH → R (List D)) (g : Env → HH → R Bool) (t : List D → Env → HH → R Env) : Sm := ⟨fun _ h => .ok .non h, f, fun _ _ => .no, g, fun _ _ => .no, fun _ _ _ => .no, t⟩
def Sm.itr (f : Env → HH → R Itr) : Sm := ⟨fun _ _ => .no, fun _ _ => .no, fun _ _ => .no, fun _ _ => .no, f, fun _ _ _ => .no, fun _ _ _ => .no⟩
def Sm.tar (f : D → Env → HH → R Env) : Sm := ⟨fun _ _ => .no, fun _ _ => .no, fun _ _ => .no, fun _ _ => .no, fun _ _ => .no, f, fun _ _ _ => .no⟩
section
variable (P : Prog) (orc : Orc)
def sem : E → Sm
  | .v i => .of fun ρ h => (match ρ[i]? with
    | some (some d) => .ok d h
    | _ => .no)
  | .c d => .of fun _ h => .ok d h
  | .g k => .of fun _ h => R.of P.gl[k]? h
  | .bin op m a b => .of fun ρ h => ((sem a).ev ρ h).bind fun x h1 => ((sem b).ev ρ h1).bind fun y h2 => binD op m x y h2
  | .neg a => .of fun ρ h => ((sem a).ev ρ h).bind fun x h1 => match x with
    | .int i => .ok (.int (-i)) h1
    | _ => .no
  | .cmp op a b => .tw (fun ρ h => ((sem a).ev ρ h).bind fun x h1 => ((sem b).ev ρ h1).bind fun y h2 => R.of ((cmpD op x y h2).map D.bl) h2)
      fun ρ h => ((sem a).ev ρ h).bind fun x h1 => ((sem b).ev ρ h1).bind fun y h2 => R.of (cmpD op x y h2) h2
  | .chain o p a b d => .tw (fun ρ h => ((sem a).ev ρ h).bind fun x h1 => ((sem b).ev ρ h1).bind fun y h2 => match cmpD o x y h2 with
      | some true => ((sem d).ev ρ h2).bind fun z h3 => R.of ((cmpD p y z h3).map D.bl) h3
      | some false => .ok (.bl false) h2
      | none => .no)
    fun ρ h => ((sem a).ev ρ h).bind fun x h1 => ((sem b).ev ρ h1).bind fun y h2 => match cmpD o x y h2 with
      | some true => ((sem d).ev ρ h2).bind fun z h3 => R.of (cmpD p y z h3) h3
      | some false => .ok false h2
      | none => .no
  | .band a b => .tw (fun ρ h => ((sem a).ev ρ h).bind fun x h1 => match truthD x h1 with
      | some true => (sem b).ev ρ h1
      | some false => .ok x h1
      | none => .no)
    fun ρ h => ((sem a).ts ρ h).bind fun k h1 => match k with
      | true => (sem b).ts ρ h1
      | false => .ok false h1
  | .bor a b => .tw (fun ρ h => ((sem a).ev ρ h).bind fun x h1 => match truthD x h1 with
      | some true => .ok x h1
      | some false => (sem b).ev ρ h1
      | none => .no)
    fun ρ h => ((sem a).ts ρ h).bind fun k h1 => match k with
      | true => .ok true h1
      | false => (sem b).ts ρ h1
  | .b1 a => .tw (fun ρ h => (sem a).ev ρ h) fun ρ h => (sem a).ts ρ h
  | .bnot a => .tw (fun ρ h => ((sem a).ev ρ h).bind fun x h1 => match truthD x h1 with
      | some b => .ok (.bl (!b)) h1
      | none => .no)
    fun ρ h => ((sem a).ts ρ h).bind fun k h1 => .ok (!k) h1
  | .ife t a b => .tw (fun ρ h => ((sem t).ts ρ h).bind fun k h1 => match k with
      | true => (sem a).ev ρ h1
      | false => (sem b).ev ρ h1)
    fun _ _ => .no
  | .tup es => .of fun ρ h => ((sem es).es ρ h).bind fun ds h1 => mkT ds h1
  | .lst m es => .of fun ρ h => ((sem es).es ρ h).bind fun ds h1 => mkL m ds h1
  | .dct => .of fun _ h => .ok (.ref h.length) (h ++ [.dct [] []])
  | .ix a i => .of fun ρ h => ((sem a).ev ρ h).bind fun x h1 => ((sem i).ev ρ h1).bind fun y h2 => R.of (itemD P.wd x y h2) h2
  | .sl m a lo hi => .of fun ρ h => ((sem a).ev ρ h).bind fun x h1 => ((sem lo).ev ρ h1).bind fun l h2 => match partD lo.isNil l with
    | some l => ((sem hi).ev ρ h2).bind fun u h3 => (match partD hi.isNil u with
      | some u => sliceD m x l u h3
      | none => .no)
    | none => .no
  | .rev m a => .of fun ρ h => ((sem a).ev ρ h).bind fun x h1 => revD m x h1
  | .call ad j es => .of fun ρ h => ((sem es).es ρ h).bind fun ds h1 => callJ P orc ad j ds h1
  | .callk ad j es ks => .of fun ρ h => ((sem es).es ρ h).bind fun ds h1 => ((sem ks).es ρ h1).bind fun es h2 => callJ P orc ad j (ds ++ es) h2
  | .meth ad mi o alts es => .of fun ρ h => ((sem o).ev ρ h).bind fun x h1 => match methJ alts mi (insOf x h1) with
    | some j => ((sem es).es ρ h1).bind fun ds h2 => callJ P orc ad j (x :: ds) h2
    | none => .no
  | .att o k alts => .of fun ρ h => ((sem o).ev ρ h).bind fun x h1 => match propJ alts (insOf x h1) with
    | some j => (callJ P orc false j [x] h1).pur
    | none => R.of (fieldD P.fld k (insOf x h1)) h1
  | .blt m b es => .of fun ρ h => ((sem es).es ρ h).bind fun ds h1 => bltD m b ds h1
  | .isi x ts => .of fun ρ h => ((sem x).ev ρ h).bind fun d h1 => R.of ((isiD P.nc d h1 ts).map D.bl) h1
  | .bm b o es => .of fun ρ h => ((sem o).ev ρ h).bind fun x h1 => match isRcv b x h1 with
    | true => ((sem es).es ρ h1).bind fun ds h2 => bmD b x ds h2
    | false => .no
  | .comp m own tg it ifs el => .of fun ρ h => ((sem it).it ρ h).bind fun I h1 => (compI (fun x h2 => ((sem tg).tg x (wipeE ρ own) h2).bind fun ρ2 h3 => ((sem ifs).tl ρ2 h3).bind fun k h4 => match k with
      | true => ((sem el).ev ρ2 h4).bind fun d h5 => .ok (some d) h5
      | false => .ok none h4) I h1).pur.bind fun l h2 => mkL m l h2
  | .comp2 _ _ _ _ _ _ _ _ => .of fun _ _ => .no
  | .nil => .li (fun _ h => .ok [] h) (fun _ h => .ok true h) fun ds ρ h => match ds with
    | [] => .ok ρ h
    | _ => .no
  | .cons e es => .li (fun ρ h => ((sem e).ev ρ h).bind fun d h1 => ((sem es).es ρ h1).bind fun ds h2 => .ok (d :: ds) h2) (fun ρ h => (sem e).ts ρ h) fun ds ρ h => match ds with
    | d :: r => ((sem e).tg d ρ h).bind fun ρ1 h1 => (sem es).tgs r ρ1 h1
    | [] => .no
  | .star e es => .li (fun ρ h => ((sem e).ev ρ h).bind fun d h1 => match seqOf d h1 with
    | some l => ((sem es).es ρ h1).bind fun ds h2 => .ok (l ++ ds) h2
    | none => .no) (fun _ _ => .no) fun _ _ _ => .no
  | .i_e e => .itr fun ρ h => ((sem e).ev ρ h).bind fun x h1 => match x with
    | .tup l => .ok (.items l) h1
    | .wtup l => .ok (.items l) h1
    | .lst l => .ok (.items l) h1
    | .bor l => .ok (.items l) h1
    | .ref n => (match h1[n]? with
      | some (.lst _) => .ok (.live n) h1
      | _ => .no)
    | _ => .no
  | .i_r1 a => .itr fun ρ h => ((sem a).ev ρ h).bind fun x h1 => match x with
    | .int j => (match smallI j with
      | true => .ok (.items (rangeL 0 j)) h1
      | false => .no)
    | _ => .no
  | .i_r2 a b => .itr fun ρ h => ((sem a).ev ρ h).bind fun x h1 => ((sem b).ev ρ h1).bind fun y h2 => match x, y with
    | .int i, .int j => (match smallI i && smallI j with
      | true => .ok (.items (rangeL i j)) h2
      | false => .no)
    | _, _ => .no
  | .i_en e => .itr fun ρ h => ((sem e).ev ρ h).bind fun x h1 => match x with
    | .lst l => .ok (.items (enumL 0 l)) h1
    | _ => .no
  | .i_zip a b => .itr fun ρ h => ((sem a).ev ρ h).bind fun x h1 => ((sem b).ev ρ h1).bind fun y h2 => match x, y with
    | .tup k, .tup l => .ok (.items (pairL k l)) h2
    | .lst k, .lst l => .ok (.items (pairL k l)) h2
    | _, _ => .no
  | .t_n i => .tar fun d ρ h => .ok (ρ.set i (some d)) h
  | .t_t ts => .tar fun d ρ h => (match seqOf d h with
    | some l => (sem ts).tgs l ρ h
    | none => .no)
  | .t_s o i => .tar fun d ρ h => ((sem o).ev ρ h).bind fun x h1 => ((sem i).ev ρ h1).bind fun y h2 => match setD x y d h2 with
    | some h3 => .ok ρ h3
    | none => .no
  | .t_a o k => .tar fun d ρ h => ((sem o).ev ρ h).bind fun x h1 => match setF P.fld x k d h1 with
    | some h2 => .ok ρ h2
    | none => .no
def ev (e : E) (ρ : Env) (h : HH) : R D := (sem P orc e).ev ρ h
def evs (e : E) (ρ : Env) (h : HH) : R (List D) := (sem P orc e).es ρ h
def tst (e : E) (ρ : Env) (h : HH) : R Bool := (sem P orc e).ts ρ h
def tsts (e : E) (ρ : Env) (h : HH) : R Bool := (sem P orc e).tl ρ h
def itm (e : E) (ρ : Env) (h : HH) : R Itr := (sem P orc e).it ρ h
def asg (e : E) (d : D) (ρ : Env) (h : HH) : R Env := (sem P orc e).tg d ρ h
def asgs (e : E) (ds : List D) (ρ : Env) (h : HH) : R Env := (sem P orc e).tgs ds ρ h
/-- the turns of a loop over written items -/
def loopL (f : D → Env → HH → RS) : List D → Env → HH → RS
  | [], ρ, h => .nx ρ h
  | x :: r, ρ, h => match f x ρ h with
    | .nx ρ1 h1 => loopL f r ρ1 h1
    | .ct ρ1 h1 => loopL f r ρ1 h1
    | .bk ρ1 h1 => .nx ρ1 h1
    | z => z
def loopLive (f : D → Env → HH → RS) (n : Nat) : Nat → Nat → Env → HH → RS
  | 0, _, _, _ => .no
  | k + 1, i, ρ, h => match h[n]? with
    | some (.lst l) => (match l[i]? with
      | some x => (match f x ρ h with
        | .nx ρ1 h1 => loopLive f n k (i + 1) ρ1 h1
        | .ct ρ1 h1 => loopLive f n k (i + 1) ρ1 h1
        | .bk ρ1 h1 => .nx ρ1 h1
        | z => z)
      | none => .nx ρ h)
    | _ => .no
def loopI (f : D → Env → HH → RS) (it : Itr) (ρ : Env) (h : HH) : RS := match it with
  | .items l => loopL f l ρ h
  | .live n => loopLive f n fuel 0 ρ h
def whileL (c : Env → HH → R Bool) (f : Env → HH → RS) : Nat → Env → HH → RS
  | 0, _, _ => .no
  | k + 1, ρ, h => (c ρ h).st ρ fun b h1 => match b with
    | true => (match f ρ h1 with
      | .nx ρ1 h1 => whileL c f k ρ1 h1
      | .ct ρ1 h1 => whileL c f k ρ1 h1
      | .bk ρ1 h1 => .nx ρ1 h1
      | z => z)
    | false => .nx ρ h1
def setAll : List Nat → List D → Env → Env
  | i :: is, d :: ds, ρ => setAll is ds (ρ.set i (some d))
  | _, _, ρ => ρ
def run : S → Env → HH → RS
  | .skip, ρ, h => .nx ρ h
  | .pass, ρ, h => .nx ρ h
  | .seq s t, ρ, h => (match run s ρ h with
    | .nx ρ1 h1 => run t ρ1 h1
    | z => z)
  | .ex e, ρ, h => (ev P orc e ρ h).st ρ fun _ h1 => .nx ρ h1
  | .asg t e, ρ, h => (ev P orc e ρ h).st ρ fun d h1 => (asg P orc t d ρ h1).pur.st ρ fun ρ1 h2 => .nx ρ1 h2
  | .par ns es, ρ, h => (evs P orc es ρ h).st ρ fun ds h1 => match ds.length == ns.length with
    | true => .nx (setAll ns ds ρ) h1
    | false => .no
  | .aug i op e, ρ, h => (match ρ[i]? with
    | some (some x) => (ev P orc e ρ h).st ρ fun y h1 => (match x, y with
      | .int _, .int _ => (binD op false x y h1).st ρ fun z h2 => .nx (ρ.set i (some z)) h2
      | _, _ => .no)
    | _ => .no)
  | .ite c s t, ρ, h => (tst P orc c ρ h).st ρ fun k h1 => match k with
    | true => run s ρ h1
    | false => run t ρ h1
  | .loop t it b, ρ, h => (itm P orc it ρ h).st ρ fun I h1 => loopI (fun x ρ1 h2 => (asg P orc t x ρ1 h2).pur.st ρ1 fun ρ2 h3 => run b ρ2 h3) I ρ h1
  | .whil c b, ρ, h => whileL (tst P orc c) (run b) fuel ρ h
  | .ret e, ρ, h => (ev P orc e ρ h).st ρ fun d h1 => .rt d h1
  | .retN, _, h => .rt .non h
  | .brk, ρ, h => .bk ρ h
  | .cnt, ρ, h => .ct ρ h
  | .rais _ _, _, _ => .no
end
/-! ### calls -/
def startE (nl : Nat) (ds : List D) : Env := ds.map some ++ List.replicate (nl - ds.length) none
def lend (h : HH) : D → Option D
  | .ref n => match h[n]? with
    | some (.lst l) => if D.flats l then some (.bor l) else none
    | _ => none
  | .bor l => if D.flats l then some (.bor l) else none
  | d => if D.flat d then some d else none
def lends (h : HH) : List D → Option (List D)
  | [] => some []
  | d :: r => (match lend h d, lends h r with
    | some e, some l => some (e :: l)
    | _, _ => none)
def body (P : Prog) (orc : Orc) (f : Fn) (ds : List D) (h : HH) : R D := match ds.length == f.np with
  | true => (match run P orc f.body (startE f.nl ds) h with
    | .nx _ h1 => .ok .non h1
    | .rt d h1 => .ok d h1
    | .exc c ks vs _ h1 => .exc c ks vs h1
    | _ => .no)
  | false => .no
/-- the answer of a pure def, out of its own heap -/
def takeOut (d : D) (h : HH) : Option Ret := match d with
  | .ref n => (match h[n]? with
    | some (.lst l) => if D.flats l then some (.newl l) else none
    | _ => none)
  | d => if D.flat d then some (.val d) else none
def pureRun (P : Prog) (orc : Orc) (f : Fn) (ds : List D) (h : HH) : R Ret := match lends h ds with
  | some es => (match body P orc f es [] with
    | .ok d h1 => (match takeOut d h1 with
      | some r => .ok r h
      | none => .no)
    | .exc c ks vs _ => if D.flats vs then .exc c ks vs h else .no
    | .no => .no)
  | none => .no
def made (d : D) (h1 h : HH) : R Ret := match d, h1 with
  | .non, .ins c ks vs :: _ => if D.flats vs then .ok (.val (.obj c ks vs)) h else .no
  | _, _ => .no
def makeRun (P : Prog) (orc : Orc) (c : Nat) (f : Fn) (ds : List D) (h : HH) : R Ret := match lends h ds with
  | some es => (match body P orc f (.ref 0 :: es) [.ins c [] []] with
    | .ok d h1 => made d h1 h
    | .exc x ks vs _ => if D.flats vs then .exc x ks vs h else .no
    | .no => .no)
  | none => .no
def callN (P : Prog) : Nat → Orc
  | 0 => fun _ _ _ => .no
  | n + 1 => fun k ds h => match P.fns[k]? with
    | none => .no
    | some f => match f.kind with
      | .fn true => pureRun P (callN P n) f ds h
      | .fn false => (body P (callN P n) f ds h).bind fun d h1 => .ok (.val d) h1
      | .ctor c true => makeRun P (callN P n) c f ds h
      | .ctor c false => (body P (callN P n) f (.ref h.length :: ds) (h ++ [.ins c [] []])).bind fun d h1 => match d with
        | .non => .ok (.val (.ref h.length)) h1
        | _ => .no
end MV

/-! V1e: the interpreter's equations. -/
namespace MV
open PySem (Str Operator)
set_option autoImplicit true
theorem q_v : ev P orc (.v i) ρ h = (match ρ[i]? with
    | some (some d) => .ok d h
    | _ => .no) := rfl
theorem q_c : ev P orc (.c d) ρ h = .ok d h := rfl
theorem q_g : ev P orc (.g k) ρ h = R.of P.gl[k]? h := rfl
theorem q_bin : ev P orc (.bin op m a b) ρ h = (ev P orc a ρ h).bind fun x h1 => (ev P orc b ρ h1).bind fun y h2 => binD op m x y h2 := rfl
theorem q_neg : ev P orc (.neg a) ρ h = (ev P orc a ρ h).bind fun x h1 => match x with
    | .int i => .ok (.int (-i)) h1
    | _ => .no := rfl
theorem q_cmp : ev P orc (.cmp op a b) ρ h = (ev P orc a ρ h).bind fun x h1 => (ev P orc b ρ h1).bind fun y h2 => R.of ((cmpD op x y h2).map D.bl) h2 := rfl
theorem tq_cmp : tst P orc (.cmp op a b) ρ h = (ev P orc a ρ h).bind fun x h1 => (ev P orc b ρ h1).bind fun y h2 => R.of (cmpD op x y h2) h2 := rfl
theorem q_chain : ev P orc (.chain o p a b d) ρ h = (ev P orc a ρ h).bind fun x h1 => (ev P orc b ρ h1).bind fun y h2 => match cmpD o x y h2 with
      | some true => (ev P orc d ρ h2).bind fun z h3 => R.of ((cmpD p y z h3).map D.bl) h3
      | some false => .ok (.bl false) h2
      | none => .no := rfl
theorem tq_chain : tst P orc (.chain o p a b d) ρ h = (ev P orc a ρ h).bind fun x h1 => (ev P orc b ρ h1).bind fun y h2 => match cmpD o x y h2 with
      | some true => (ev P orc d ρ h2).bind fun z h3 => R.of (cmpD p y z h3) h3
      | some false => .ok false h2
      | none => .no := rfl
theorem q_band : ev P orc (.band a b) ρ h = (ev P orc a ρ h).bind fun x h1 => match truthD x h1 with
      | some true => ev P orc b ρ h1
      | some false => .ok x h1
      | none => .no := rfl
theorem tq_band : tst P orc (.band a b) ρ h = (tst P orc a ρ h).bind fun k h1 => match k with
      | true => tst P orc b ρ h1
      | false => .ok false h1 := rfl
theorem q_bor : ev P orc (.bor a b) ρ h = (ev P orc a ρ h).bind fun x h1 => match truthD x h1 with
      | some true => .ok x h1
      | some false => ev P orc b ρ h1
      | none => .no := rfl
theorem tq_bor : tst P orc (.bor a b) ρ h = (tst P orc a ρ h).bind fun k h1 => match k with
      | true => .ok true h1
      | false => tst P orc b ρ h1 := rfl
theorem q_b1 : ev P orc (.b1 a) ρ h = ev P orc a ρ h := rfl
theorem tq_b1 : tst P orc (.b1 a) ρ h = tst P orc a ρ h := rfl
theorem q_bnot : ev P orc (.bnot a) ρ h = (ev P orc a ρ h).bind fun x h1 => match truthD x h1 with
      | some b => .ok (.bl (!b)) h1
      | none => .no := rfl
theorem tq_bnot : tst P orc (.bnot a) ρ h = (tst P orc a ρ h).bind fun k h1 => .ok (!k) h1 := rfl
theorem q_ife : ev P orc (.ife t a b) ρ h = (tst P orc t ρ h).bind fun k h1 => match k with
      | true => ev P orc a ρ h1
      | false => ev P orc b ρ h1 := rfl
theorem tq_ife : tst P orc (.ife t a b) ρ h = .no := rfl
theorem q_tup : ev P orc (.tup es) ρ h = (evs P orc es ρ h).bind fun ds h1 => mkT ds h1 := rfl
theorem q_lst : ev P orc (.lst m es) ρ h = (evs P orc es ρ h).bind fun ds h1 => mkL m ds h1 := rfl
theorem q_dct : ev P orc (.dct) ρ h = .ok (.ref h.length) (h ++ [.dct [] []]) := rfl
theorem q_ix : ev P orc (.ix a i) ρ h = (ev P orc a ρ h).bind fun x h1 => (ev P orc i ρ h1).bind fun y h2 => R.of (itemD P.wd x y h2) h2 := rfl
theorem q_sl : ev P orc (.sl m a lo hi) ρ h = (ev P orc a ρ h).bind fun x h1 => (ev P orc lo ρ h1).bind fun l h2 => match partD lo.isNil l with
    | some l => (ev P orc hi ρ h2).bind fun u h3 => (match partD hi.isNil u with
      | some u => sliceD m x l u h3
      | none => .no)
    | none => .no := rfl
theorem q_rev : ev P orc (.rev m a) ρ h = (ev P orc a ρ h).bind fun x h1 => revD m x h1 := rfl
theorem q_call : ev P orc (.call ad j es) ρ h = (evs P orc es ρ h).bind fun ds h1 => callJ P orc ad j ds h1 := rfl
theorem q_callk : ev P orc (.callk ad j es ks) ρ h = (evs P orc es ρ h).bind fun ds h1 => (evs P orc ks ρ h1).bind fun es h2 => callJ P orc ad j (ds ++ es) h2 := rfl
theorem q_meth : ev P orc (.meth ad mi o alts es) ρ h = (ev P orc o ρ h).bind fun x h1 => match methJ alts mi (insOf x h1) with
    | some j => (evs P orc es ρ h1).bind fun ds h2 => callJ P orc ad j (x :: ds) h2
    | none => .no := rfl
theorem q_att : ev P orc (.att o k alts) ρ h = (ev P orc o ρ h).bind fun x h1 => match propJ alts (insOf x h1) with
    | some j => (callJ P orc false j [x] h1).pur
    | none => R.of (fieldD P.fld k (insOf x h1)) h1 := rfl
theorem q_blt : ev P orc (.blt m b es) ρ h = (evs P orc es ρ h).bind fun ds h1 => bltD m b ds h1 := rfl
theorem q_isi : ev P orc (.isi x ts) ρ h = (ev P orc x ρ h).bind fun d h1 => R.of ((isiD P.nc d h1 ts).map D.bl) h1 := rfl
theorem q_bm : ev P orc (.bm b o es) ρ h = (ev P orc o ρ h).bind fun x h1 => match isRcv b x h1 with
    | true => (evs P orc es ρ h1).bind fun ds h2 => bmD b x ds h2
    | false => .no := rfl
theorem q_comp : ev P orc (.comp m own tg it ifs el) ρ h = (itm P orc it ρ h).bind fun I h1 => (compI (fun x h2 => (asg P orc tg x (wipeE ρ own) h2).bind fun ρ2 h3 => (tsts P orc ifs ρ2 h3).bind fun k h4 => match k with
      | true => (ev P orc el ρ2 h4).bind fun d h5 => .ok (some d) h5
      | false => .ok none h4) I h1).pur.bind fun l h2 => mkL m l h2 := rfl
theorem q_comp2 : ev P orc (.comp2 u0 u1 u2 u3 u4 u5 u6 u7) ρ h = .no := rfl
theorem q_nil : evs P orc (.nil) ρ h = .ok [] h := rfl
theorem lq_nil : tsts P orc (.nil) ρ h = .ok true h := rfl
theorem gq_nil : asgs P orc (.nil) ds ρ h = match ds with
    | [] => .ok ρ h
    | _ => .no := rfl
theorem q_cons : evs P orc (.cons e es) ρ h = (ev P orc e ρ h).bind fun d h1 => (evs P orc es ρ h1).bind fun ds h2 => .ok (d :: ds) h2 := rfl
theorem lq_cons : tsts P orc (.cons e es) ρ h = tst P orc e ρ h := rfl
theorem gq_cons : asgs P orc (.cons e es) ds ρ h = match ds with
    | d :: r => (asg P orc e d ρ h).bind fun ρ1 h1 => asgs P orc es r ρ1 h1
    | [] => .no := rfl
theorem q_star : evs P orc (.star e es) ρ h = (ev P orc e ρ h).bind fun d h1 => match seqOf d h1 with
    | some l => (evs P orc es ρ h1).bind fun ds h2 => .ok (l ++ ds) h2
    | none => .no := rfl
theorem lq_star : tsts P orc (.star e es) ρ h = .no := rfl
theorem gq_star : asgs P orc (.star e es) ds ρ h = .no := rfl
theorem q_i_e : itm P orc (.i_e e) ρ h = (ev P orc e ρ h).bind fun x h1 => match x with
    | .tup l => .ok (.items l) h1
    | .wtup l => .ok (.items l) h1
    | .lst l => .ok (.items l) h1
    | .bor l => .ok (.items l) h1
    | .ref n => (match h1[n]? with
      | some (.lst _) => .ok (.live n) h1
      | _ => .no)
    | _ => .no := rfl
theorem q_i_r1 : itm P orc (.i_r1 a) ρ h = (ev P orc a ρ h).bind fun x h1 => match x with
    | .int j => (match smallI j with
      | true => .ok (.items (rangeL 0 j)) h1
      | false => .no)
    | _ => .no := rfl
theorem q_i_r2 : itm P orc (.i_r2 a b) ρ h = (ev P orc a ρ h).bind fun x h1 => (ev P orc b ρ h1).bind fun y h2 => match x, y with
    | .int i, .int j => (match smallI i && smallI j with
      | true => .ok (.items (rangeL i j)) h2
      | false => .no)
    | _, _ => .no := rfl
theorem q_i_en : itm P orc (.i_en e) ρ h = (ev P orc e ρ h).bind fun x h1 => match x with
    | .lst l => .ok (.items (enumL 0 l)) h1
    | _ => .no := rfl
theorem q_i_zip : itm P orc (.i_zip a b) ρ h = (ev P orc a ρ h).bind fun x h1 => (ev P orc b ρ h1).bind fun y h2 => match x, y with
    | .tup k, .tup l => .ok (.items (pairL k l)) h2
    | .lst k, .lst l => .ok (.items (pairL k l)) h2
    | _, _ => .no := rfl
theorem q_t_n : asg P orc (.t_n i) d ρ h = .ok (ρ.set i (some d)) h := rfl
theorem q_t_t : asg P orc (.t_t ts) d ρ h = (match seqOf d h with
    | some l => asgs P orc ts l ρ h
    | none => .no) := rfl
theorem q_t_s : asg P orc (.t_s o i) d ρ h = (ev P orc o ρ h).bind fun x h1 => (ev P orc i ρ h1).bind fun y h2 => match setD x y d h2 with
    | some h3 => .ok ρ h3
    | none => .no := rfl
theorem q_t_a : asg P orc (.t_a o k) d ρ h = (ev P orc o ρ h).bind fun x h1 => match setF P.fld x k d h1 with
    | some h2 => .ok ρ h2
    | none => .no := rfl
end MV

set_option maxRecDepth 100000
/-! V2: own data over the hand layer's heap. -/
namespace MV
open PySem PySem.Spec PyProof.Rows L2

/-- where the text's things stand -/
structure Lk where
  K : PySem.W.Frag
  nm : Nat → Str
  cl : Nat → Addr
  wa : Nat → Addr
  xc : Nat → Addr

/-- what may not be told as own frozen data; what is lent to be read -/
structure Fm where
  no : Addr → Prop
  bo : Addr → Prop
mutual
inductive Rel (L : Lk) (F : Fm) (φ : List Addr) (H : Hp) : D → V → Prop
  | non : Rel L F φ H .non .non
  | bl (b : Bool) : Rel L F φ H (.bl b) (.bl b)
  | int (i : Int) : Rel L F φ H (.int i) (.int i)
  | str (s : Str) : Rel L F φ H (.str s) (.str s)
  | cls (c : Nat) : Rel L F φ H (.cls c) (.ref (L.cl c))
  | wd (c : Nat) : Rel L F φ H (.wd c) (.ref (L.wa c))
  | tup {a : Addr} {vs : List V} {ds : List D} : SqT L.K H a vs → Rels L F φ H ds vs → Rel L F φ H (.tup ds) (.ref a)
  | wtup {a : Addr} {o : Obj} {its : Array Value} {n : Nat} {vs : List V} {ds : List D} : L.K.lookup a = some o → o.cls = .type "tuple" → o.dict = none → o.data = .seq its n → its.size ≤ sizeLine → Vals vs its.toList → Rels L F φ H ds vs → Rel L F φ H (.wtup ds) (.ref a)
  | lst {a : Addr} {vs : List V} {ds : List D} : H a = some (.lst vs) → a ∉ φ → ¬ F.no a → Rels L F φ H ds vs → Rel L F φ H (.lst ds) (.ref a)
  | bor {a : Addr} {vs : List V} {ds : List D} : Rd H a (.lst vs) → a ∉ φ → F.bo a → Rels L F φ H ds vs → Rel L F φ H (.bor ds) (.ref a)
  | borK {a : Addr} {o : Obj} {its : Array Value} {n : Nat} {vs : List V} {ds : List D} : L.K.lookup a = some o → o.cls = .type "list" → o.dict = none → o.data = .seq its n → its.size ≤ sizeLine → Vals vs its.toList → Rels L F φ H ds vs → Rel L F φ H (.bor ds) (.ref a)
  | dct {a : Addr} {kvs : List (L2.Key × V)} {ks : List Key} {ds : List D} : H a = some (.dK kvs) → a ∉ φ → ¬ F.no a → kvs.map (·.1) = ks → Rels L F φ H ds (kvs.map (·.2)) → Rel L F φ H (.dct ks ds) (.ref a)
  | obj {a dx : Addr} {fs : List (Str × V)} {c : Nat} {ks : List Nat} {ds : List D} : H a = some (.ins (L.cl c) dx fs) → a ∉ φ → ¬ F.no a → fs.map (·.1) = ks.map L.nm → Rels L F φ H ds (fs.map (·.2)) → Rel L F φ H (.obj c ks ds) (.ref a)
  | ref {n : Nat} {a : Addr} : φ[n]? = some a → Rel L F φ H (.ref n) (.ref a)
inductive Rels (L : Lk) (F : Fm) (φ : List Addr) (H : Hp) : List D → List V → Prop
  | nil : Rels L F φ H [] []
  | cons {d : D} {v : V} {ds : List D} {vs : List V} : Rel L F φ H d v → Rels L F φ H ds vs → Rels L F φ H (d :: ds) (v :: vs)
end

inductive RO (L : Lk) (F : Fm) (φ : List Addr) (H : Hp) (a : Addr) : O → Prop
  | lst {vs : List V} {l : List D} : H a = some (.lst vs) → Rels L F φ H l vs → RO L F φ H a (.lst l)
  | dct {kvs : List (L2.Key × V)} {ks : List Key} {ds : List D} : H a = some (.dK kvs) → kvs.map (·.1) = ks → Rels L F φ H ds (kvs.map (·.2)) → RO L F φ H a (.dct ks ds)
  | ins {dx : Addr} {fs : List (Str × V)} {c : Nat} {ks : List Nat} {ds : List D} : H a = some (.ins (L.cl c) dx fs) → fs.map (·.1) = ks.map L.nm → Rels L F φ H ds (fs.map (·.2)) → RO L F φ H a (.ins c ks ds)
structure HR (L : Lk) (F : Fm) (φ : List Addr) (h : HH) (H : Hp) : Prop where
  len : φ.length = h.length
  nod : φ.Nodup
  at_ : ∀ (n : Nat) (a : Addr) (o : O), φ[n]? = some a → h[n]? = some o → RO L F φ H a o
  own : ∀ a ∈ φ, ¬ F.no a
  trk : ∀ a, F.no a → ∃ o, H a = some o
  bn : ∀ a, F.bo a → F.no a
/-- the heap grows, what is not ours stays -/
structure XT (φ : List Addr) (H : Hp) (φ' : List Addr) (H' : Hp) : Prop where
  pre : ∃ more, φ' = φ ++ more ∧ ∀ p ∈ more, H p = none
  keep : ∀ a o, H a = some o → a ∉ φ → H' a = some o
  tup : ∀ a xs, H a = some (.tup xs) → H' a = some (.tup xs)
  frz : ∀ a o u, H a = some (.frz o u) → H' a = some (.frz o u)
  trk : ∀ a o, H a = some o → ∃ o', H' a = some o'

section
variable {L : Lk} {F : Fm} {φ φ' φ1 φ2 : List Addr} {H H' H1 H2 : Hp} {h h' : HH} {a : Addr} {d : D} {ds : List D} {v : V} {vs : List V}
theorem XT.refl (φ : List Addr) (H : Hp) : XT φ H φ H := ⟨⟨[], by simp, by simp⟩, fun _ _ e _ => e, fun _ _ e => e, fun _ _ _ e => e, fun _ _ e => ⟨_, e⟩⟩
theorem XT.nin (x : XT φ H φ' H') {o : HO} (e : H a = some o) (n : a ∉ φ) : a ∉ φ' := by
  obtain ⟨more, rfl, hm⟩ := x.pre
  intro z
  rcases List.mem_append.mp z with z | z
  · exact n z
  · have := hm a z
    rw [e] at this
    cases this
theorem XT.trans (x : XT φ H φ1 H1) (y : XT φ1 H1 φ2 H2) : XT φ H φ2 H2 := by
  refine ⟨?_, fun a o e n => y.keep a o (x.keep a o e n) (x.nin e n), fun a xs e => y.tup a xs (x.tup a xs e), fun a o u e => y.frz a o u (x.frz a o u e), fun a o e => ?_⟩
  · obtain ⟨m1, rfl, h1⟩ := x.pre
    obtain ⟨m2, rfl, h2⟩ := y.pre
    refine ⟨m1 ++ m2, by simp, fun p hp => ?_⟩
    rcases List.mem_append.mp hp with hp | hp
    · exact h1 p hp
    · have q := h2 p hp
      cases e : H p with
      | none => rfl
      | some o =>
        obtain ⟨o', e'⟩ := x.trk p o e
        rw [q] at e'
        cases e'
  · obtain ⟨o1, e1⟩ := x.trk a o e
    exact y.trk a o1 e1
theorem XT.get (x : XT φ H φ' H') {n : Nat} (e : φ[n]? = some a) : φ'[n]? = some a := by
  obtain ⟨more, rfl, _⟩ := x.pre
  rw [List.getElem?_append_left (List.getElem?_eq_some_iff.mp e).1]
  exact e
theorem XT.sqt (x : XT φ H φ' H') {K : PySem.W.Frag} (e : SqT K H a vs) : SqT K H' a vs := by
  rcases e with (e | ⟨o, e⟩) | e
  · exact .inl (.inl (x.tup _ _ e))
  · exact .inl (.inr ⟨o, x.frz _ _ _ e⟩)
  · exact .inr e
theorem XT.rd (x : XT φ H φ' H') (e : Rd H a (.lst vs)) (n : a ∉ φ) : Rd H' a (.lst vs) ∧ a ∉ φ' := by
  rcases e with e | ⟨o, e⟩
  · exact ⟨.inl (x.keep _ _ e n), x.nin e n⟩
  · exact ⟨.inr ⟨o, x.frz _ _ _ e⟩, x.nin e n⟩
mutual
theorem Rel.mono (x : XT φ H φ' H') : ∀ {d : D} {v : V}, Rel L F φ H d v → Rel L F φ' H' d v
  | _, _, .non => .non
  | _, _, .bl b => .bl b
  | _, _, .int i => .int i
  | _, _, .str s => .str s
  | _, _, .cls c => .cls c
  | _, _, .wd c => .wd c
  | _, _, .tup e r => .tup (x.sqt e) (Rels.mono x r)
  | _, _, .borK e1 e2 e3 e4 e5 e6 r => .borK e1 e2 e3 e4 e5 e6 (Rels.mono x r)
  | _, _, .wtup e1 e2 e3 e4 e5 e6 r => .wtup e1 e2 e3 e4 e5 e6 (Rels.mono x r)
  | _, _, .lst e n f r => .lst (x.keep _ _ e n) (x.nin e n) f (Rels.mono x r)
  | _, _, .bor e n b r => .bor (x.rd e n).1 (x.rd e n).2 b (Rels.mono x r)
  | _, _, .dct e n f k r => .dct (x.keep _ _ e n) (x.nin e n) f k (Rels.mono x r)
  | _, _, .obj e n f k r => .obj (x.keep _ _ e n) (x.nin e n) f k (Rels.mono x r)
  | _, _, .ref e => .ref (x.get e)
theorem Rels.mono (x : XT φ H φ' H') : ∀ {ds : List D} {vs : List V}, Rels L F φ H ds vs → Rels L F φ' H' ds vs
  | _, _, .nil => .nil
  | _, _, .cons r t => .cons (Rel.mono x r) (Rels.mono x t)
end
theorem Rels.length : ∀ {ds : List D} {vs : List V}, Rels L F φ H ds vs → ds.length = vs.length
  | _, _, .nil => rfl
  | _, _, .cons _ t => congrArg Nat.succ (Rels.length t)
theorem Rels.get : ∀ {ds : List D} {vs : List V} {i : Nat} {d : D}, Rels L F φ H ds vs → ds[i]? = some d → ∃ v, vs[i]? = some v ∧ Rel L F φ H d v
  | _, _, _, _, .nil, e => by simp at e
  | _, _, 0, _, .cons r _, e => by
    simp at e
    subst e
    exact ⟨_, rfl, r⟩
  | _, _, i + 1, d, .cons _ t, e => by
    obtain ⟨v, h1, h2⟩ := Rels.get (i := i) (d := d) t (by simpa using e)
    exact ⟨v, by simpa using h1, h2⟩
theorem Rels.get' : ∀ {ds : List D} {vs : List V} {i : Nat} {v : V}, Rels L F φ H ds vs → vs[i]? = some v → ∃ d, ds[i]? = some d ∧ Rel L F φ H d v
  | _, _, _, _, .nil, e => by simp at e
  | _, _, 0, _, .cons r _, e => by
    simp at e
    subst e
    exact ⟨_, rfl, r⟩
  | _, _, i + 1, d, .cons _ t, e => by
    obtain ⟨v, h1, h2⟩ := Rels.get' (i := i) t (by simpa using e)
    exact ⟨v, by simpa using h1, h2⟩
theorem Rels.append : ∀ {ds es : List D} {vs ws : List V}, Rels L F φ H ds vs → Rels L F φ H es ws → Rels L F φ H (ds ++ es) (vs ++ ws)
  | _, _, _, _, .nil, s => s
  | _, _, _, _, .cons r t, s => .cons r (Rels.append t s)
theorem Rels.take : ∀ {ds : List D} {vs : List V} (n : Nat), Rels L F φ H ds vs → Rels L F φ H (ds.take n) (vs.take n)
  | _, _, 0, _ => by simpa using Rels.nil
  | _, _, _ + 1, .nil => .nil
  | _, _, n + 1, .cons r t => .cons r (Rels.take n t)
theorem Rels.drop : ∀ {ds : List D} {vs : List V} (n : Nat), Rels L F φ H ds vs → Rels L F φ H (ds.drop n) (vs.drop n)
  | _, _, 0, r => by simpa using r
  | _, _, _ + 1, .nil => .nil
  | _, _, n + 1, .cons _ t => Rels.drop n t
theorem Rels.reverse : ∀ {ds : List D} {vs : List V}, Rels L F φ H ds vs → Rels L F φ H ds.reverse vs.reverse
  | _, _, .nil => .nil
  | _, _, .cons r t => by
    rw [List.reverse_cons, List.reverse_cons]
    exact (Rels.reverse t).append (.cons r .nil)
theorem Rels.set {d : D} {v : V} (r : Rel L F φ H d v) : ∀ {ds : List D} {vs : List V} (i : Nat), Rels L F φ H ds vs → Rels L F φ H (ds.set i d) (vs.set i v)
  | _, _, _, .nil => .nil
  | _, _, 0, .cons _ t => .cons r t
  | _, _, i + 1, .cons q t => .cons q (Rels.set r i t)
theorem Rels.dropLast : ∀ {ds : List D} {vs : List V}, Rels L F φ H ds vs → Rels L F φ H ds.dropLast vs.dropLast := fun {ds vs} r => by
  rw [List.dropLast_eq_take, List.dropLast_eq_take, r.length]
  exact r.take _
theorem Rels.snoc (r : Rels L F φ H ds vs) (q : Rel L F φ H d v) : Rels L F φ H (ds ++ [d]) (vs ++ [v]) := r.append (.cons q .nil)
theorem Rels.isEmpty (r : Rels L F φ H ds vs) : vs.isEmpty = ds.isEmpty := by
  cases r <;> rfl
theorem Rels.intsD : ∀ {ds : List D} {vs : List V} {ns : List Int}, Rels L F φ H ds vs → MV.intsD ds = some ns → vs = ns.map V.int
  | _, _, ns, .nil, e => by
    cases e
    rfl
  | _, _, ns, @Rels.cons _ _ _ _ d v ds vs r t, e => by
    cases r with
    | int i =>
      have e1 : (MV.intsD ds).map (i :: ·) = some ns := e
      cases q : MV.intsD ds with
      | none =>
        rw [q] at e1
        cases e1
      | some ms =>
        rw [q] at e1
        cases e1
        rw [Rels.intsD t q]
        rfl
    | _ => cases e
theorem Rels.bls : ∀ {ds : List D} {vs : List V} {ns : List Bool}, Rels L F φ H ds vs → MV.bls ds = some ns → vs = ns.map V.bl
  | _, _, ns, .nil, e => by
    cases e
    rfl
  | _, _, ns, @Rels.cons _ _ _ _ d v ds vs r t, e => by
    cases r with
    | bl i =>
      have e1 : (MV.bls ds).map (i :: ·) = some ns := e
      cases q : MV.bls ds with
      | none =>
        rw [q] at e1
        cases e1
      | some ms =>
        rw [q] at e1
        cases e1
        rw [Rels.bls t q]
        rfl
    | _ => cases e
theorem Rels.ofInts : ∀ ns : List Int, Rels L F φ H (ns.map D.int) (ns.map V.int)
  | [] => .nil
  | n :: r => .cons (.int n) (Rels.ofInts r)

theorem RO.mono {o : O} (x : XT φ H φ' H') (e : H' a = H a) (r : RO L F φ H a o) : RO L F φ' H' a o := by
  cases r with
  | lst q r => exact .lst (e.trans q) (r.mono x)
  | dct q k r => exact .dct (e.trans q) k (r.mono x)
  | ins q k r => exact .ins (e.trans q) k (r.mono x)
theorem RO.has {o : O} (r : RO L F φ H a o) : ∃ u, H a = some u ∧ Mut (some u) ∧ (∀ xs, u ≠ .tup xs) ∧ ∀ b w, u ≠ .frz b w := by
  cases r with
  | lst q _ => exact ⟨_, q, trivial, (fun _ z => by cases z), (fun _ _ z => by cases z)⟩
  | dct q _ _ => exact ⟨_, q, trivial, (fun _ z => by cases z), (fun _ _ z => by cases z)⟩
  | ins q _ _ => exact ⟨_, q, trivial, (fun _ z => by cases z), (fun _ _ z => by cases z)⟩
theorem HR.ro (x : HR L F φ h H) {n : Nat} (e : φ[n]? = some a) : ∃ o, h[n]? = some o ∧ RO L F φ H a o := by
  have l : n < h.length := by
    rw [← x.len]
    exact (List.getElem?_eq_some_iff.mp e).1
  exact ⟨h[n], List.getElem?_eq_getElem l, x.at_ n a _ e (List.getElem?_eq_getElem l)⟩
theorem HR.trkφ (x : HR L F φ h H) (m : a ∈ φ) : ∃ u, H a = some u ∧ Mut (some u) ∧ (∀ xs, u ≠ .tup xs) ∧ ∀ b w, u ≠ .frz b w := by
  obtain ⟨n, e⟩ := List.mem_iff_getElem?.mp m
  obtain ⟨o, _, r⟩ := x.ro e
  exact r.has
theorem HR.nin (x : HR L F φ h H) (e : H a = none) : a ∉ φ := fun m => by
  obtain ⟨u, q, _⟩ := x.trkφ m
  rw [e] at q
  cases q
theorem HR.nF (x : HR L F φ h H) (e : H a = none) : ¬ F.no a := fun m => by
  obtain ⟨u, q⟩ := x.trk a m
  rw [e] at q
  cases q
theorem HR.nB (x : HR L F φ h H) (e : H a = none) : ¬ F.bo a := fun m => by
  obtain ⟨u, q⟩ := x.trk a (x.bn a m)
  rw [e] at q
  cases q
theorem HR.ne (x : HR L F φ h H) {n m : Nat} {b : Addr} (e : φ[n]? = some a) (e' : φ[m]? = some b) (d : n ≠ m) : a ≠ b := fun z => by
  subst z
  exact d ((List.getElem?_inj (List.getElem?_eq_some_iff.mp e).1 x.nod).mp (e.trans e'.symm))

/-! ### steps of the heap -/
/-- a new thing that is not ours -/
theorem XT.fresh {p : Addr} {o : HO} (e : H p = none) : XT φ H φ (upd H p o) :=
  ⟨⟨[], by simp, by simp⟩, fun a u q _ => by rw [upd_ne (ne_of_none q e)]; exact q, fun a u q => by rw [upd_ne (ne_of_none q e)]; exact q, fun a u w q => by rw [upd_ne (ne_of_none q e)]; exact q,
    fun a u q => ⟨u, by rw [upd_ne (ne_of_none q e)]; exact q⟩⟩
theorem HR.fresh {p : Addr} {o : HO} (x : HR L F φ h H) (e : H p = none) : HR L F φ h (upd H p o) := by
  refine ⟨x.len, x.nod, fun n a u q w => ?_, x.own, fun a m => ?_, x.bn⟩
  · have r := x.at_ n a u q w
    obtain ⟨z, hz, _⟩ := r.has
    exact r.mono (.fresh e) (upd_ne (ne_of_none hz e))
  · obtain ⟨u, q⟩ := x.trk a m
    exact ⟨u, by rw [upd_ne (ne_of_none q e)]; exact q⟩
/-- a new thing of ours -/
theorem XT.grow {p : Addr} {o : HO} (e : H p = none) : XT φ H (φ ++ [p]) (upd H p o) := by
  have x : XT φ H φ (upd H p o) := XT.fresh e
  exact ⟨⟨[p], rfl, fun q hq => by
    rw [List.mem_singleton.mp hq]
    exact e⟩, x.keep, x.tup, x.frz, x.trk⟩
theorem HR.grow {p : Addr} {o : HO} {w : O} (x : HR L F φ h H) (e : H p = none) (r : RO L F (φ ++ [p]) (upd H p o) p w) : HR L F (φ ++ [p]) (h ++ [w]) (upd H p o) := by
  have g : XT φ H (φ ++ [p]) (upd H p o) := .grow e
  refine ⟨by simp [x.len], ?_, fun n a u q z => ?_, fun a m => ?_, fun a m => ?_, x.bn⟩
  · rw [List.nodup_append]
    refine ⟨x.nod, by simp, fun a ha b hb => ?_⟩
    rw [List.mem_singleton.mp hb]
    rintro rfl
    exact x.nin e ha
  · by_cases hn : n < φ.length
    · rw [List.getElem?_append_left hn] at q
      rw [List.getElem?_append_left (by rw [← x.len]; exact hn)] at z
      have r := x.at_ n a u q z
      obtain ⟨y, hy, _⟩ := r.has
      exact r.mono g (upd_ne (ne_of_none hy e))
    · have l := (List.getElem?_eq_some_iff.mp q).1
      rw [List.length_append, List.length_singleton] at l
      have en : n = φ.length := by omega
      subst en
      rw [List.getElem?_append_right (Nat.le_refl _), Nat.sub_self] at q
      have q' : p = a := Option.some.inj q
      subst q'
      rw [x.len, List.getElem?_append_right (Nat.le_refl _), Nat.sub_self] at z
      have z' : w = u := Option.some.inj z
      subst z'
      exact r
  · rcases List.mem_append.mp m with m | m
    · exact x.own a m
    · rw [List.mem_singleton.mp m]
      exact x.nF e
  · obtain ⟨u, q⟩ := x.trk a m
    exact ⟨u, by rw [upd_ne (ne_of_none q e)]; exact q⟩
/-- a thing of ours is changed -/
theorem XT.write {o : HO} (x : HR L F φ h H) (m : a ∈ φ) : XT φ H φ (upd H a o) := by
  obtain ⟨u, q, _, nt, nf⟩ := x.trkφ m
  refine ⟨⟨[], by simp, by simp⟩, fun b w e n => ?_, fun b xs e => ?_, fun b w y e => ?_, fun b w e => ?_⟩
  · rw [upd_ne (fun z => n (by rw [z]; exact m))]
    exact e
  · rw [upd_ne (fun z => by rw [z, q] at e; exact nt xs (Option.some.inj e))]
    exact e
  · rw [upd_ne (fun z => by rw [z, q] at e; exact nf w y (Option.some.inj e))]
    exact e
  · by_cases z : b = a
    · rw [z]
      exact ⟨o, upd_same⟩
    · exact ⟨w, by rw [upd_ne z]; exact e⟩
theorem HR.write {n : Nat} {o : HO} {w : O} (x : HR L F φ h H) (e : φ[n]? = some a) (r : RO L F φ (upd H a o) a w) : HR L F φ (h.set n w) (upd H a o) := by
  have m : a ∈ φ := List.mem_of_getElem? e
  have g : XT φ H φ (upd H a o) := .write x m
  refine ⟨by simp [x.len], x.nod, fun k b u q z => ?_, x.own, fun b hb => ?_, x.bn⟩
  · by_cases hk : k = n
    · subst hk
      rw [e] at q
      have q' : a = b := Option.some.inj q
      subst q'
      have l : k < h.length := by
        rw [← x.len]
        exact (List.getElem?_eq_some_iff.mp e).1
      rw [List.getElem?_set_self l] at z
      have z' : w = u := Option.some.inj z
      subst z'
      exact r
    · rw [List.getElem?_set_ne (Ne.symm hk)] at z
      exact (x.at_ k b u q z).mono g (upd_ne (x.ne q e hk))
  · obtain ⟨u, q⟩ := x.trk b hb
    exact g.trk b u q
/-! ### a list of ours that no own data tells (a comprehension's) -/
theorem ne_of_no {P : Addr → Prop} {p : Addr} (f : ¬ P a) (np : P p) : a ≠ p := fun z => f (by rw [z]; exact np)
theorem ne_of_nb {P : Addr → Prop} {p : Addr} (f : P a) (np : ¬ P p) : a ≠ p := fun z => np (by rw [← z]; exact f)
theorem ne_poke {p : Addr} {o : HO} {xs : List V} (hp : H p = some (.lst xs)) (e : H a = some o) (n : o ≠ .lst xs) : a ≠ p := fun z => by
  rw [z, hp] at e
  exact n (Option.some.inj e).symm
mutual
theorem Rel.poke {p : Addr} {xs ys : List V} (hp : H p = some (.lst xs)) (np : F.no p) (nb : ¬ F.bo p) : ∀ {d : D} {v : V}, Rel L F φ H d v → Rel L F φ (upd H p (.lst ys)) d v
  | _, _, .non => .non
  | _, _, .bl b => .bl b
  | _, _, .int i => .int i
  | _, _, .str s => .str s
  | _, _, .cls c => .cls c
  | _, _, .wd c => .wd c
  | _, _, .tup e r => .tup (by
      rcases e with (e | ⟨o, e⟩) | e
      · exact .inl (.inl (by rw [upd_ne (ne_poke hp e (fun z => nomatch z))]; exact e))
      · exact .inl (.inr ⟨o, by rw [upd_ne (ne_poke hp e (fun z => nomatch z))]; exact e⟩)
      · exact .inr e) (Rels.poke hp np nb r)
  | _, _, .borK e1 e2 e3 e4 e5 e6 r => .borK e1 e2 e3 e4 e5 e6 (Rels.poke hp np nb r)
  | _, _, .wtup e1 e2 e3 e4 e5 e6 r => .wtup e1 e2 e3 e4 e5 e6 (Rels.poke hp np nb r)
  | _, _, .lst e n f r => .lst (by rw [upd_ne (ne_of_no f np)]; exact e) n f (Rels.poke hp np nb r)
  | _, _, .bor e n b r => .bor (by
      have ne := ne_of_nb b nb
      rcases e with e | ⟨o, e⟩
      · exact .inl (by rw [upd_ne ne]; exact e)
      · exact .inr ⟨o, by rw [upd_ne ne]; exact e⟩) n b (Rels.poke hp np nb r)
  | _, _, .dct e n f k r => .dct (by rw [upd_ne (ne_of_no f np)]; exact e) n f k (Rels.poke hp np nb r)
  | _, _, .obj e n f k r => .obj (by rw [upd_ne (ne_of_no f np)]; exact e) n f k (Rels.poke hp np nb r)
  | _, _, .ref e => .ref e
theorem Rels.poke {p : Addr} {xs ys : List V} (hp : H p = some (.lst xs)) (np : F.no p) (nb : ¬ F.bo p) : ∀ {ds : List D} {vs : List V}, Rels L F φ H ds vs → Rels L F φ (upd H p (.lst ys)) ds vs
  | _, _, .nil => .nil
  | _, _, .cons r t => .cons (Rel.poke hp np nb r) (Rels.poke hp np nb t)
end
theorem RO.poke {p : Addr} {xs ys : List V} {o : O} (hp : H p = some (.lst xs)) (np : F.no p) (nb : ¬ F.bo p) (ne : a ≠ p) (r : RO L F φ H a o) : RO L F φ (upd H p (.lst ys)) a o := by
  cases r with
  | lst q r => exact .lst (by rw [upd_ne ne]; exact q) (r.poke hp np nb)
  | dct q k r => exact .dct (by rw [upd_ne ne]; exact q) k (r.poke hp np nb)
  | ins q k r => exact .ins (by rw [upd_ne ne]; exact q) k (r.poke hp np nb)
theorem HR.poke {p : Addr} {xs ys : List V} (hp : H p = some (.lst xs)) (np : F.no p) (nb : ¬ F.bo p) (x : HR L F φ h H) : HR L F φ h (upd H p (.lst ys)) := by
  refine ⟨x.len, x.nod, fun n a o q w => (x.at_ n a o q w).poke hp np nb (ne_of_no (x.own a (List.mem_of_getElem? q)) np), x.own, fun a m => ?_, x.bn⟩
  obtain ⟨u, q⟩ := x.trk a m
  by_cases z : a = p
  · rw [z]
    exact ⟨_, upd_same⟩
  · exact ⟨u, by rw [upd_ne z]; exact q⟩
/-! ### other frames -/
mutual
theorem Rel.frame {F' : Fm} (hn : ∀ a o, H a = some o → F'.no a → F.no a) (hb : ∀ a, F.bo a → F'.bo a) : ∀ {d : D} {v : V}, Rel L F φ H d v → Rel L F' φ H d v
  | _, _, .non => .non
  | _, _, .bl b => .bl b
  | _, _, .int i => .int i
  | _, _, .str s => .str s
  | _, _, .cls c => .cls c
  | _, _, .wd c => .wd c
  | _, _, .tup e r => .tup e (Rels.frame hn hb r)
  | _, _, .borK e1 e2 e3 e4 e5 e6 r => .borK e1 e2 e3 e4 e5 e6 (Rels.frame hn hb r)
  | _, _, .wtup e1 e2 e3 e4 e5 e6 r => .wtup e1 e2 e3 e4 e5 e6 (Rels.frame hn hb r)
  | _, _, .lst e n f r => .lst e n (fun z => f (hn _ _ e z)) (Rels.frame hn hb r)
  | _, _, .bor e n b r => .bor e n (hb _ b) (Rels.frame hn hb r)
  | _, _, .dct e n f k r => .dct e n (fun z => f (hn _ _ e z)) k (Rels.frame hn hb r)
  | _, _, .obj e n f k r => .obj e n (fun z => f (hn _ _ e z)) k (Rels.frame hn hb r)
  | _, _, .ref e => .ref e
theorem Rels.frame {F' : Fm} (hn : ∀ a o, H a = some o → F'.no a → F.no a) (hb : ∀ a, F.bo a → F'.bo a) : ∀ {ds : List D} {vs : List V}, Rels L F φ H ds vs → Rels L F' φ H ds vs
  | _, _, .nil => .nil
  | _, _, .cons r t => .cons (Rel.frame hn hb r) (Rels.frame hn hb t)
end
theorem RO.frame {F' : Fm} (hn : ∀ a o, H a = some o → F'.no a → F.no a) (hb : ∀ a, F.bo a → F'.bo a) {o : O} (r : RO L F φ H a o) : RO L F' φ H a o := by
  cases r with
  | lst q r => exact .lst q (r.frame hn hb)
  | dct q k r => exact .dct q k (r.frame hn hb)
  | ins q k r => exact .ins q k (r.frame hn hb)
mutual
/-- flat data stay the same in another frame, where what is frozen stays so -/
theorem Rel.to {F' : Fm} {ψ : List Addr} (hn : ∀ a o, H a = some o → a ∉ φ → ¬ F.no a → a ∉ ψ ∧ ¬ F'.no a) : ∀ {d : D} {v : V}, Rel L F φ H d v → D.flat d = true → Rel L F' ψ H d v
  | _, _, .non, _ => .non
  | _, _, .bl b, _ => .bl b
  | _, _, .int i, _ => .int i
  | _, _, .str s, _ => .str s
  | _, _, .cls c, _ => .cls c
  | _, _, .wd c, _ => .wd c
  | _, _, .tup e r, c => .tup e (Rels.to hn r (by simpa only [D.flat] using c))
  | _, _, .borK e1 e2 e3 e4 e5 e6 r, c => by simp [D.flat] at c
  | _, _, .wtup e1 e2 e3 e4 e5 e6 r, c => .wtup e1 e2 e3 e4 e5 e6 (Rels.to hn r (by simpa only [D.flat] using c))
  | _, _, .lst e n f r, c => .lst e (hn _ _ e n f).1 (hn _ _ e n f).2 (Rels.to hn r (by simpa only [D.flat] using c))
  | _, _, .bor e n b r, c => by simp [D.flat] at c
  | _, _, .dct e n f k r, c => .dct e (hn _ _ e n f).1 (hn _ _ e n f).2 k (Rels.to hn r (by simpa only [D.flat] using c))
  | _, _, .obj e n f k r, c => .obj e (hn _ _ e n f).1 (hn _ _ e n f).2 k (Rels.to hn r (by simpa only [D.flat] using c))
  | _, _, .ref e, c => by simp [D.flat] at c
theorem Rels.to {F' : Fm} {ψ : List Addr} (hn : ∀ a o, H a = some o → a ∉ φ → ¬ F.no a → a ∉ ψ ∧ ¬ F'.no a) : ∀ {ds : List D} {vs : List V}, Rels L F φ H ds vs → D.flats ds = true → Rels L F' ψ H ds vs
  | _, _, .nil, _ => .nil
  | _, _, .cons r t, c => by
    have c := Bool.and_eq_true_iff.mp (by simpa only [D.flats] using c)
    exact .cons (Rel.to hn r c.1) (Rels.to hn t c.2)
end
end
end MV

set_option maxRecDepth 100000
set_option maxHeartbeats 1000000
/-! V3: readings of runs; operators by values. -/
namespace MV
open PySem PySem.Spec PyProof.Rows L2
/-- an exception as it leaves -/
def XRel (L : Lk) (F : Fm) (φ : List Addr) (H : Hp) (c : Nat) (ks : List Nat) (ds : List D) (cls : Value) (dd : Option Addr) : Prop :=
  ∃ (d : Addr) (fs : List (Str × V)), cls = .ref (L.xc c) ∧ dd = some d ∧ H d = some (.xd fs) ∧ fs.map (·.1) = ks.map L.nm ∧ Rels L F φ H ds (fs.map (·.2))
/-- what is wanted of an exception -/
def GX (L : Lk) (F : Fm) (φ : List Addr) (H : Hp) (c : Nat) (ks : List Nat) (ds : List D) (h : HH) (E : XK) : Prop :=
  ∀ φ' H' cls dd, XT φ H φ' H' → HR L F φ' h H' → XRel L F φ' H' c ks ds cls dd → E cls dd H'
/-- a run's result is good for what is wanted -/
def G {α β : Type} (L : Lk) (F : Fm) (φ : List Addr) (H : Hp) (Rl : List Addr → Hp → α → β → Prop) (r : R α) (Q : β → Hp → Prop) (E : XK) : Prop := match r with
  | .ok a h' => ∀ φ' H' b, XT φ H φ' H' → HR L F φ' h' H' → Rl φ' H' a b → Q b H'
  | .exc c ks ds h' => GX L F φ H c ks ds h' E
  | .no => False
abbrev GE (L : Lk) (F : Fm) (φ : List Addr) (H : Hp) (r : R D) (Q : VK) (E : XK) : Prop := G L F φ H (fun φ H d v => Rel L F φ H d v) r Q E
abbrev GEs (L : Lk) (F : Fm) (φ : List Addr) (H : Hp) (r : R (List D)) (Q : List V → Hp → Prop) (E : XK) : Prop := G L F φ H (fun φ H d v => Rels L F φ H d v) r Q E
abbrev GB (L : Lk) (F : Fm) (φ : List Addr) (H : Hp) (r : R Bool) (Q : Bool → Hp → Prop) (E : XK) : Prop := G L F φ H (fun _ _ a b => a = b) r Q E
section
variable {α β γ δ : Type} {L : Lk} {F : Fm} {φ φ' φ1 : List Addr} {H H' H1 : Hp} {h h' h1 : HH} {Rl : List Addr → Hp → α → β → Prop} {Rm : List Addr → Hp → γ → δ → Prop} {Q : β → Hp → Prop} {Q2 : δ → Hp → Prop} {E E2 : XK} {r : R α}
theorem GX.mono {c : Nat} {ks : List Nat} {ds : List D} (x : XT φ H φ1 H1) (g : GX L F φ H c ks ds h E) : GX L F φ1 H1 c ks ds h E := fun φ' H' cls dd y hr xr => g φ' H' cls dd (x.trans y) hr xr
theorem G.mono (x : XT φ H φ1 H1) (g : G L F φ H Rl r Q E) : G L F φ1 H1 Rl r Q E := by
  cases r with
  | ok a h' => exact fun φ' H' b y hr rl => g φ' H' b (x.trans y) hr rl
  | exc c ks ds h' => exact GX.mono x g
  | no => exact g
theorem G.imp {Q' : β → Hp → Prop} (g : G L F φ H Rl r Q E) (q : ∀ b H', Q b H' → Q' b H') : G L F φ H Rl r Q' E := by
  cases r with
  | ok a h' => exact fun φ' H' b y hr rl => q _ _ (g φ' H' b y hr rl)
  | exc c ks ds h' => exact g
  | no => exact g
/-- one run and what follows it -/
theorem G.bind {f : α → HH → R γ} (g : G L F φ H Rm (r.bind f) Q2 E)
    (k : ∀ a h1 φ1 H1 b, r = .ok a h1 → XT φ H φ1 H1 → HR L F φ1 h1 H1 → Rl φ1 H1 a b → G L F φ1 H1 Rm (f a h1) Q2 E → Q b H1) : G L F φ H Rl r Q E := by
  cases r with
  | ok a h1 => exact fun φ1 H1 b x hr rl => k a h1 φ1 H1 b rfl x hr rl (G.mono x g)
  | exc c ks ds h' => exact g
  | no => exact g
theorem G.ok {a : α} (g : G L F φ H Rl (.ok a h) Q E) {b : β} (x : HR L F φ h H) (rl : Rl φ H a b) : Q b H := g φ H b (.refl φ H) x rl
theorem G.ok' {a : α} (g : G L F φ H Rl (.ok a h) Q E) {b : β} (t : XT φ H φ' H') (x : HR L F φ' h H') (rl : Rl φ' H' a b) : Q b H' := g φ' H' b t x rl
theorem G.no_ (g : G L F φ H Rl (.no : R α) Q E) : False := g
end

/-! ### the frame's slots -/
structure ER (L : Lk) (F : Fm) (φ : List Addr) (H : Hp) (ρ : Env) (σ : L2.St) : Prop where
  len : ρ.length = σ.length
  at_ : ∀ (i : Nat) (d : D), ρ[i]? = some (some d) → ∃ v, σ[i]? = some (some v) ∧ Rel L F φ H d v
section
variable {L : Lk} {F : Fm} {φ φ' : List Addr} {H H' : Hp} {h : HH} {ρ : Env} {σ : L2.St}
theorem ER.mono (x : XT φ H φ' H') (e : ER L F φ H ρ σ) : ER L F φ' H' ρ σ := ⟨e.len, fun i d q => by
  obtain ⟨v, a, b⟩ := e.at_ i d q
  exact ⟨v, a, b.mono x⟩⟩
theorem ER.set {i : Nat} {d : D} {v : V} (e : ER L F φ H ρ σ) (r : Rel L F φ H d v) : ER L F φ H (ρ.set i (some d)) (σ.set i (some v)) := by
  refine ⟨by simp [e.len], fun j c q => ?_⟩
  by_cases hj : j = i
  · subst hj
    have l : j < ρ.length := by
      have := (List.getElem?_eq_some_iff.mp q).1
      simpa using this
    rw [List.getElem?_set_self l] at q
    cases q
    exact ⟨v, List.getElem?_set_self (by rw [← e.len]; exact l), r⟩
  · rw [List.getElem?_set_ne (Ne.symm hj)] at q
    obtain ⟨w, a, b⟩ := e.at_ j c q
    exact ⟨w, by rw [List.getElem?_set_ne (Ne.symm hj)]; exact a, b⟩
theorem ER.setN {i : Nat} (e : ER L F φ H ρ σ) : ER L F φ H (ρ.set i none) (σ.set i none) := by
  refine ⟨by simp [e.len], fun j c q => ?_⟩
  by_cases hj : j = i
  · subst hj
    have l : j < ρ.length := by
      have := (List.getElem?_eq_some_iff.mp q).1
      simpa using this
    rw [List.getElem?_set_self l] at q
    cases q
  · rw [List.getElem?_set_ne (Ne.symm hj)] at q
    obtain ⟨w, a, b⟩ := e.at_ j c q
    exact ⟨w, by rw [List.getElem?_set_ne (Ne.symm hj)]; exact a, b⟩
theorem ER.wipe (e : ER L F φ H ρ σ) : ∀ vs : List Nat, ER L F φ H (wipeE ρ vs) (L2.wipe σ vs)
  | [] => e
  | v :: vs => (ER.wipe e vs).setN
end

/-! ### readings -/
/-- an expression's reading: its run is good -/
def rdE (L : Lk) (W : WX) (f : Env → HH → R D) : TE := fun σ H Q => ∃ F φ ρ h, HR L F φ h H ∧ ER L F φ H ρ σ ∧ GE L F φ H (f ρ h) Q fun c d H' => W c d σ H'
def rdT (L : Lk) (W : WX) (f : Env → HH → R Bool) : TT := fun σ H Q => ∃ F φ ρ h, HR L F φ h H ∧ ER L F φ H ρ σ ∧ GB L F φ H (f ρ h) Q fun c d H' => W c d σ H'
def rdA (L : Lk) (W : WX) (f : Env → HH → R (List D)) : TA := fun σ H Q => ∃ F φ ρ h, HR L F φ h H ∧ ER L F φ H ρ σ ∧ GEs L F φ H (f ρ h) Q fun c d H' => W c d σ H'
end MV
namespace L2
open PySem PySem.Spec PyProof.Rows
theorem PE.imp {X : Cx} {e : Expr} {t t' : TE} (p : PE X e t) (q : ∀ σ H Q, t' σ H Q → t σ H Q) : PE X e t' := ⟨fun pins s σ H Q I h => p.run pins s σ H Q I (q σ H Q h)⟩
theorem PT.imp {X : Cx} {e : Expr} {t t' : TT} (p : PT X e t) (q : ∀ σ H Q, t' σ H Q → t σ H Q) : PT X e t' := ⟨fun pins s σ H Q I h => p.run pins s σ H Q I (q σ H Q h)⟩
theorem PA.imp {X : Cx} {e : List Expr} {t t' : TA} (p : PA X e t) (q : ∀ σ H Q, t' σ H Q → t σ H Q) : PA X e t' := ⟨fun pos pins s σ H Q I h => p.run pos pins s σ H Q I (q σ H Q h)⟩
theorem PS.imp {X : Cx} {e : Stmt} {t t' : TS} (p : PS X e t) (q : ∀ D σ H, t' D σ H → t D σ H) : PS X e t' := ⟨fun pins s σ H D I h => p.run pins s σ H D I (q D σ H h)⟩
theorem PSs.imp {X : Cx} {e : List Stmt} {t t' : TS} (p : PSs X e t) (q : ∀ D σ H, t' D σ H → t D σ H) : PSs X e t' := ⟨fun pins s σ H D I h => p.run pins s σ H D I (q D σ H h)⟩
theorem PE.or {X : Cx} {e : Expr} {t t' : TE} (p : PE X e t) (q : PE X e t') : PE X e (fun σ H Q => t σ H Q ∨ t' σ H Q) := ⟨fun pins s σ H Q I h => h.elim (p.run pins s σ H Q I) (q.run pins s σ H Q I)⟩

end L2
namespace MV
open PySem PySem.Spec PyProof.Rows L2
/-! ### what the heap says of own data -/
section
variable {L : Lk} {F : Fm} {φ φ' : List Addr} {H H' : Hp} {h : HH} {d x y : D} {v : V} {l : List D}
theorem listOf_ok (x : HR L F φ h H) (r : Rel L F φ H d v) (e : listOf d h = some l) : ∃ a vs, v = .ref a ∧ SqL L.K H a vs ∧ Rels L F φ H l vs := by
  cases r with
  | lst q _ _ r =>
    cases e
    exact ⟨_, _, rfl, .inl (.inl q), r⟩
  | bor q _ _ r =>
    cases e
    exact ⟨_, _, rfl, .inl q, r⟩
  | borK e1 e2 e3 e4 e5 e6 r =>
    cases e
    exact ⟨_, _, rfl, .inr ⟨_, _, _, e1, e2, e3, e4, e5, e6⟩, r⟩
  | @ref n a q =>
    obtain ⟨o, e1, ro⟩ := x.ro q
    have e : (match h[n]? with
      | some (.lst l) => some l
      | _ => none) = some l := e
    rw [e1] at e
    cases ro with
    | lst q2 r =>
      cases e
      exact ⟨_, _, rfl, .inl (.inl q2), r⟩
    | _ => cases e
  | _ => cases e
theorem seqOf_ok (x : HR L F φ h H) (r : Rel L F φ H d v) (e : seqOf d h = some l) : ∃ a vs, v = .ref a ∧ (SqL L.K H a vs ∨ SqT L.K H a vs) ∧ Rels L F φ H l vs := by
  cases r with
  | tup q r =>
    cases e
    exact ⟨_, _, rfl, .inr q, r⟩
  | wtup e1 e2 e3 e4 e5 e6 r =>
    cases e
    exact ⟨_, _, rfl, .inr (.inr ⟨_, _, _, e1, e2, e4, e5, e6⟩), r⟩
  | lst q n f r =>
    obtain ⟨a, vs, e1, e2, e3⟩ := listOf_ok (d := .lst _) x (.lst q n f r) e
    exact ⟨a, vs, e1, .inl e2, e3⟩
  | borK e1 e2 e3 e4 e5 e6 r =>
    obtain ⟨a, vs, f1, f2, f3⟩ := listOf_ok (d := .bor _) x (.borK e1 e2 e3 e4 e5 e6 r) e
    exact ⟨a, vs, f1, .inl f2, f3⟩
  | bor q n b r =>
    obtain ⟨a, vs, e1, e2, e3⟩ := listOf_ok (d := .bor _) x (.bor q n b r) e
    exact ⟨a, vs, e1, .inl e2, e3⟩
  | ref q =>
    obtain ⟨a, vs, e1, e2, e3⟩ := listOf_ok (d := .ref _) x (.ref q) e
    exact ⟨a, vs, e1, .inl e2, e3⟩
  | _ => cases e
theorem ble_line {n : Nat} (e : Nat.ble n line = true) : n ≤ sizeLine := by
  have q := Nat.le_of_ble_eq_true e
  rw [sizeLine_eq]
  exact q
theorem blt_line {n : Nat} (e : Nat.blt n line = true) : n < sizeLine := by
  have q := Nat.le_of_ble_eq_true e
  rw [sizeLine_eq]
  exact q
theorem sqK {K K' : PySem.W.Frag} {a : Addr} {vs : List V} (e : K = K') (q : SqL K' H a vs) : SqL K H a vs := by
  rw [e]
  exact q
/-- a new list -/
theorem mkL_ok {m : Bool} {vs : List V} {Q : VK} {E : XK} (x : HR L F φ h H) (r : Rels L F φ H l vs) (g : GE L F φ H (mkL m l h) Q E) : vs.length ≤ sizeLine ∧ ∀ p, H p = none → Q (.ref p) (upd H p (.lst vs)) := by
  unfold mkL at g
  cases hb : Nat.ble l.length line with
  | false =>
    rw [hb] at g
    exact (G.no_ g).elim
  | true =>
    rw [hb] at g
    refine ⟨by rw [← r.length]; exact ble_line hb, fun p hp => ?_⟩
    cases m with
    | true =>
      have t : XT φ H (φ ++ [p]) (upd H p (.lst vs)) := .grow hp
      refine G.ok' g t (x.grow hp (.lst upd_same (r.mono t))) (.ref ?_)
      rw [← x.len, List.getElem?_append_right (Nat.le_refl _), Nat.sub_self]
      rfl
    | false =>
      have t : XT φ H φ (upd H p (.lst vs)) := .fresh hp
      exact G.ok' g t (x.fresh hp) (.lst upd_same (x.nin hp) (x.nF hp) (r.mono t))
theorem mkT_ok {vs : List V} {Q : VK} {E : XK} (x : HR L F φ h H) (r : Rels L F φ H l vs) (g : GE L F φ H (mkT l h) Q E) : vs.length ≤ sizeLine ∧ ∀ p, H p = none → Q (.ref p) (upd H p (.tup vs)) := by
  unfold mkT at g
  cases hb : Nat.ble l.length line with
  | false =>
    rw [hb] at g
    exact (G.no_ g).elim
  | true =>
    rw [hb] at g
    refine ⟨by rw [← r.length]; exact ble_line hb, fun p hp => ?_⟩
    have t : XT φ H φ (upd H p (.tup vs)) := .fresh hp
    exact G.ok' g t (x.fresh hp) (.tup (.inl (.inl upd_same)) (r.mono t))
end
end MV

set_option maxRecDepth 100000
set_option maxHeartbeats 1000000
/-! V4: operators and built-ins by values. -/
namespace MV
open PySem PySem.Spec PyProof.Rows L2
mutual
def D.pd : D → PyData
  | .bl b => .bool b
  | .int i => .int i
  | .str s => .str s
  | .tup l => .tuple (D.pds l)
  | .wtup l => .tuple (D.pds l)
  | .lst l => .list (D.pds l)
  | .bor l => .list (D.pds l)
  | _ => .none
def D.pds : List D → List PyData
  | [] => []
  | d :: r => D.pd d :: D.pds r
end
theorem pds_length : ∀ l : List D, (D.pds l).length = l.length
  | [] => rfl
  | d :: r => congrArg Nat.succ (pds_length r)
theorem pds_get : ∀ (l : List D) (i : Nat), (D.pds l)[i]? = l[i]?.map D.pd
  | [], i => by simp [D.pds]
  | d :: r, 0 => by simp [D.pds]
  | d :: r, i + 1 => by simpa [D.pds] using pds_get r i
mutual
theorem cmp_lay : ∀ (d : D) (n : Nat), D.cmp n d = true → d.pd.canLay0 = true ∧ d.pd.depth ≤ n
  | .non, n, _ => by simp [D.pd, PyData.canLay0, PyData.depth]
  | .bl b, n, _ => by simp [D.pd, PyData.canLay0, PyData.depth]
  | .int i, n, _ => by simp [D.pd, PyData.canLay0, PyData.depth]
  | .str s, n, h => by
    have h : PyData.strOk s = true := by simpa [D.cmp] using h
    simp [D.pd, PyData.canLay0, PyData.depth, h]
  | .tup l, 0, h => by simp [D.cmp] at h
  | .tup l, n + 1, h => by
    have h : D.cmps n l = true := by simpa [D.cmp] using h
    have := cmps_lay l n h
    simp only [D.pd, PyData.canLay0, PyData.depth]
    exact ⟨this.1, Nat.succ_le_succ this.2⟩
  | .wtup l, 0, h => by simp [D.cmp] at h
  | .wtup l, n + 1, h => by
    have h : D.cmps n l = true := by simpa [D.cmp] using h
    have := cmps_lay l n h
    simp only [D.pd, PyData.canLay0, PyData.depth]
    exact ⟨this.1, Nat.succ_le_succ this.2⟩
  | .lst l, 0, h => by simp [D.cmp] at h
  | .lst l, n + 1, h => by
    have h : D.cmps n l = true := by simpa [D.cmp] using h
    have := cmps_lay l n h
    simp only [D.pd, PyData.canLay0, PyData.depth]
    exact ⟨this.1, Nat.succ_le_succ this.2⟩
  | .bor l, 0, h => by simp [D.cmp] at h
  | .bor l, n + 1, h => by
    have h : D.cmps n l = true := by simpa [D.cmp] using h
    have := cmps_lay l n h
    simp only [D.pd, PyData.canLay0, PyData.depth]
    exact ⟨this.1, Nat.succ_le_succ this.2⟩
  | .cls _, n, h => by simp [D.cmp] at h
  | .wd _, n, h => by simp [D.cmp] at h
  | .dct _ _, n, h => by simp [D.cmp] at h
  | .obj _ _ _, n, h => by simp [D.cmp] at h
  | .ref _, n, h => by simp [D.cmp] at h
theorem cmps_lay : ∀ (l : List D) (n : Nat), D.cmps n l = true → PyData.canLayAll0 (D.pds l) = true ∧ PyData.depthAll (D.pds l) ≤ n
  | [], n, _ => by simp [D.pds, PyData.canLayAll0, PyData.depthAll]
  | d :: r, n, h => by
    have h : D.cmp n d = true ∧ D.cmps n r = true := by simpa [D.cmps] using h
    have a := cmp_lay d n h.1
    have b := cmps_lay r n h.2
    simp only [D.pds, PyData.canLayAll0, PyData.depthAll, a.1, b.1, Bool.and_self, true_and]
    omega
end
theorem cmp_shaped {d : D} {n : Nat} (h : D.cmp n d = true) (hn : n ≤ 64) : SeqAt.shaped d.pd = true := by
  have q := cmp_lay d n h
  unfold SeqAt.shaped
  rw [q.1, decide_eq_true (Nat.le_trans q.2 hn)]
  rfl
mutual
theorem eqv_pd : ∀ (x y : D) (n m : Nat), D.cmp n x = true → D.cmp m y = true → PyData.eqv x.pd y.pd = D.eqv x y
  | .non, y, n, m, _, h => by cases y <;> simp_all [D.pd, D.eqv, D.cmp, PyData.eqv]
  | .bl b, y, n, m, _, h => by cases y <;> simp_all [D.pd, D.eqv, D.cmp, PyData.eqv]
  | .int i, y, n, m, _, h => by cases y <;> simp_all [D.pd, D.eqv, D.cmp, PyData.eqv]
  | .str s, y, n, m, _, h => by cases y <;> simp_all [D.pd, D.eqv, D.cmp, PyData.eqv]
  | .tup l, y, n, m, hx, h => by
    cases n with
    | zero => simp [D.cmp] at hx
    | succ n =>
      have hx : D.cmps n l = true := by simpa [D.cmp] using hx
      cases y with
      | tup k =>
        cases m with
        | zero => simp [D.cmp] at h
        | succ m =>
          have h : D.cmps m k = true := by simpa [D.cmp] using h
          simp only [D.pd, D.eqv, PyData.eqv]
          exact eqvs_pd l k n m hx h
      | wtup k =>
        cases m with
        | zero => simp [D.cmp] at h
        | succ m =>
          have h : D.cmps m k = true := by simpa [D.cmp] using h
          simp only [D.pd, D.eqv, PyData.eqv]
          exact eqvs_pd l k n m hx h
      | _ => simp_all [D.pd, D.eqv, D.cmp, PyData.eqv]
  | .wtup l, y, n, m, hx, h => by
    cases n with
    | zero => simp [D.cmp] at hx
    | succ n =>
      have hx : D.cmps n l = true := by simpa [D.cmp] using hx
      cases y with
      | tup k =>
        cases m with
        | zero => simp [D.cmp] at h
        | succ m =>
          have h : D.cmps m k = true := by simpa [D.cmp] using h
          simp only [D.pd, D.eqv, PyData.eqv]
          exact eqvs_pd l k n m hx h
      | wtup k =>
        cases m with
        | zero => simp [D.cmp] at h
        | succ m =>
          have h : D.cmps m k = true := by simpa [D.cmp] using h
          simp only [D.pd, D.eqv, PyData.eqv]
          exact eqvs_pd l k n m hx h
      | _ => simp_all [D.pd, D.eqv, D.cmp, PyData.eqv]
  | .lst l, y, n, m, hx, h => by
    cases n with
    | zero => simp [D.cmp] at hx
    | succ n =>
      have hx : D.cmps n l = true := by simpa [D.cmp] using hx
      cases y with
      | lst k =>
        cases m with
        | zero => simp [D.cmp] at h
        | succ m =>
          have h : D.cmps m k = true := by simpa [D.cmp] using h
          simp only [D.pd, D.eqv, PyData.eqv]
          exact eqvs_pd l k n m hx h
      | bor k =>
        cases m with
        | zero => simp [D.cmp] at h
        | succ m =>
          have h : D.cmps m k = true := by simpa [D.cmp] using h
          simp only [D.pd, D.eqv, PyData.eqv]
          exact eqvs_pd l k n m hx h
      | _ => simp_all [D.pd, D.eqv, D.cmp, PyData.eqv]
  | .bor l, y, n, m, hx, h => by
    cases n with
    | zero => simp [D.cmp] at hx
    | succ n =>
      have hx : D.cmps n l = true := by simpa [D.cmp] using hx
      cases y with
      | lst k =>
        cases m with
        | zero => simp [D.cmp] at h
        | succ m =>
          have h : D.cmps m k = true := by simpa [D.cmp] using h
          simp only [D.pd, D.eqv, PyData.eqv]
          exact eqvs_pd l k n m hx h
      | bor k =>
        cases m with
        | zero => simp [D.cmp] at h
        | succ m =>
          have h : D.cmps m k = true := by simpa [D.cmp] using h
          simp only [D.pd, D.eqv, PyData.eqv]
          exact eqvs_pd l k n m hx h
      | _ => simp_all [D.pd, D.eqv, D.cmp, PyData.eqv]
  | .cls _, y, n, m, hx, h => by simp [D.cmp] at hx
  | .wd _, y, n, m, hx, h => by simp [D.cmp] at hx
  | .dct _ _, y, n, m, hx, h => by simp [D.cmp] at hx
  | .obj _ _ _, y, n, m, hx, h => by simp [D.cmp] at hx
  | .ref _, y, n, m, hx, h => by simp [D.cmp] at hx
theorem eqvs_pd : ∀ (x y : List D) (n m : Nat), D.cmps n x = true → D.cmps m y = true → PyData.eqvAll (D.pds x) (D.pds y) = D.eqvs x y
  | [], [], n, m, _, _ => by simp [D.pds, D.eqvs, PyData.eqvAll]
  | [], _ :: _, n, m, _, _ => by simp [D.pds, D.eqvs, PyData.eqvAll]
  | _ :: _, [], n, m, _, _ => by simp [D.pds, D.eqvs, PyData.eqvAll]
  | x :: xs, y :: ys, n, m, hx, hy => by
    have hx : D.cmp n x = true ∧ D.cmps n xs = true := by simpa [D.cmps] using hx
    have hy : D.cmp m y = true ∧ D.cmps m ys = true := by simpa [D.cmps] using hy
    simp only [D.pds, D.eqvs, PyData.eqvAll]
    rw [eqv_pd x y n m hx.1 hy.1, eqvs_pd xs ys n m hx.2 hy.2]
end
section
variable {L : Lk} {F : Fm} {φ : List Addr} {H : Hp} {h : HH}
mutual
theorem Rel.dp : ∀ {d : D} {v : V} {n : Nat}, Rel L F φ H d v → D.cmp n d = true → Dp L.K H v d.pd
  | _, _, _, .non, _ => .non
  | _, _, _, .bl b, _ => .bl b
  | _, _, _, .int i, _ => .int i
  | _, _, _, .str s, _ => .str s
  | _, _, n, .tup e r, c => by
    cases n with
    | zero => simp [D.cmp] at c
    | succ n => exact .tup e (Rels.dps r (by simpa [D.cmp] using c))
  | _, _, n, .wtup e1 e2 e3 e4 e5 e6 r, c => by
    cases n with
    | zero => simp [D.cmp] at c
    | succ n => exact .tup (.inr ⟨_, _, _, e1, e2, e4, e5, e6⟩) (Rels.dps r (by simpa [D.cmp] using c))
  | _, _, n, .lst e _ _ r, c => by
    cases n with
    | zero => simp [D.cmp] at c
    | succ n => exact .lst (.inl (.inl e)) (Rels.dps r (by simpa [D.cmp] using c))
  | _, _, n, .borK e1 e2 e3 e4 e5 e6 r, c => by
    cases n with
    | zero => simp [D.cmp] at c
    | succ n => exact .lst (.inr ⟨_, _, _, e1, e2, e3, e4, e5, e6⟩) (Rels.dps r (by simpa [D.cmp] using c))
  | _, _, n, .bor e _ _ r, c => by
    cases n with
    | zero => simp [D.cmp] at c
    | succ n => exact .lst (.inl e) (Rels.dps r (by simpa [D.cmp] using c))
  | _, _, _, .cls _, c => by simp [D.cmp] at c
  | _, _, _, .wd _, c => by simp [D.cmp] at c
  | _, _, _, .dct _ _ _ _ _, c => by simp [D.cmp] at c
  | _, _, _, .obj _ _ _ _ _, c => by simp [D.cmp] at c
  | _, _, _, .ref _, c => by simp [D.cmp] at c
theorem Rels.dps : ∀ {ds : List D} {vs : List V} {n : Nat}, Rels L F φ H ds vs → D.cmps n ds = true → DpAll L.K H vs (D.pds ds)
  | _, _, _, .nil, _ => .nil
  | _, _, n, .cons r t, c => by
    have c := Bool.and_eq_true_iff.mp (by simpa only [D.cmps] using c)
    exact .cons (Rel.dp r c.1) (Rels.dps t c.2)
end
theorem shown_dp {d : D} {v : V} {n : Nat} (x : HR L F φ h H) (r : Rel L F φ H d v) (c : D.cmp n (shown d h) = true) : Dp L.K H v (shown d h).pd := by
  cases d with
  | ref k =>
    cases r with
    | @ref k a q =>
      obtain ⟨o, e1, ro⟩ := x.ro q
      have es : shown (.ref k) h = (match h[k]? with
        | some (.lst l) => D.lst l
        | _ => .ref k) := rfl
      rw [e1] at es
      cases ro with
      | lst q2 r =>
        rw [es] at c ⊢
        cases n with
        | zero => simp [D.cmp] at c
        | succ n => exact .lst (.inl (.inl q2)) (r.dps (by simpa [D.cmp] using c))
      | _ =>
        rw [es] at c
        simp [D.cmp] at c
  | _ => exact Rel.dp r c
theorem Rel.flat {d : D} {v : V} (r : Rel L F φ H d v) (s : D.scal d = true) : flatV v = true := by
  cases r <;> first | rfl | (simp [D.scal] at s; done)
theorem Rel.eqF {d e : D} {v w : V} (r : Rel L F φ H d v) (q : Rel L F φ H e w) (s : D.scal d = true) (t : D.scal e = true) : eqV v w = D.eqv d e := by
  cases r <;> cases q <;> first | rfl | (simp [eqV, D.eqv]; done) | (simp [D.scal] at s; done) | (simp [D.scal] at t; done)
theorem Rels.flats : ∀ {ds : List D} {vs : List V}, Rels L F φ H ds vs → ds.all D.scal = true → vs.all flatV = true
  | _, _, .nil, _ => rfl
  | _, _, .cons r t, s => by
    have s := Bool.and_eq_true_iff.mp (by simpa only [List.all_cons] using s)
    rw [List.all_cons, r.flat s.1, Rels.flats t s.2]
    rfl
theorem Rels.inF {d : D} {v : V} (r : Rel L F φ H d v) (s : D.scal d = true) : ∀ {ds : List D} {vs : List V}, Rels L F φ H ds vs → ds.all D.scal = true → inV v vs = ds.any fun z => D.eqv z d
  | _, _, .nil, _ => rfl
  | _, _, .cons q t, a => by
    have a := Bool.and_eq_true_iff.mp (by simpa only [List.all_cons] using a)
    have ih := Rels.inF r s t a.2
    unfold inV at ih ⊢
    rw [List.any_cons, List.any_cons, ih, q.eqF r a.1 s]
end
end MV

set_option maxRecDepth 100000
set_option maxHeartbeats 1000000
/-! V5: operators by values. -/
namespace MV
open PySem PySem.Spec PyProof.Rows L2
def rd2 (L : Lk) (f : D → D → HH → R D) : R2 := fun x y H Q => ∃ (F : Fm) (φ : List Addr) (h : HH) (dx dy : D) (E : XK), HR L F φ h H ∧ Rel L F φ H dx x ∧ Rel L F φ H dy y ∧ GE L F φ H (f dx dy h) Q E
section
variable {X : Cx} {L : Lk} {F : Fm} {φ : List Addr} {H : Hp} {h : HH} {Q : VK} {E : XK}
theorem mulOk_ok {i j : Int} (e : mulOk i j = true) : IntMulOk i j := by
  have q : i.natAbs.log2 + j.natAbs.log2 < 1000000 := Nat.le_of_ble_eq_true e
  have b : ∀ x : Int, Builtin.Int.intBits x ≤ x.natAbs.log2 + 1 := fun x => by
    unfold Builtin.Int.intBits
    split <;> omega
  have h1 := b i
  have h2 := b j
  have e : bitsLine = 134217728 := by decide
  unfold IntMulOk
  intro z
  rw [Bool.and_eq_true] at z
  have z2 := z.2
  unfold Builtin.Int.intTooBig at z2
  have z3 := of_decide_eq_true z2
  rw [e] at z3
  omega
theorem ge_opt {α : Type} {o : Option α} {f : α → D} {v : α → V} (x : HR L F φ h H) (r : ∀ a, Rel L F φ H (f a) (v a)) (g : GE L F φ H (R.of (o.map f) h) Q E) : ∃ a, o = some a ∧ Q (v a) H := by
  cases o with
  | none => exact (G.no_ g).elim
  | some a => exact ⟨a, rfl, G.ok g x (r a)⟩
/-- t + u; the two laws of TupAny, told here by its own rule -/
theorem opAdd (hK : X.K = L.K) (m : Bool) (hT : OpR X (binaryOp .Add) (fun x y H Q => ∃ a b xs ys, x = .ref a ∧ y = .ref b ∧ SqT X.K H a xs ∧ SqT X.K H b ys ∧ xs.length + ys.length ≤ sizeLine ∧
    (xs = [] → Q (.ref b) H) ∧ (xs ≠ [] → ys = [] → Q (.ref a) H) ∧ (xs ≠ [] → ys ≠ [] → ∀ p, H p = none → Q (.ref p) (upd H p (.tup (xs ++ ys)))))) :
    OpR X (binaryOp .Add) (rd2 L (addD m)) := by
  intro pins s σ H x y v u Q I rx ry ⟨F, φ, h, dx, dy, E, hr, rX, rY, g⟩
  have lists : ∀ {a b : Addr} {xs ys : List V} {k l : List D}, x = .ref a → y = .ref b → H a = some (.lst xs) → H b = some (.lst ys) → Rels L F φ H k xs → Rels L F φ H l ys → GE L F φ H (mkL m (k ++ l) h) Q E →
      wpAny (model X.prog X.w) X.A (binaryOp .Add v u) (EP X pins σ Q) X.xe s := fun {a b xs ys k l} e1 e2 h1 h2 r1 r2 g => by
    have z := mkL_ok hr (r1.append r2) g
    refine op_cat pins s σ H x y v u Q I rx ry ⟨a, b, xs, ys, e1, e2, h1, h2, ?_, z.2⟩
    have := z.1
    rw [List.length_append] at this
    exact this
  unfold addD at g
  split at g
  · cases rX
    cases rY
    exact op_add pins s σ H _ _ v u Q I rx ry ⟨_, _, rfl, rfl, G.ok g hr (.int _)⟩
  · cases rX
    cases rY
    split at g
    · rename_i hl
      exact op_add_str pins s σ H _ _ v u Q I rx ry ⟨_, _, rfl, rfl, by rw [sizeLine_eq]; exact hl, G.ok g hr (.str _)⟩
    · exact (G.no_ g).elim
  · cases rX with
    | tup e1 r1 =>
      cases rY with
      | tup e2 r2 =>
        rw [← hK] at e1 e2
        rename_i a xs b ys
        have z := mkT_ok hr (r1.append r2) g
        refine hT pins s σ H _ _ v u Q I rx ry ⟨_, _, _, _, rfl, rfl, e1, e2, by have := z.1; rw [List.length_append] at this; exact this, fun e => ?_, fun e e' => ?_, fun _ _ => z.2⟩
        · subst e
          cases r1
          unfold mkT at g
          split at g
          · exact G.ok g hr (.tup (by rw [← hK]; exact e2) r2)
          · exact (G.no_ g).elim
        · subst e'
          cases r2
          rw [List.append_nil] at g
          unfold mkT at g
          split at g
          · exact G.ok g hr (.tup (by rw [← hK]; exact e1) r1)
          · exact (G.no_ g).elim
  · cases rX with
    | lst q1 _ _ r1 =>
      cases rY with
      | lst q2 _ _ r2 => exact lists rfl rfl q1 q2 r1 r2 g
  · cases rX with
    | lst q1 _ _ r1 =>
      cases rY with
      | ref e =>
        obtain ⟨o, e1, ro⟩ := hr.ro e
        rw [e1] at g
        cases ro with
        | lst q2 r2 => exact lists rfl rfl q1 q2 r1 r2 g
        | _ => exact (G.no_ g).elim
  · cases rY with
    | lst q2 _ _ r2 =>
      cases rX with
      | ref e =>
        obtain ⟨o, e1, ro⟩ := hr.ro e
        rw [e1] at g
        cases ro with
        | lst q1 r1 => exact lists rfl rfl q1 q2 r1 r2 g
        | _ => exact (G.no_ g).elim
  · cases rX with
    | ref e =>
      cases rY with
      | ref e' =>
        obtain ⟨o, e1, ro⟩ := hr.ro e
        obtain ⟨o', e2, ro'⟩ := hr.ro e'
        rw [e1, e2] at g
        cases ro with
        | lst q1 r1 =>
          cases ro' with
          | lst q2 r2 => exact lists rfl rfl q1 q2 r1 r2 g
          | _ => exact (G.no_ g).elim
        | _ => exact (G.no_ g).elim
  · exact (G.no_ g).elim
theorem Rels.rep {ds : List D} {vs : List V} (r : Rels L F φ H ds vs) : ∀ k : Nat, Rels L F φ H (List.replicate k ds).flatten (List.replicate k vs).flatten
  | 0 => by simpa using Rels.nil
  | k + 1 => by
    rw [List.replicate_succ, List.replicate_succ, List.flatten_cons, List.flatten_cons]
    exact r.append (Rels.rep r k)
theorem bin_ok (hK : X.K = L.K) (op : Operator) (m : Bool) (hT : OpR X (binaryOp .Add) (fun x y H Q => ∃ a b xs ys, x = .ref a ∧ y = .ref b ∧ SqT X.K H a xs ∧ SqT X.K H b ys ∧ xs.length + ys.length ≤ sizeLine ∧
    (xs = [] → Q (.ref b) H) ∧ (xs ≠ [] → ys = [] → Q (.ref a) H) ∧ (xs ≠ [] → ys ≠ [] → ∀ p, H p = none → Q (.ref p) (upd H p (.tup (xs ++ ys)))))) :
    OpR X (binaryOp op) (rd2 L (binD op m)) := by
  cases op with
  | Add => exact opAdd hK m hT
  | Sub =>
    intro pins s σ H x y v u Q I rx ry ⟨F, φ, h, dx, dy, E, hr, rX, rY, g⟩
    replace g : GE L F φ H (subD dx dy h) Q E := g
    unfold subD at g
    split at g
    · cases rX
      cases rY
      exact op_sub pins s σ H _ _ v u Q I rx ry ⟨_, _, rfl, rfl, G.ok g hr (.int _)⟩
    · exact (G.no_ g).elim
  | Mult =>
    intro pins s σ H x y v u Q I rx ry ⟨F, φ, h, dx, dy, E, hr, rX, rY, g⟩
    replace g : GE L F φ H (mulD m dx dy h) Q E := g
    unfold mulD at g
    split at g
    · cases rX
      cases rY
      rename_i i j
      split at g
      · rename_i hm
        obtain ⟨t, rfl⟩ := rx
        obtain ⟨t', rfl⟩ := ry
        exact mul_int ⟨.int _, H, I.tok _, ⟨_, rfl⟩, G.ok g hr (.int _)⟩ (mulOk_ok hm)
      · exact (G.no_ g).elim
    · rename_i a k
      cases rX with
      | lst q1 _ _ r1 =>
        cases rY
        split at g
        · rename_i hc
          have z := mkL_ok hr (r1.rep k.toNat) g
          refine op_rep pins s σ H _ _ v u Q I rx ry ⟨_, _, _, rfl, rfl, q1, by omega, by omega, ?_, z.2⟩
          rw [← r1.length, sizeLine_eq]
          exact hc.2.2
        · exact (G.no_ g).elim
    · exact (G.no_ g).elim
  | FloorDiv =>
    intro pins s σ H x y v u Q I rx ry ⟨F, φ, h, dx, dy, E, hr, rX, rY, g⟩
    replace g : GE L F φ H (divD dx dy h) Q E := g
    unfold divD at g
    split at g
    · cases rX
      cases rY
      rename_i i j
      split at g
      · rename_i hm
        obtain ⟨t, rfl⟩ := rx
        obtain ⟨t', rfl⟩ := ry
        obtain ⟨h1, h2⟩ := Bool.and_eq_true_iff.mp (show ((j != 0) && Nat.blt j.natAbs.log2 9000) = true from hm)
        exact floordiv_int (by simpa using h1) ⟨.int _, H, I.tok _, ⟨_, rfl⟩, G.ok g hr (.int _)⟩ (.inl (PyProof.noPylong_of_log2 (Nat.le_of_ble_eq_true h2)))
      · exact (G.no_ g).elim
    · exact (G.no_ g).elim
  | Mod =>
    intro pins s σ H x y v u Q I rx ry ⟨F, φ, h, dx, dy, E, hr, rX, rY, g⟩
    replace g : GE L F φ H (modD dx dy h) Q E := g
    unfold modD at g
    split at g
    · cases rX
      cases rY
      split at g
      · rename_i hm
        exact op_modN pins s σ H _ _ v u Q I rx ry ⟨_, _, rfl, rfl, by simpa using hm, G.ok g hr (.int _)⟩
      · exact (G.no_ g).elim
    · exact (G.no_ g).elim
  | Pow =>
    intro pins s σ H x y v u Q I rx ry ⟨F, φ, h, dx, dy, E, hr, rX, rY, g⟩
    replace g : GE L F φ H (powD dx dy h) Q E := g
    unfold powD at g
    split at g
    · cases rX
      cases rY
      rename_i i j
      split at g
      · rename_i hm
        obtain ⟨h1, h2⟩ := Bool.and_eq_true_iff.mp (show (decide (0 ≤ j) && (decide (j ≤ 1000000) && Nat.blt i.natAbs (2 ^ 64))) = true from hm)
        obtain ⟨h3, h4⟩ := Bool.and_eq_true_iff.mp h2
        exact op_pow pins s σ H _ _ v u Q I rx ry ⟨_, _, rfl, rfl, ⟨of_decide_eq_true h1, of_decide_eq_true h3, Nat.le_of_ble_eq_true h4⟩, G.ok g hr (.int _)⟩
      · exact (G.no_ g).elim
    · exact (G.no_ g).elim
  | _ =>
    intro pins s σ H x y v u Q I rx ry ⟨F, φ, h, dx, dy, E, hr, rX, rY, g⟩
    exact (G.no_ g).elim
end
end MV

set_option maxRecDepth 100000
set_option maxHeartbeats 1000000
/-! V6: comparisons, items, slices by values. -/
namespace MV
open PySem PySem.Spec PyProof.Rows L2
section
variable {X : Cx} {L : Lk} {F : Fm} {φ : List Addr} {H : Hp} {h : HH} {Q : VK} {E : XK}
theorem dctOf_ok {d : D} {v : V} {w : List Key × List D} (x : HR L F φ h H) (r : Rel L F φ H d v) (e : dctOf d h = some w) : ∃ a kvs, v = .ref a ∧ H a = some (.dK kvs) ∧ kvs.map (·.1) = w.1 ∧ Rels L F φ H w.2 (kvs.map (·.2)) := by
  cases r with
  | dct q _ _ k r =>
    cases e
    exact ⟨_, _, rfl, q, k, r⟩
  | @ref n a q =>
    obtain ⟨o, e1, ro⟩ := x.ro q
    have e : (match h[n]? with
      | some (.dct ks vs) => some (ks, vs)
      | _ => none) = some w := e
    rw [e1] at e
    cases ro with
    | dct q2 k r =>
      cases e
      exact ⟨_, _, rfl, q2, k, r⟩
    | _ => cases e
  | _ => cases e
theorem keyOf_ok {d : D} {v : V} {k : Key} (r : Rel L F φ H d v) (e : keyOf d = some k) : v = kV k := by
  cases r <;> first | (cases e; rfl) | cases e
theorem findK_ok : ∀ {kvs : List (L2.Key × V)} {ds : List D} {q : Key}, Rels L F φ H ds (kvs.map (·.2)) → match findK (kvs.map (·.1)) ds q with
    | some d => ∃ v, valV kvs q = some v ∧ Rel L F φ H d v
    | none => valV kvs q = none
  | [], ds, q, r => by
    cases r
    exact rfl
  | (k, v) :: kvs, ds, q, r => by
    cases r with
    | @cons d _ ds _ r t =>
      have ih := findK_ok (q := q) t
      show match (if decide (k = q) then some d else findK (kvs.map (·.1)) ds q) with
        | some d => ∃ w, valV ((k, v) :: kvs) q = some w ∧ Rel L F φ H d w
        | none => valV ((k, v) :: kvs) q = none
      by_cases hk : k = q
      · rw [if_pos (decide_eq_true hk)]
        exact ⟨v, valV_pos hk, r⟩
      · rw [if_neg (by simpa using hk), valV_neg hk]
        exact ih
theorem findK_val {kvs : List (L2.Key × V)} {ds : List D} {q : Key} (r : Rels L F φ H ds (kvs.map (·.2))) : (valV kvs q).isSome = (findK (kvs.map (·.1)) ds q).isSome := by
  have z := findK_ok (q := q) r
  split at z
  · rename_i e
    obtain ⟨v, e1, _⟩ := z
    rw [e, e1]
    rfl
  · rename_i e
    rw [e, z]
    rfl
/-- a comparison by values -/
def rdC (L : Lk) (f : D → D → HH → Option Bool) : R2 := fun x y H Q => ∃ (F : Fm) (φ : List Addr) (h : HH) (dx dy : D) (b : Bool), HR L F φ h H ∧ Rel L F φ H dx x ∧ Rel L F φ H dy y ∧ f dx dy h = some b ∧ Q (.bl b) H
theorem eqD_ok {dx dy : D} {x y : V} {b : Bool} (hK : X.K = L.K) (hr : HR L F φ h H) (rX : Rel L F φ H dx x) (rY : Rel L F φ H dy y) (e : eqD dx dy h = some b) :
    ∃ d f, Dp X.K H x d ∧ Dp X.K H y f ∧ SeqAt.shaped d = true ∧ SeqAt.shaped f = true ∧ PyData.eqv d f = b := by
  unfold eqD at e
  split at e
  · rename_i hc
    obtain ⟨c1, c2⟩ := Bool.and_eq_true_iff.mp hc
    refine ⟨_, _, by rw [hK]; exact shown_dp hr rX c1, by rw [hK]; exact shown_dp hr rY c2, cmp_shaped c1 (by decide), cmp_shaped c2 (by decide), ?_⟩
    rw [eqv_pd _ _ _ _ c1 c2]
    exact Option.some.inj e
  · cases e
theorem noneD_ok {d : D} {v : V} (r : Rel L F φ H d v) : decide (v = V.non) = noneD d := by
  cases r <;> simp [noneD]
theorem inD_ok {dx dy : D} {x y : V} {b : Bool} (hr : HR L F φ h H) (rX : Rel L F φ H dx x) (rY : Rel L F φ H dy y) (e : inD dx dy h = some b) :
    (∃ a o, y = .ref a ∧ DGet H a x o ∧ o.isSome = b) ∨ ∃ p xs, y = .ref p ∧ (SqL L.K H p xs ∨ SqT L.K H p xs) ∧ flatV x = true ∧ xs.all flatV = true ∧ inV x xs = b := by
  unfold inD at e
  split at e
  · rename_i w hw
    obtain ⟨a, kvs, rfl, q, k, r⟩ := dctOf_ok hr rY hw
    split at e
    · rename_i q' hq
      have ek := keyOf_ok rX hq
      subst ek
      refine .inl ⟨a, _, rfl, DGet.k q, ?_⟩
      rw [findK_val r, k]
      exact Option.some.inj e
    · cases e
  · split at e
    · rename_i l hl
      split at e
      · rename_i hs
        obtain ⟨s1, s2⟩ := Bool.and_eq_true_iff.mp hs
        obtain ⟨p, xs, rfl, sq, r⟩ := seqOf_ok hr rY hl
        refine .inr ⟨p, xs, rfl, sq, rX.flat s1, r.flats s2, ?_⟩
        rw [Rels.inF rX s1 r s2]
        exact Option.some.inj e
      · cases e
    · cases e
theorem cmp_ok (hK : X.K = L.K) (hu : X.A.units + 65 < cLine) (op : CmpOp) : OpR X (compareOp op) (rdC L (cmpD op)) := by
  cases op with
  | Eq =>
    intro pins s σ H x y v u Q I rx ry ⟨F, φ, h, dx, dy, b, hr, rX, rY, e, q⟩
    obtain ⟨d, f, h1, h2, h3, h4, rfl⟩ := eqD_ok hK hr rX rY e
    exact op_eqD (Nat.lt_of_succ_lt hu) pins s σ H x y v u Q I rx ry ⟨d, f, h1, h2, h3, h4, q⟩
  | NotEq =>
    intro pins s σ H x y v u Q I rx ry ⟨F, φ, h, dx, dy, b, hr, rX, rY, e, q⟩
    obtain ⟨c, e1, e2⟩ := Option.map_eq_some_iff.mp (show (eqD dx dy h).map (!·) = some b from e)
    obtain ⟨d, f, h1, h2, h3, h4, rfl⟩ := eqD_ok hK hr rX rY e1
    subst e2
    exact op_neD (Nat.lt_of_succ_lt hu) pins s σ H x y v u Q I rx ry ⟨d, f, h1, h2, h3, h4, q⟩
  | Lt =>
    intro pins s σ H x y v u Q I rx ry ⟨F, φ, h, dx, dy, b, hr, rX, rY, e, q⟩
    unfold cmpD at e
    dsimp only at e
    split at e
    · cases rX
      cases rY
      cases e
      exact op_lt pins s σ H _ _ v u Q I rx ry ⟨_, _, rfl, rfl, q⟩
    · cases e
  | LtE =>
    intro pins s σ H x y v u Q I rx ry ⟨F, φ, h, dx, dy, b, hr, rX, rY, e, q⟩
    unfold cmpD at e
    dsimp only at e
    split at e
    · cases rX
      cases rY
      cases e
      exact op_le pins s σ H _ _ v u Q I rx ry ⟨_, _, rfl, rfl, q⟩
    · cases e
  | Gt =>
    intro pins s σ H x y v u Q I rx ry ⟨F, φ, h, dx, dy, b, hr, rX, rY, e, q⟩
    unfold cmpD at e
    dsimp only at e
    split at e
    · cases rX
      cases rY
      cases e
      exact op_gt pins s σ H _ _ v u Q I rx ry ⟨_, _, rfl, rfl, q⟩
    · cases e
  | GtE =>
    intro pins s σ H x y v u Q I rx ry ⟨F, φ, h, dx, dy, b, hr, rX, rY, e, q⟩
    unfold cmpD at e
    dsimp only at e
    split at e
    · cases rX
      cases rY
      cases e
      exact op_ge pins s σ H _ _ v u Q I rx ry ⟨_, _, rfl, rfl, q⟩
    · cases e
  | Is =>
    intro pins s σ H x y v u Q I rx ry ⟨F, φ, h, dx, dy, b, hr, rX, rY, e, q⟩
    unfold cmpD at e
    dsimp only at e
    split at e
    · cases rY
      cases e
      exact op_isN pins s σ H _ _ v u Q I rx ry ⟨rfl, by rw [noneD_ok rX]; exact q⟩
    · cases e
  | IsNot =>
    intro pins s σ H x y v u Q I rx ry ⟨F, φ, h, dx, dy, b, hr, rX, rY, e, q⟩
    unfold cmpD at e
    dsimp only at e
    split at e
    · cases rY
      cases e
      exact op_notN pins s σ H _ _ v u Q I rx ry ⟨rfl, by rw [noneD_ok rX]; exact q⟩
    · cases e
  | In =>
    intro pins s σ H x y v u Q I rx ry ⟨F, φ, h, dx, dy, b, hr, rX, rY, e, q⟩
    rcases inD_ok hr rX rY e with ⟨a, o, rfl, g, rfl⟩ | ⟨p, xs, rfl, h1, h2, h3, rfl⟩
    · cases ry
      exact d_in (Nat.lt_of_le_of_lt (Nat.add_le_add_left (by decide) _) hu) I g rx fun s' I' => ⟨.bl o.isSome, H, I', rfl, q⟩
    · exact op_in_seq pins s σ H _ _ v u Q I rx ry ⟨p, xs, rfl, by rw [hK]; exact h1, h2, h3, q⟩
  | NotIn =>
    intro pins s σ H x y v u Q I rx ry ⟨F, φ, h, dx, dy, b, hr, rX, rY, e, q⟩
    obtain ⟨c, e1, e2⟩ := Option.map_eq_some_iff.mp (show (inD dx dy h).map (!·) = some b from e)
    subst e2
    rcases inD_ok hr rX rY e1 with ⟨a, o, rfl, g, rfl⟩ | ⟨p, xs, rfl, h1, h2, h3, rfl⟩
    · cases ry
      exact d_notIn (Nat.lt_of_le_of_lt (Nat.add_le_add_left (by decide) _) hu) I g rx fun s' I' => ⟨.bl (!o.isSome), H, I', rfl, q⟩
    · exact op_notIn_seq pins s σ H _ _ v u Q I rx ry ⟨p, xs, rfl, by rw [hK]; exact h1, h2, h3, q⟩
end
end MV

set_option maxRecDepth 100000
set_option maxHeartbeats 1000000
/-! V7: items, slices, stores, built-ins by values. -/
namespace MV
open PySem PySem.Spec PyProof.Rows L2
/-- a written dict's item -/
def WdOk (X : Cx) (L : Lk) (W : Wds) : Prop := IxR X (fun x y H Q => ∃ (k : Nat) (w : List Key × List D) (q : Key) (d : D), x = .ref (L.wa k) ∧ W[k]? = some w ∧ y = kV q ∧ findK w.1 w.2 q = some d ∧
  ∀ v, (∀ F φ H, Rel L F φ H d v) → Q v H)
theorem ixAt_eq (n : Nat) (i : Int) : MV.ixAt n i = ixN n i := rfl
def rdX (L : Lk) (W : Wds) : R2 := fun x y H Q => ∃ (F : Fm) (φ : List Addr) (h : HH) (dx dy : D) (E : XK), HR L F φ h H ∧ Rel L F φ H dx x ∧ Rel L F φ H dy y ∧ GE L F φ H (R.of (itemD W dx dy h) h) Q E
section
variable {X : Cx} {L : Lk} {F : Fm} {φ : List Addr} {H : Hp} {h : HH} {Q : VK} {E : XK}
theorem of_some {α β : Type} {Rl : List Addr → Hp → α → β → Prop} {o : Option α} {Q : β → Hp → Prop} (g : G L F φ H Rl (R.of o h) Q E) : ∃ a, o = some a ∧ G L F φ H Rl (.ok a h) Q E := by
  cases o with
  | none => exact (G.no_ g).elim
  | some a => exact ⟨a, rfl, g⟩
theorem item_ok (hK : X.K = L.K) (hu : X.A.units + 65 < cLine) {W : Wds} (hW : WdOk X L W) : IxR X (rdX L W) := by
  intro value slice pins s σ H x y v u Q I rx ry ⟨F, φ, h, dx, dy, E, hr, rX, rY, g⟩ hs
  obtain ⟨d, e0, g'⟩ := of_some g
  clear g
  have viaDict : ∀ {w : List Key × List D}, dctOf dx h = some w → (match keyOf dy with
      | some q => findK w.1 w.2 q
      | none => none) = some d → wpAny (model X.prog X.w) X.A (subscriptTail value slice v u) (EP X pins σ Q) X.xe s := fun {w} hw e => by
    obtain ⟨a, kvs, rfl, q, k, r⟩ := dctOf_ok hr rX hw
    split at e
    · rename_i q' hq
      have ek := keyOf_ok rY hq
      subst ek
      have z := findK_ok (q := q') r
      rw [k, e] at z
      obtain ⟨w', e1, r1⟩ := z
      cases rx
      have dg : DGet H a (kV q') (some w') := by
        rw [← e1]
        exact DGet.k q
      exact tail_any (dict_typeIs I dg) PySem.F.slot_dict_getitem.lookup (d_getItem (Nat.lt_of_le_of_lt (Nat.add_le_add_left (by decide) _) hu) I dg ry fun w2 s3 I3 rw2 => ⟨w', H, I3, rw2, G.ok g' hr r1⟩) hs
    · cases e
  have viaSeq : ∀ {i : Int}, dy = .int i → (match seqOf dx h with
      | some l => (MV.ixAt l.length i).bind fun j => l[j]?
      | none => none) = some d → wpAny (model X.prog X.w) X.A (subscriptTail value slice v u) (EP X pins σ Q) X.xe s := fun {i} ey e => by
    subst ey
    cases rY
    split at e
    · rename_i l hl
      obtain ⟨a, vs, rfl, sq, r⟩ := seqOf_ok hr rX hl
      obtain ⟨j, e1, e2⟩ := Option.bind_eq_some_iff.mp e
      obtain ⟨w, e3, r3⟩ := r.get e2
      have at_ : atI vs i = some w := by
        unfold atI
        rw [← r.length, ← ixAt_eq, e1]
        exact e3
      rcases sq with sq | sq
      · exact ix_list value slice pins s σ H _ _ v u Q I rx ry ⟨_, _, _, _, rfl, rfl, by rw [hK]; exact sq, at_, G.ok g' hr r3⟩ hs
      · exact ix_tup value slice pins s σ H _ _ v u Q I rx ry ⟨_, _, _, _, rfl, rfl, by rw [hK]; exact sq, at_, G.ok g' hr r3⟩ hs
    · cases e
  unfold itemD at e0
  split at e0
  · rename_i k
    split at e0
    · rename_i w q hw hq
      cases rX
      have ek := keyOf_ok rY hq
      subst ek
      exact hW value slice pins s σ H _ _ v u Q I rx ry ⟨k, w, q, d, rfl, hw, rfl, e0, fun v hv => G.ok g' hr (hv F φ H)⟩ hs
    · cases e0
  · split at e0
    · rename_i w hw
      exact viaDict hw e0
    · unfold itemL at e0
      split at e0
      · rename_i i
        split at e0
        · rename_i z
          cases rX
          cases rY
          split at e0
          · rename_i hl
            obtain ⟨j, e1, e2⟩ := Option.bind_eq_some_iff.mp e0
            obtain ⟨c, e3, e4⟩ := Option.map_eq_some_iff.mp e2
            subst e4
            refine ix_str value slice pins s σ H _ _ v u Q I rx ry ⟨_, i, c, rfl, rfl, by rw [sizeLine_eq]; exact hl, ?_, G.ok g' hr (.str _)⟩ hs
            unfold atI
            rw [Array.length_toList, ← ixAt_eq, e1, Option.bind_some, Array.getElem?_toList]
            exact e3
          · cases e0
        · exact viaSeq rfl e0
      · cases e0
/-! ### stores -/
def rdSet (L : Lk) : TSet := fun o i v H Q => ∃ (F : Fm) (φ : List Addr) (h : HH) (dx dy d : D) (h' : HH), HR L F φ h H ∧ Rel L F φ H dx o ∧ Rel L F φ H dy i ∧ Rel L F φ H d v ∧ setD dx dy d h = some h' ∧
  ∀ φ' H', XT φ H φ' H' → HR L F φ' h' H' → Q H'
theorem replK_ok {d : D} {v : V} (r : Rel L F φ H d v) (q : Key) : ∀ {kvs : List (L2.Key × V)} {ds : List D}, Rels L F φ H ds (kvs.map (·.2)) →
    Rels L F φ H (replK (kvs.map (·.1)) ds q d) ((kvs.map fun kv => if kv.1 = q then (kv.1, v) else kv).map (·.2))
  | [], _, .nil => .nil
  | (k, w) :: kvs, _, .cons r1 t => by
    have ih := replK_ok r q (kvs := kvs) t
    show Rels L F φ H ((if decide (k = q) then d else _) :: replK (kvs.map (·.1)) _ q d) (((if k = q then (k, v) else (k, w)) : L2.Key × V).2 :: (kvs.map fun kv => if kv.1 = q then (kv.1, v) else kv).map (·.2))
    by_cases hk : k = q
    · rw [if_pos (decide_eq_true hk), if_pos hk]
      exact .cons r ih
    · rw [if_neg (by simpa using hk), if_neg hk]
      exact .cons r1 ih
theorem putK_ok {d : D} {v : V} {kvs : List (L2.Key × V)} {ds : List D} (r : Rel L F φ H d v) (q : Key) (t : Rels L F φ H ds (kvs.map (·.2))) :
    (L2.putK kvs q v).map (·.1) = (MV.putK (kvs.map (·.1)) ds q d).1 ∧ Rels L F φ H (MV.putK (kvs.map (·.1)) ds q d).2 ((L2.putK kvs q v).map (·.2)) := by
  unfold L2.putK MV.putK
  have e : (kvs.map (·.1)).any (fun k => decide (k = q)) = kvs.any fun kv => decide (kv.1 = q) := by
    rw [List.any_map]
    rfl
  rw [e]
  cases hb : kvs.any fun kv => decide (kv.1 = q) with
  | true =>
    rw [if_pos rfl]
    refine ⟨?_, replK_ok r q t⟩
    rw [List.map_map]
    refine List.map_congr_left fun kv _ => ?_
    show (if kv.1 = q then (kv.1, v) else kv).1 = kv.1
    split <;> rfl
  | false =>
    rw [if_neg (by decide)]
    refine ⟨by simp, ?_⟩
    rw [List.map_append]
    exact t.snoc r
theorem set_ok (hu : X.A.units + 65 < cLine) : PSet X (rdSet L) := by
  intro pins s σ H o i v ov iv u Q I ro ri rv ⟨F, φ, h, dx, dy, d, h', hr, rX, rY, rD, e, q⟩
  unfold setD at e
  split at e
  · cases rX with
    | @ref n a eφ =>
      obtain ⟨w, e1, rw_⟩ := hr.ro eφ
      rw [e1] at e
      cases rw_ with
      | @lst vs l q1 r1 =>
        dsimp only at e
        split at e
        · rename_i j
          obtain ⟨p, e2, e3⟩ := Option.map_eq_some_iff.mp e
          subst e3
          cases rY
          have m : a ∈ φ := List.mem_of_getElem? eφ
          have t : XT φ H φ (upd H a (.lst _)) := XT.write (o := .lst (vs.set p v)) hr m
          refine set_list pins s σ H _ _ v ov iv u Q I ro ri rv ⟨a, vs, _, p, rfl, rfl, q1, ?_, q φ _ t (hr.write eφ (.lst upd_same ((r1.mono t).set (rD.mono t) p)))⟩
          rw [← r1.length]
          exact e2
        · cases e
      | @dct kvs ks ds q1 k r1 =>
        dsimp only at e
        split at e
        · rename_i q' hq
          have ek := keyOf_ok rY hq
          subst ek
          split at e
          · rename_i hl
            cases e
            cases ro
            have m : a ∈ φ := List.mem_of_getElem? eφ
            have t : XT φ H φ (upd H a (.dK _)) := XT.write (o := .dK (L2.putK kvs q' v)) hr m
            subst k
            obtain ⟨p1, p2⟩ := putK_ok (rD.mono t) q' (r1.mono t)
            refine d_setItem (Nat.lt_of_le_of_lt (Nat.add_le_add_left (by decide) _) hu) I (DPut.k (v := v) q1 ?_) ri rv fun s' I' => ⟨_, I', q φ _ t (hr.write eφ (.dct upd_same p1 p2))⟩
            have := blt_line hl
            rw [List.length_map] at this
            exact this
          · cases e
        · cases e
      | _ => cases e
  · cases e
/-! ### slices -/
theorem clip_eq_ (n d : Nat) (o : Option Int) : MV.clip n d o = HT.sIx n d o := by
  cases o with
  | none => rfl
  | some v =>
    rfl
end
end MV

set_option maxRecDepth 100000
set_option maxHeartbeats 1000000
/-! V8: built-ins by values. -/
namespace MV
open PySem PySem.Spec PyProof.Rows L2
def rdL (L : Lk) (f : List D → HH → R D) : List V → Hp → VK → Prop := fun vs H Q => ∃ (F : Fm) (φ : List Addr) (h : HH) (ds : List D) (E : XK), HR L F φ h H ∧ Rels L F φ H ds vs ∧ GE L F φ H (f ds h) Q E
def rdM (L : Lk) (f : D → List D → HH → R D) : V → List V → Hp → VK → Prop := fun o vs H Q => ∃ (F : Fm) (φ : List Addr) (h : HH) (d : D) (ds : List D) (E : XK), HR L F φ h H ∧ Rel L F φ H d o ∧ Rels L F φ H ds vs ∧ GE L F φ H (f d ds h) Q E
section
variable {X : Cx} {L : Lk} {F : Fm} {φ : List Addr} {H : Hp} {h : HH} {Q : VK} {E : XK}
theorem Rels.one {d : D} {vs : List V} (r : Rels L F φ H [d] vs) : ∃ v, vs = [v] ∧ Rel L F φ H d v := by
  cases r with
  | cons r t =>
    cases t
    exact ⟨_, rfl, r⟩
theorem oneL_ok {ds : List D} {vs : List V} {l : List D} (x : HR L F φ h H) (r : Rels L F φ H ds vs) (e : oneL ds h = some l) : ∃ a ws, vs = [.ref a] ∧ SqL L.K H a ws ∧ Rels L F φ H l ws := by
  unfold oneL at e
  split at e
  · obtain ⟨v, rfl, r1⟩ := r.one
    obtain ⟨a, ws, rfl, q, t⟩ := listOf_ok x r1 e
    exact ⟨a, ws, rfl, q, t⟩
  · cases e
theorem oneInts {ds : List D} {vs : List V} {ns : List Int} (x : HR L F φ h H) (r : Rels L F φ H ds vs) (e : (oneL ds h).bind MV.intsD = some ns) : ∃ a, vs = [.ref a] ∧ SqL L.K H a (ns.map V.int) := by
  obtain ⟨l, e1, e2⟩ := Option.bind_eq_some_iff.mp e
  obtain ⟨a, ws, rfl, q, t⟩ := oneL_ok x r e1
  rw [t.intsD e2] at q
  exact ⟨a, rfl, q⟩
theorem oneBls {ds : List D} {vs : List V} {ns : List Bool} (x : HR L F φ h H) (r : Rels L F φ H ds vs) (e : (oneL ds h).bind MV.bls = some ns) : ∃ a, vs = [.ref a] ∧ SqL L.K H a (ns.map V.bl) := by
  obtain ⟨l, e1, e2⟩ := Option.bind_eq_some_iff.mp e
  obtain ⟨a, ws, rfl, q, t⟩ := oneL_ok x r e1
  rw [t.bls e2] at q
  exact ⟨a, rfl, q⟩
theorem len_ok (hK : X.K = L.K) : CallR X (.builtin "len") (rdL L lenD) := by
  intro pins s σ H vs us Q I r ⟨F, φ, h, ds, E, hr, rs, g⟩
  unfold lenD at g
  split at g
  · obtain ⟨v, rfl, r1⟩ := rs.one
    split at g
    · rename_i l hl
      obtain ⟨a, ws, rfl, sq, t⟩ := seqOf_ok hr r1 hl
      refine call_len pins s σ H _ us Q I r ⟨_, ws.length, rfl, ?_, by rw [← t.length]; exact G.ok g hr (.int _)⟩
      rw [hK]
      exact sq.elim (fun q => .inl ⟨ws, q, rfl⟩) fun q => .inr ⟨ws, q, rfl⟩
    · split at g
      · cases r1
        split at g
        · rename_i z hz
          exact call_len pins s σ H _ us Q I r ⟨_, _, rfl, ⟨by rw [sizeLine_eq]; exact hz, rfl⟩, G.ok g hr (.int _)⟩
        · exact (G.no_ g).elim
      · exact (G.no_ g).elim
  · exact (G.no_ g).elim
theorem abs_ok : CallR X (.builtin "abs") (rdL L absD) := by
  intro pins s σ H vs us Q I r ⟨F, φ, h, ds, E, hr, rs, g⟩
  unfold absD at g
  split at g
  · obtain ⟨v, rfl, r1⟩ := rs.one
    cases r1
    exact call_abs pins s σ H _ us Q I r ⟨_, rfl, G.ok g hr (.int _)⟩
  · exact (G.no_ g).elim
theorem int_ok : CallR X (.type "int") (rdL L intD) := by
  intro pins s σ H vs us Q I r ⟨F, φ, h, ds, E, hr, rs, g⟩
  unfold intD at g
  split at g
  · obtain ⟨v, rfl, r1⟩ := rs.one
    cases r1
    exact call_int1 pins s σ H _ us Q I r (.inl ⟨_, rfl, G.ok g hr (.int _)⟩)
  · obtain ⟨v, rfl, r1⟩ := rs.one
    cases r1
    exact call_int1 pins s σ H _ us Q I r (.inr ⟨_, rfl, G.ok g hr (.int _)⟩)
  · exact (G.no_ g).elim
theorem list_ok (hK : X.K = L.K) (m : Bool) : CallR X (.type "list") (rdL L (listD m)) := by
  intro pins s σ H vs us Q I r ⟨F, φ, h, ds, E, hr, rs, g⟩
  unfold listD at g
  split at g
  · obtain ⟨v, rfl, r1⟩ := rs.one
    split at g
    · rename_i l hl
      obtain ⟨a, ws, rfl, sq, t⟩ := seqOf_ok hr r1 hl
      exact call_list_of pins s σ H _ us Q I r ⟨a, ws, rfl, by rw [hK]; exact sq, (mkL_ok hr t g).2⟩
    · exact (G.no_ g).elim
  · exact (G.no_ g).elim
theorem tuple_ok (hK : X.K = L.K) : CallR X (.type "tuple") (rdL L tupleD) := by
  intro pins s σ H vs us Q I r ⟨F, φ, h, ds, E, hr, rs, g⟩
  unfold tupleD at g
  split at g
  · obtain ⟨v, rfl, r1⟩ := rs.one
    split at g
    · rename_i l hl
      obtain ⟨a, ws, rfl, sq, t⟩ := seqOf_ok hr r1 hl
      refine call_tuple_of pins s σ H _ us Q I r ⟨a, ws, rfl, ?_⟩
      rw [hK]
      rcases sq with sq | sq
      · refine .inl ⟨sq, fun p hp => ?_⟩
        have x : XT φ H φ (upd H p (.tup ws)) := .fresh hp
        exact G.ok' g x (hr.fresh hp) (.tup (.inl (.inl upd_same)) (t.mono x))
      · exact .inr ⟨sq, G.ok g hr (.tup sq t)⟩
    · exact (G.no_ g).elim
  · exact (G.no_ g).elim
theorem sum_ok (hK : X.K = L.K) (hc : X.calm = true) : CallR X (.builtin "sum") (rdL L sumD) := by
  intro pins s σ H vs us Q I r ⟨F, φ, h, ds, E, hr, rs, g⟩
  unfold sumD at g
  split at g
  · rename_i ns e
    obtain ⟨a, rfl, q⟩ := oneInts hr rs e
    exact cr_sum hc pins s σ H _ us Q I r ⟨a, ns, rfl, by rw [hK]; exact q, G.ok g hr (.int _)⟩
  · exact (G.no_ g).elim
theorem any_ok (hK : X.K = L.K) (hc : X.calm = true) : CallR X (.builtin "any") (rdL L anyD) := by
  intro pins s σ H vs us Q I r ⟨F, φ, h, ds, E, hr, rs, g⟩
  unfold anyD at g
  split at g
  · rename_i ns e
    obtain ⟨a, rfl, q⟩ := oneBls hr rs e
    exact cr_any hc pins s σ H _ us Q I r ⟨a, ns, rfl, by rw [hK]; exact q, G.ok g hr (.bl _)⟩
  · exact (G.no_ g).elim
theorem all_ok (hK : X.K = L.K) (hc : X.calm = true) : CallR X (.builtin "all") (rdL L allD) := by
  intro pins s σ H vs us Q I r ⟨F, φ, h, ds, E, hr, rs, g⟩
  unfold allD at g
  split at g
  · rename_i ns e
    obtain ⟨a, rfl, q⟩ := oneBls hr rs e
    exact cr_all hc pins s σ H _ us Q I r ⟨a, ns, rfl, by rw [hK]; exact q, G.ok g hr (.bl _)⟩
  · exact (G.no_ g).elim
theorem minI_ok : ∀ {ns : List Int} {m : Int}, minI ns = some m → m ∈ ns ∧ ∀ y ∈ ns, m ≤ y
  | [], _, e => by cases e
  | [x], m, e => by
    cases e
    exact ⟨by simp, fun y hy => by simp at hy; omega⟩
  | x :: y :: r, m, e => by
    obtain ⟨k, e1, e2⟩ := Option.map_eq_some_iff.mp (show (minI (y :: r)).map (fun m => if x ≤ m then x else m) = some m from e)
    obtain ⟨h1, h2⟩ := minI_ok e1
    subst e2
    refine ⟨?_, fun z hz => ?_⟩
    · split
      · exact List.mem_cons_self
      · exact List.mem_cons_of_mem _ h1
    · rcases List.mem_cons.mp hz with rfl | hz
      · split <;> omega
      · have := h2 z hz
        split <;> omega
theorem maxI_ok : ∀ {ns : List Int} {m : Int}, maxI ns = some m → m ∈ ns ∧ ∀ y ∈ ns, y ≤ m
  | [], _, e => by cases e
  | [x], m, e => by
    cases e
    exact ⟨by simp, fun y hy => by simp at hy; omega⟩
  | x :: y :: r, m, e => by
    obtain ⟨k, e1, e2⟩ := Option.map_eq_some_iff.mp (show (maxI (y :: r)).map (fun m => if m ≤ x then x else m) = some m from e)
    obtain ⟨h1, h2⟩ := maxI_ok e1
    subst e2
    refine ⟨?_, fun z hz => ?_⟩
    · split
      · exact List.mem_cons_self
      · exact List.mem_cons_of_mem _ h1
    · rcases List.mem_cons.mp hz with rfl | hz
      · split <;> omega
      · have := h2 z hz
        split <;> omega
theorem min_ok (hK : X.K = L.K) (hc : X.calm = true) : CallR X (.builtin "min") (rdL L minD) := by
  intro pins s σ H vs us Q I r ⟨F, φ, h, ds, E, hr, rs, g⟩
  unfold minD at g
  split at g
  · rename_i n e
    obtain ⟨ns, e1, e2⟩ := Option.bind_eq_some_iff.mp e
    obtain ⟨a, rfl, q⟩ := oneInts hr rs e1
    obtain ⟨m1, m2⟩ := minI_ok e2
    refine cr_min hc pins s σ H _ us Q I r ⟨a, ns, rfl, by rw [hK]; exact q, List.length_pos_of_mem m1, fun m h1 h2 => ?_⟩
    have : m = n := Int.le_antisymm (h2 n m1) (m2 m h1)
    subst this
    exact G.ok g hr (.int _)
  · exact (G.no_ g).elim
theorem max_ok (hK : X.K = L.K) (hc : X.calm = true) : CallR X (.builtin "max") (rdL L maxD) := by
  intro pins s σ H vs us Q I r ⟨F, φ, h, ds, E, hr, rs, g⟩
  unfold maxD at g
  split at g
  · rename_i n e
    obtain ⟨ns, e1, e2⟩ := Option.bind_eq_some_iff.mp e
    obtain ⟨a, rfl, q⟩ := oneInts hr rs e1
    obtain ⟨m1, m2⟩ := maxI_ok e2
    refine cr_max hc pins s σ H _ us Q I r ⟨a, ns, rfl, by rw [hK]; exact q, List.length_pos_of_mem m1, fun m h1 h2 => ?_⟩
    have : m = n := Int.le_antisymm (m2 m h1) (h2 n m1)
    subst this
    exact G.ok g hr (.int _)
  · exact (G.no_ g).elim
theorem insI_perm (x : Int) : ∀ l : List Int, (insI x l).Perm (x :: l)
  | [] => .refl _
  | y :: r => by
    show (if x ≤ y then x :: y :: r else y :: insI x r).Perm (x :: y :: r)
    split
    · exact .refl _
    · exact ((insI_perm x r).cons y).trans (List.Perm.swap x y r)
theorem insI_sorted (x : Int) : ∀ l : List Int, l.Pairwise (· ≤ ·) → (insI x l).Pairwise (· ≤ ·)
  | [], _ => by simp [insI]
  | y :: r, h => by
    obtain ⟨h1, h2⟩ := List.pairwise_cons.mp h
    show (if x ≤ y then x :: y :: r else y :: insI x r).Pairwise (· ≤ ·)
    split
    · rename_i hx
      refine List.pairwise_cons.mpr ⟨fun z hz => ?_, h⟩
      rcases List.mem_cons.mp hz with rfl | hz
      · exact hx
      · exact Int.le_trans hx (h1 z hz)
    · rename_i hx
      refine List.pairwise_cons.mpr ⟨fun z hz => ?_, insI_sorted x r h2⟩
      rcases List.mem_cons.mp ((insI_perm x r).mem_iff.mp hz) with rfl | hz
      · omega
      · exact h1 z hz
theorem sortI_perm : ∀ l : List Int, (sortI l).Perm l
  | [] => .refl _
  | x :: r => (insI_perm x (sortI r)).trans ((sortI_perm r).cons x)
theorem sortI_sorted : ∀ l : List Int, (sortI l).Pairwise (· ≤ ·)
  | [] => .nil
  | x :: r => insI_sorted x (sortI r) (sortI_sorted r)
theorem sorted_eq : ∀ {l k : List Int}, l.Perm k → l.Pairwise (· ≤ ·) → k.Pairwise (· ≤ ·) → l = k := fun {l k} p a b =>
  List.Perm.eq_of_pairwise (fun x y _ _ h1 h2 => Int.le_antisymm h1 h2) a b p
theorem sorted_ok (hK : X.K = L.K) (m : Bool) : CallR X (.builtin "sorted") (rdL L (sortedD m)) := by
  intro pins s σ H vs us Q I r ⟨F, φ, h, ds, E, hr, rs, g⟩
  unfold sortedD at g
  split at g
  · rename_i ns e
    split at g
    · rename_i hl
      obtain ⟨a, rfl, q⟩ := oneInts hr rs e
      have z := mkL_ok hr (Rels.ofInts (sortI ns)) g
      refine cr_sorted pins s σ H _ us Q I r ⟨a, ns, rfl, by rw [hK]; exact q, Nat.le_of_ble_eq_true hl, fun ns' p h1 h2 hp => ?_⟩
      rw [sorted_eq (h1.trans (sortI_perm ns).symm) h2 (sortI_sorted ns)]
      exact z.2 p hp
    · exact (G.no_ g).elim
  · exact (G.no_ g).elim
end
end MV

set_option maxRecDepth 100000
set_option maxHeartbeats 1000000
/-! V9: methods of built-in types, isinstance, slices by values. -/
namespace MV
open PySem PySem.Spec PyProof.Rows L2
section
variable {X : Cx} {L : Lk} {F : Fm} {φ : List Addr} {H : Hp} {h : HH} {Q : VK} {E : XK}
theorem wr_ok {n : Nat} {a : Addr} {l l' : List D} {d : D} {vs' : List V} {v : V} (hr : HR L F φ h H) (eφ : φ[n]? = some a) (r : Rels L F φ H l' vs') (rd : Rel L F φ H d v)
    (g : GE L F φ H (.ok d (h.set n (.lst l'))) Q E) : Q v (upd H a (.lst vs')) := by
  have t : XT φ H φ (upd H a (.lst vs')) := XT.write (o := .lst vs') hr (List.mem_of_getElem? eφ)
  exact G.ok' g t (hr.write eφ (.lst upd_same (r.mono t))) (rd.mono t)
theorem append_ok : MtR X "list.append" (rdM L appendD) := by
  intro pins s σ H x xs v us Q I rx rxs ⟨F, φ, h, d, ds, E, hr, rX, rs, g⟩
  unfold appendD at g
  split at g
  · obtain ⟨y, rfl, r1⟩ := rs.one
    cases rX with
    | @ref n a eφ =>
      obtain ⟨o, e1, ro⟩ := hr.ro eφ
      rw [e1] at g
      cases ro with
      | @lst vs l q1 rl =>
        dsimp only at g
        split at g
        · rename_i hl
          exact mt_append pins s σ H _ _ v us Q I rx rxs ⟨a, vs, y, rfl, rfl, q1, by rw [← rl.length]; exact blt_line hl, wr_ok (l := l) hr eφ (rl.snoc r1) .non g⟩
        · exact (G.no_ g).elim
      | _ => exact (G.no_ g).elim
  · exact (G.no_ g).elim
theorem pop_ok : MtR X "list.pop" (rdM L popD) := by
  intro pins s σ H x xs v us Q I rx rxs ⟨F, φ, h, d, ds, E, hr, rX, rs, g⟩
  unfold popD at g
  split at g
  · cases rs
    cases rX with
    | @ref n a eφ =>
      obtain ⟨o, e1, ro⟩ := hr.ro eφ
      rw [e1] at g
      cases ro with
      | @lst vs l q1 rl =>
        dsimp only at g
        split at g
        · rename_i z hl
          obtain ⟨w, e2, r2⟩ := rl.get hl
          rw [rl.length] at e2
          exact mt_pop pins s σ H _ _ v us Q I rx rxs ⟨a, vs, w, rfl, rfl, q1, e2, wr_ok (l := l) hr eφ rl.dropLast r2 g⟩
        · exact (G.no_ g).elim
      | _ => exact (G.no_ g).elim
  · exact (G.no_ g).elim
theorem insert_ok : MtR X "list.insert" (rdM L insertD) := by
  intro pins s σ H x xs v us Q I rx rxs ⟨F, φ, h, d, ds, E, hr, rX, rs, g⟩
  unfold insertD at g
  split at g
  · cases rs with
    | cons r0 t =>
      obtain ⟨y, rfl, r1⟩ := t.one
      cases r0
      cases rX with
      | @ref n a eφ =>
        obtain ⟨o, e1, ro⟩ := hr.ro eφ
        rw [e1] at g
        cases ro with
        | @lst vs l q1 rl =>
          dsimp only at g
          split at g
          · rename_i i _ hl
            obtain ⟨h1, h2⟩ := Bool.and_eq_true_iff.mp hl
            obtain ⟨h3, h4⟩ := Bool.and_eq_true_iff.mp h2
            have b1 := blt_line h1
            have b2 := of_decide_eq_true h3
            have b3 := of_decide_eq_true h4
            have b4 := line63
            refine mt_insert pins s σ H _ _ v us Q I rx rxs ⟨a, vs, _, y, rfl, rfl, q1, by rw [← rl.length]; exact b1, b2, ?_, wr_ok (l := l) hr eφ (((rl.take _).snoc r1).append (rl.drop _)) .non g⟩
            have : ((2 : Int) ^ 63) = 9223372036854775808 := by decide
            rw [this]
            have c : (sizeLine : Nat) = 16777216 := by rw [sizeLine_eq]
            omega
          · exact (G.no_ g).elim
        | _ => exact (G.no_ g).elim
  · exact (G.no_ g).elim
theorem clear_ok : MtR X "list.clear" (rdM L clearD) := by
  intro pins s σ H x xs v us Q I rx rxs ⟨F, φ, h, d, ds, E, hr, rX, rs, g⟩
  unfold clearD at g
  split at g
  · cases rs
    cases rX with
    | @ref n a eφ =>
      obtain ⟨o, e1, ro⟩ := hr.ro eφ
      rw [e1] at g
      cases ro with
      | @lst vs l q1 rl => exact mt_clear pins s σ H _ _ v us Q I rx rxs ⟨a, vs, rfl, rfl, q1, wr_ok (l := l) hr eφ .nil .non g⟩
      | _ => exact (G.no_ g).elim
  · exact (G.no_ g).elim
theorem reverse_ok : MtR X "list.reverse" (rdM L reverseD) := by
  intro pins s σ H x xs v us Q I rx rxs ⟨F, φ, h, d, ds, E, hr, rX, rs, g⟩
  unfold reverseD at g
  split at g
  · cases rs
    cases rX with
    | @ref n a eφ =>
      obtain ⟨o, e1, ro⟩ := hr.ro eφ
      rw [e1] at g
      cases ro with
      | @lst vs l q1 rl => exact mt_reverse pins s σ H _ _ v us Q I rx rxs ⟨a, vs, rfl, rfl, q1, wr_ok (l := l) hr eφ rl.reverse .non g⟩
      | _ => exact (G.no_ g).elim
  · exact (G.no_ g).elim
theorem findD_ok {x : D} {n m : Nat} (hx : D.cmp n x = true) : ∀ {l : List D} {j : Nat}, D.cmps m l = true → findD x l = some j →
    ∃ z, (D.pds l)[j]? = some z ∧ PyData.eqv z x.pd = true ∧ ∀ (k : Nat) (w : PyData), k < j → (D.pds l)[k]? = some w → PyData.eqv w x.pd = false
  | [], _, _, e => by cases e
  | y :: r, j, c, e => by
    obtain ⟨c1, c2⟩ := Bool.and_eq_true_iff.mp (by simpa only [D.cmps] using c)
    have eq := eqv_pd y x m n c1 hx
    have e : (if D.eqv y x then some 0 else (findD x r).map (· + 1)) = some j := e
    by_cases hy : D.eqv y x = true
    · rw [if_pos hy] at e
      cases e
      exact ⟨y.pd, rfl, eq.trans hy, fun k w hk _ => absurd hk (Nat.not_lt_zero k)⟩
    · rw [if_neg hy] at e
      obtain ⟨i, e1, e2⟩ := Option.map_eq_some_iff.mp e
      subst e2
      obtain ⟨z, h1, h2, h3⟩ := findD_ok hx c2 e1
      refine ⟨z, h1, h2, fun k w hk hw => ?_⟩
      cases k with
      | zero =>
        have : w = y.pd := (Option.some.inj hw).symm
        subst this
        rw [eq]
        simpa using hy
      | succ k => exact h3 k w (Nat.lt_of_succ_lt_succ hk) hw
theorem lindex_ok (hK : X.K = L.K) (hu : X.A.units + 65 < cLine) : MtR X "list.index" (rdM L lindexD) := by
  intro pins s σ H x xs v us Q I rx rxs ⟨F, φ, h, d, ds, E, hr, rX, rs, g⟩
  unfold lindexD at g
  split at g
  · rename_i dx
    obtain ⟨y, rfl, r1⟩ := rs.one
    split at g
    · rename_i l hl
      obtain ⟨a, ws, rfl, q, t⟩ := listOf_ok hr rX hl
      unfold idxIn at g
      split at g
      · rename_i hc
        obtain ⟨c1, c2⟩ := Bool.and_eq_true_iff.mp hc
        split at g
        · rename_i j hj
          obtain ⟨z, h1, h2, h3⟩ := findD_ok c1 c2 hj
          have sl : SeqAt.shaped (.list (D.pds l)) = true := by
            have := cmp_shaped (d := .lst l) (n := 51) (by simpa [D.cmp] using c2) (by decide)
            simpa [D.pd] using this
          exact mt_indexD hu pins s σ H _ _ v us Q I rx rxs ⟨a, y, (shown dx h).pd, D.pds l, j, z, rfl, rfl, .lst (sqK hK q) (by rw [hK]; exact t.dps c2), by rw [hK]; exact shown_dp hr r1 c1, sl, cmp_shaped c1 (by decide), h1, h2, h3, G.ok g hr (.int _)⟩
        · exact (G.no_ g).elim
      · exact (G.no_ g).elim
    · exact (G.no_ g).elim
  · exact (G.no_ g).elim
/-- t.index(x), t of deep data -/
theorem mt_tindexD (hu : X.A.units + 65 < cLine) : MtR X "tuple.index" (fun x xs H Q => ∃ (a : Addr) (y : V) (d : PyData) (ds : List PyData) (j : Nat) (z : PyData), x = V.ref a ∧ xs = [y] ∧ Dp X.K H (V.ref a) (.tuple ds) ∧ Dp X.K H y d ∧
    SeqAt.shaped (.tuple ds) = true ∧ SeqAt.shaped d = true ∧ ds[j]? = some z ∧ PyData.eqv z d = true ∧ (∀ (m : Nat) (z' : PyData), m < j → ds[m]? = some z' → PyData.eqv z' d = false) ∧ Q (.int (j : Nat)) H) := by
  intro pins s σ H x xs v us Q I rx rxs h
  obtain ⟨a, y, d, ds, j, z, rfl, rfl, hl, hy, sl, sd, hz, hzj, hno, q⟩ := h
  cases rx
  cases rxs with
  | cons ry rt =>
    rename_i uy ut
    cases rt
    obtain ⟨bs, r1⟩ := Dp.reads I d y uy hy ry
    have hxs : PyData.canLayAll0 ds = true := SeqAt.canLay_of_shaped sl
    have hroom : X.A.units + 1 + min (PyData.depthAll ds) d.depth < cLine := by
      have h1 : (PyData.tuple ds).depth ≤ 64 := SeqAt.depth_of_shaped sl
      have h2 : d.depth ≤ 64 := SeqAt.depth_of_shaped sd
      have h3 : min (PyData.depthAll ds) d.depth ≤ d.depth := Nat.min_le_right _ _
      omega
    cases hl with
    | tup hs ha =>
      obtain ⟨its, rv, ⟨⟨cls, dd, data, sls⟩, ho, hc, n, hdt⟩, hlen⟩ := I.tuple hs
      simp only at hc hdt
      subst hc hdt
      obtain ⟨as, h4⟩ := Dp.readsAll I ds _ its ha rv
      have hn : its.length = ds.length := SeqAt.ReadsAll.length ds its as h4
      have hmap : its.map (SeqAt.readOf s.heap) = ds := SeqAt.readsAll_map ds its as hxs h4
      have hvl := rv.length
      have hsl := sizeLine_eq
      obtain ⟨hjd, _⟩ := List.getElem?_eq_some_iff.mp hz
      have hjl : j < its.length := by omega
      have hj : j < its.toArray.size := by simpa using hjl
      have at_ : ∀ (m : Nat) (hm : m < its.toArray.size) (z' : PyData), ds[m]? = some z' → SeqAt.readOf s.heap its.toArray[m] = z' := by
        intro m hm z' hz'
        have hml : m < its.length := by simpa using hm
        rw [← hmap, List.getElem?_map, List.getElem?_eq_getElem hml] at hz'
        have e1 : SeqAt.readOf s.heap its[m] = z' := Option.some.inj (show some (SeqAt.readOf s.heap its[m]) = some z' from hz')
        simpa using e1
      refine call_meets PySem.F.slot_tuple_index ⟨_, ho, rfl⟩ PySem.F.entry_tuple_index (PySem.F.args_tuple_index_2 _ _)
        (TI.tuple_indexAt a its.toArray n dd sls uy (fun u => PyData.eqv (SeqAt.readOf s.heap u) d) j hj ?_ ?_) ⟨ho, SeqAt.items_eqAt (vs := its.toArray) (show ReadsAll s.heap its.toArray.toList ds as from h4) r1 hxs (SeqAt.canLay_of_shaped sd) hroom, ?_⟩
      · show PyData.eqv (SeqAt.readOf s.heap its.toArray[j]) d = true
        rw [at_ j hj z hz]
        exact hzj
      · intro m hm hmj
        have hmd : m < ds.length := by omega
        have hz' : ds[m]? = some ds[m] := List.getElem?_eq_getElem hmd
        show PyData.eqv (SeqAt.readOf s.heap its.toArray[m]) d = false
        rw [at_ m hm _ hz']
        exact hno m _ hmj hz'
      · exact ⟨.int (j : Nat), H, I.tok _, ⟨_, rfl⟩, q⟩
theorem tindex_ok (hK : X.K = L.K) (hu : X.A.units + 65 < cLine) : MtR X "tuple.index" (rdM L tindexD) := by
  intro pins s σ H x xs v us Q I rx rxs ⟨F, φ, h, d, ds, E, hr, rX, rs, g⟩
  unfold tindexD at g
  split at g
  · rename_i dx l
    obtain ⟨y, rfl, r1⟩ := rs.one
    cases rX with
    | wtup e1 e2 e3 e4 e5 e6 t =>
      unfold idxIn at g
      split at g
      · rename_i hc
        obtain ⟨c1, c2⟩ := Bool.and_eq_true_iff.mp hc
        split at g
        · rename_i j hj
          obtain ⟨z, h1, h2, h3⟩ := findD_ok c1 c2 hj
          have sl : SeqAt.shaped (.tuple (D.pds l)) = true := by
            have := cmp_shaped (d := .tup l) (n := 51) (by simpa [D.cmp] using c2) (by decide)
            simpa [D.pd] using this
          exact mt_tindexD hu pins s σ H _ _ v us Q I rx rxs ⟨_, y, (shown dx h).pd, D.pds l, j, z, rfl, rfl, .tup (.inr ⟨_, _, _, by rw [hK]; exact e1, e2, e4, e5, e6⟩) (by rw [hK]; exact t.dps c2), by rw [hK]; exact shown_dp hr r1 c1, sl, cmp_shaped c1 (by decide), h1, h2, h3, G.ok g hr (.int _)⟩
        · exact (G.no_ g).elim
      · exact (G.no_ g).elim
  · exact (G.no_ g).elim
/-! ### slices -/
def rdSl (L : Lk) (m : Bool) : V → Option Int → Option Int → Hp → VK → Prop := fun x lo hi H Q => ∃ (F : Fm) (φ : List Addr) (h : HH) (d : D) (E : XK), HR L F φ h H ∧ Rel L F φ H d x ∧ GE L F φ H (sliceD m d lo hi h) Q E
theorem cut_ok {l : List D} {vs : List V} (lo hi : Option Int) (r : Rels L F φ H l vs) : Rels L F φ H (cutL l lo hi) (cutV vs lo hi) := by
  unfold cutL cutV
  rw [clip_eq_, clip_eq_, r.length]
  exact (r.drop _).take _
theorem cutV_whole {vs : List V} {lo hi : Option Int} (e : HT.sIx vs.length 0 lo = 0 ∧ HT.sIx vs.length vs.length hi = vs.length) : cutV vs lo hi = vs := by
  unfold cutV
  rw [e.1, e.2]
  simp
theorem slice_ok (hK : X.K = L.K) (m : Bool) : SlR X (rdSl L m) := by
  intro pins s σ H x v vl vu lo hi sl Q I rx hs pl pu ⟨F, φ, h, d, E, hr, rX, g⟩
  have tups : ∀ {a : Addr} {l : List D} {vs : List V}, x = .ref a → SqT L.K H a vs → Rels L F φ H l vs → GE L F φ H (.ok (.tup (cutL l lo hi)) h) Q E → ∃ T id, typeLookup (Value.type T) (Str.ofString "__getitem__") = pure (some (Value.builtin id)) ∧ s.TypeIs v T ∧ wpAny (model X.prog X.w) X.A (getItem v (.ref sl)) (EP X pins σ Q) X.xe s := fun {a l vs} ex sq t g => by
    subst ex
    refine sl_tupA pins s σ H _ v vl vu lo hi sl Q I rx hs pl pu ⟨a, vs, rfl, by rw [hK]; exact sq, fun e => ?_, fun _ p hp => ?_⟩
    · have c := cut_ok lo hi t
      rw [cutV_whole e] at c
      exact G.ok g hr (.tup sq c)
    · have x : XT φ H φ (upd H p (.tup (cutV vs lo hi))) := .fresh hp
      exact G.ok' g x (hr.fresh hp) (.tup (.inl (.inl upd_same)) ((cut_ok lo hi t).mono x))
  unfold sliceD at g
  split at g
  · cases rX with
    | tup sq t => exact tups rfl sq t g
  · cases rX with
    | wtup e1 e2 e3 e4 e5 e6 t => exact tups rfl (.inr ⟨_, _, _, e1, e2, e4, e5, e6⟩) t g
  · split at g
    · rename_i l hl
      obtain ⟨a, vs, rfl, q, t⟩ := listOf_ok hr rX hl
      exact sl_list pins s σ H _ v vl vu lo hi sl Q I rx hs pl pu ⟨a, vs, rfl, sqK hK q, (mkL_ok hr (cut_ok lo hi t) g).2⟩
    · exact (G.no_ g).elim
end
end MV

set_option maxRecDepth 100000
set_option maxHeartbeats 1000000
/-! VC: that own syntax says a text. -/
namespace MV
open PySem PySem.Spec PyProof.Rows L2
/-- the text's names -/
inductive SK where
  | glob | meth (c : Nat) | prop (c : Nat)
structure Tb where
  nm : List Str
  gn : List Str
  cn : List Str
  sn : List (SK × Str × Nat × List Str)
def isTupE : Expr → Bool
  | .Tuple _ _ _ => true
  | _ => false
def isLoc : Option NameKind → Bool
  | some .local => true
  | _ => false
def isLC : Option NameKind → Bool
  | some .local => true
  | some .cell => true
  | _ => false
def isVis : Option NameKind → Bool
  | some .local => true
  | some .cell => true
  | some .free => true
  | _ => false
def isGl : Option NameKind → Bool
  | some .globalImplicit => true
  | _ => false
def locB (sc : Scope) (x : Str) : Bool := isLoc (sc.names.lookup x)
def stoB (sc : Scope) (x : Str) : Bool := isLC (sc.names.lookup x)
def visB (sc : Scope) (x : Str) : Bool := isVis (sc.names.lookup x)
def glB (sc : Scope) (x : Str) : Bool := isGl (sc.names.lookup x) && !(x == ("__debug__" : Str))
/-- no star -/
def nsB : Expr → Bool
  | .Starred _ _ => false
  | _ => true
/-- no slice -/
def plB : Expr → Bool
  | .Slice _ _ _ _ => false
  | _ => true
/-- no comprehension -/
def ncB : Expr → Bool
  | .ListComp _ _ _ _ => false
  | .SetComp _ _ _ _ => false
  | .DictComp _ _ _ _ _ => false
  | _ => true
/-- no set display -/
def sdB : Expr → Bool
  | .Set _ _ _ => false
  | _ => true
/-- no call without arguments of a name (super) -/
def abB : Expr → Bool
  | .Call (.Name f _) [] [] _ => !decide (f = ("super" : Str))
  | _ => true
/-- tested by its truth alone -/
def trB : Expr → Bool
  | .UnaryOp .Not _ _ => false
  | .BoolOp _ _ _ => false
  | .IfExp _ _ _ _ => false
  | .Compare _ _ _ _ => false
  | _ => true
theorem sEach (x : Expr) (xs : List Expr) (env : PySem.Env) (h : nsB x = true) : starEach (x :: xs) env = (false, eval x env) :: starEach xs env := by
  cases x <;> first | rfl | cases h
theorem plIx (x : Expr) (h : plB x = true) : PlainIx x := by
  intro o i
  cases x <;> first | rfl | cases h
theorem ncSw (x : Expr) (t : Option Expr) (n : Nat) (env : PySem.Env) (h : ncB x = true) : swapsWith x t n env = pure false := by
  cases x <;> first | rfl | cases h
theorem sdIt (x : Expr) (env : PySem.Env) (h : sdB x = true) : ∀ v, foldedSetIterable x env v = pure v := by
  intro v
  cases x <;> first | rfl | cases h
theorem abBase (x : Expr) (f : Str) (env : PySem.Env) (w : Sem Value) (h : abB x = true) : attributeBase x f env w = w := by
  unfold abB at h
  split at h
  · rename_i id p pos
    unfold attributeBase
    dsimp only
    have e : (id != ("super" : Str)) = true := by
      rw [bne_iff_ne]
      intro z
      rw [z] at h
      simp at h
    rw [e]
    simp
  · rename_i hx
    unfold attributeBase
    split
    · rename_i id p pos
      exact absurd rfl (hx _ _ _)
    · rfl
theorem trTest (x : Expr) (env : PySem.Env) (h : trB x = true) : ∀ whole, isTrue x env whole = (do let v ← whole; standAt x.pos; holding [v] (truthy v)) := by
  intro whole
  cases x with
  | UnaryOp op a p =>
    cases op <;> first | rfl | cases h
  | _ => first | rfl | cases h
/-- no star anywhere -/
def nsAll : List Expr → Bool
  | [] => true
  | x :: xs => nsB x && nsAll xs
theorem nsPlain (pos : Pos) (env : PySem.Env) : ∀ xs : List Expr, nsAll xs = true → (backTo pos (starEach xs env)).any (·.1) = false
  | [], _ => rfl
  | x :: xs, h => by
    obtain ⟨h1, h2⟩ := Bool.and_eq_true_iff.mp (show (nsB x && nsAll xs) = true from h)
    rw [sEach x xs env h1]
    show (false || (backTo pos (starEach xs env)).any (·.1)) = false
    rw [nsPlain pos env xs h2]
    rfl
theorem nsFew (pos : Pos) (env : PySem.Env) : ∀ xs : List Expr, nsAll xs = true → (backTo pos (starEach xs env)).all (fun x => !x.1) = true
  | [], _ => rfl
  | x :: xs, h => by
    obtain ⟨h1, h2⟩ := Bool.and_eq_true_iff.mp (show (nsB x && nsAll xs) = true from h)
    rw [sEach x xs env h1]
    show (true && (backTo pos (starEach xs env)).all (fun x => !x.1)) = true
    rw [nsFew pos env xs h2]
    rfl
/-- a name's store by a comprehension swaps -/
def swB (sc : Scope) (t : Str) (tp : Pos) : Expr → Bool
  | .ListComp _ _ s p => locB sc t && (tp.line == p.line) && !(s.names.any fun (n, k) => n == t && (k == .local || k == .cell))
  | _ => false
/-- .. does not -/
def nswB (sc : Scope) (t : Str) (tp : Pos) (y : Expr) : Bool := ncB y || match y with
  | .ListComp _ _ s p => !locB sc t || !(tp.line == p.line)
  | _ => false
def bltName : Blt → Str
  | .len => "len"
  | .abs => "abs"
  | .int => "int"
  | .list => "list"
  | .tuple => "tuple"
  | .sum => "sum"
  | .any => "any"
  | .all => "all"
  | .min => "min"
  | .max => "max"
  | .sorted => "sorted"
def bmName : BM → Str
  | .append => "append"
  | .pop => "pop"
  | .insert => "insert"
  | .clear => "clear"
  | .index => "index"
  | .reverse => "reverse"
def tyName (cn : List Str) : Ty → Str
  | .int => "int"
  | .bool => "bool"
  | .str => "str"
  | .list => "list"
  | .tuple => "tuple"
  | .dict => "dict"
  | .cls c => cn.getD c "?"
def constOk : D → Const → Bool
  | .non, .none => true
  | .bl a, .bool b => a == b
  | .int i, .int j => decide (i = j)
  | .str s, .str t => decide (s = t)
  | _, _ => false
/-- the slots that a target stores -/
def tgSlots : E → List Nat
  | .t_n i => [i]
  | .t_t es => tgSlots es
  | .cons a b => tgSlots a ++ tgSlots b
  | _ => []
def ownOf (N : List Str) (own : List Nat) : List (Str × Nat) := own.map fun i => (N.getD i "", i)
section
variable (T : Tb) (N : List Str)
def ckTys : List Ty → List Expr → Bool
  | [], [] => true
  | t :: ts, .Name x _ :: xs => (decide (tyName T.cn t = x) && (match t with
    | .cls i => T.cn[i]?.isSome
    | _ => true)) && ckTys ts xs
  | _, _ => false
mutual
def ck : E → Scope → Expr → Bool
  | .v i, sc, e => (match e with
    | .Name x _ => decide (N[i]? = some x) && (visB sc x && (!(x == ("__debug__" : Str)) && !(x == ("__classdict__" : Str))))
    | _ => false)
  | .c d, sc, e => (match e with
    | .Constant k _ _ => constOk d k
    | _ => false)
  | .g k, sc, e => (match e with
    | .Name x _ => decide (T.gn[k]? = some x) && glB sc x
    | _ => false)
  | .bin op m a b, sc, e => (match e with
    | .BinOp x o y _ => decide (op = o) && (ck a sc x && ck b sc y)
    | _ => false)
  | .neg a, sc, e => (match e with
    | .UnaryOp .USub x _ => ck a sc x
    | _ => false)
  | .cmp op a b, sc, e => (match e with
    | .Compare x [o] [y] _ => decide (op = o) && (ck a sc x && (ck b sc y && !behindInMarks op y))
    | _ => false)
  | .chain o p a b d, sc, e => (match e with
    | .Compare x [o', p'] [y, z] _ => decide (o = o') && (decide (p = p') && (ck a sc x && (ck b sc y && (ck d sc z && !behindInMarks p z))))
    | _ => false)
  | .band a b, sc, e => (match e with
    | .BoolOp .And (x :: y :: r) p => ck a sc x && ck b sc (.BoolOp .And (y :: r) p)
    | _ => false)
  | .bor a b, sc, e => (match e with
    | .BoolOp .Or (x :: y :: r) p => ck a sc x && ck b sc (.BoolOp .Or (y :: r) p)
    | _ => false)
  | .b1 a, sc, e => (match e with
    | .BoolOp _ [x] _ => ck a sc x
    | _ => false)
  | .bnot a, sc, e => (match e with
    | .UnaryOp .Not x _ => ck a sc x
    | _ => false)
  | .ife t a b, sc, e => (match e with
    | .IfExp z x y _ => ck t sc z && (ck a sc x && ck b sc y)
    | _ => false)
  | .tup es, sc, e => (match e with
    | .Tuple l _ _ => cks es sc l
    | _ => false)
  | .lst m es, sc, e => (match e with
    | .List l _ => cks es sc l
    | _ => false)
  | .dct, sc, e => (match e with
    | .Dict [] [] _ => true
    | _ => false)
  | .ix a i, sc, e => (match e with
    | .Subscript x y _ => plB y && (ck a sc x && ck i sc y)
    | _ => false)
  | .sl m a lo hi, sc, e => (match e with
    | .Subscript x (.Slice l u none _) _ => ck a sc x && ((match l with
      | none => lo.isNil
      | some l => !lo.isNil && ck lo sc l) && (match u with
      | none => hi.isNil
      | some u => !hi.isNil && ck hi sc u))
    | _ => false)
  | .rev m a, sc, e => (match e with
    | .Subscript x (.Slice none none (some (.UnaryOp .USub (.Constant (.int 1) _ _) _)) _) _ => ck a sc x
    | _ => false)
  | .call ad j es, sc, e => (match e with
    | .Call (.Name f _) args [] _ => (match T.sn[j]? with
      | some (.glob, g, n, []) => decide (f = g) && (glB sc f && (nsAll args && (cks es sc args && decide (args.length = n))))
      | _ => false)
    | _ => false)
  | .callk ad j es ks, sc, e => (match e with
    | .Call (.Name f _) args kws _ => (match T.sn[j]? with
      | some (.glob, g, n, names) => decide (f = g) && (glB sc f && (nsAll args && (cks es sc args && (ckK ks sc kws names && decide (args.length = n)))))
      | _ => false)
    | _ => false)
  | .meth ad mi o alts es, sc, e => (match e with
    | .Call (.Attribute x m apos) args [] cpos => decide (T.nm[mi]? = some m) && (abB x && ((apos.endLine == cpos.line) && (nsAll args && (decide (args.length < 20) && ((alts.all fun p => match T.sn[p.2]? with
      | some (.meth c, m', n, []) => decide (p.1 = c) && (decide (m' = m) && decide (args.length + 1 = n))
      | _ => false) && (ck o sc x && cks es sc args))))))
    | _ => false)
  | .att o k alts, sc, e => (match e with
    | .Attribute x f _ => decide (T.nm[k]? = some f) && (abB x && ((alts.all fun p => match T.sn[p.2]? with
      | some (.prop c, f', 1, []) => decide (p.1 = c) && decide (f' = f)
      | _ => false) && ck o sc x))
    | _ => false)
  | .blt m b es, sc, e => (match e with
    | .Call (.Name f _) (x :: xs) [] _ => decide (f = bltName b) && (glB sc f && (nsAll (x :: xs) && cks es sc (x :: xs)))
    | _ => false)
  | .isi x ts, sc, e => (match e with
    | .Call (.Name f _) [y, t] [] _ => decide (f = ("isinstance" : Str)) && (glB sc f && (nsB y && (ck x sc y && (match t with
      | .Tuple l _ _ => Nat.ble ts.length 20 && (ckTys T ts l && l.all fun z => match z with
        | .Name n _ => glB sc n
        | _ => false)
      | .Name n _ => ckTys T ts [Expr.Name n ⟨0, 0, 0, 0⟩] && glB sc n
      | _ => false))))
    | _ => false)
  | .bm b o es, sc, e => (match e with
    | .Call (.Attribute x m apos) args [] cpos => decide (m = bmName b) && (abB x && ((apos.endLine == cpos.line) && (nsAll args && (decide (args.length < 20) && (ck o sc x && cks es sc args)))))
    | _ => false)
  | .comp m own tg it ifs el, sc, e => (match e with
    | .ListComp elt [⟨t, i, cs, 0⟩] scope _ => blkC N sc scope (ownOf N own) && (sdB i && ((tgSlots tg).all (own.contains ·) && (ckG tg (fun x => scope.names.lookup x == some .cell) (relS scope sc) t && (ckI it t sc i && (ckF ifs (relS scope sc) cs && ck el (relS scope sc) elt)))))
    | _ => false)
  | _, _, _ => false
def cks : E → Scope → List Expr → Bool
  | .nil, sc, l => (match l with
    | [] => true
    | _ => false)
  | .cons e es, sc, l => (match l with
    | x :: xs => nsB x && (ck e sc x && cks es sc xs)
    | _ => false)
  | .star e es, sc, l => (match l with
    | .Starred x _ :: xs => ck e sc x && cks es sc xs
    | _ => false)
  | _, _, _ => false
/-- the keywords of a call -/
def ckK : E → Scope → List Keyword → List Str → Bool
  | .nil, sc, l, ns => (match l, ns with
    | [], [] => true
    | _, _ => false)
  | .cons e es, sc, l, ns => (match l, ns with
    | ⟨nm, x, _⟩ :: xs, n :: ns => decide (nm = some n) && (ck e sc x && ckK es sc xs ns)
    | _, _ => false)
  | _, _, _, _ => false
/-- the tests of a comprehension -/
def ckF : E → Scope → List Expr → Bool
  | .nil, sc, l => (match l with
    | [] => true
    | _ => false)
  | .cons e es, sc, l => (match l with
    | [x] => ck e sc x
    | _ => false)
  | _, _, _ => false
def ckI : E → Expr → Scope → Expr → Bool
  | .i_e a, _, sc, e => ck a sc e
  | .i_r1 a, _, sc, e => (match e with
    | .Call (.Name f _) [x] [] _ => decide (f = ("range" : Str)) && (glB sc f && (nsB x && ck a sc x))
    | _ => false)
  | .i_r2 a b, _, sc, e => (match e with
    | .Call (.Name f _) [x, y] [] _ => decide (f = ("range" : Str)) && (glB sc f && (nsB x && (nsB y && (ck a sc x && ck b sc y))))
    | _ => false)
  | .i_en a, t, sc, e => (match e with
    | .Call (.Name f _) [x] [] _ => decide (f = ("enumerate" : Str)) && (isTupE t && (glB sc f && (nsB x && ck a sc x)))
    | _ => false)
  | .i_zip a b, t, sc, e => (match e with
    | .Call (.Name f _) [x, y] [] _ => decide (f = ("zip" : Str)) && (isTupE t && (glB sc f && (nsB x && (nsB y && (ck a sc x && ck b sc y)))))
    | _ => false)
  | _, _, _, _ => false
def ckG : E → (Str → Bool) → Scope → Expr → Bool
  | .t_n i, fn, sc, e => (match e with
    | .Name x _ => decide (N[i]? = some x) && (locB sc x || (fn x && stoB sc x))
    | _ => false)
  | .t_t ts, fn, sc, e => (match e with
    | .Tuple l _ _ => nsAll l && ckGs ts fn sc l
    | _ => false)
  | .t_s o i, fn, sc, e => (match e with
    | .Subscript x y _ => plB y && (ck o sc x && ck i sc y)
    | _ => false)
  | _, _, _, _ => false
def ckGs : E → (Str → Bool) → Scope → List Expr → Bool
  | .nil, fn, sc, l => (match l with
    | [] => true
    | _ => false)
  | .cons e es, fn, sc, l => (match l with
    | x :: xs => ckG e fn sc x && ckGs es fn sc xs
    | _ => false)
  | _, _, _, _ => false
end
/-- stores in a row -/
def ssB (sc : Scope) (t : Expr) (v : Expr) : Bool := match t, v with
  | .Tuple ts _ _, .Tuple vs _ _ => (!(ts.length == 2 || ts.length == 3) || vs.length != ts.length) || ts.any fun t => match t with
    | .Name x _ => !locB sc x
    | _ => true
  | .List _ _, _ => false
  | _, _ => true
def S.basic : S → Bool
  | .skip => false
  | .seq _ _ => false
  | _ => true
def augB : Operator → Bool
  | .Add => true
  | .Sub => true
  | .Mult => true
  | _ => false
def ckPar (sc : Scope) : List Nat → List Expr → Nat → Bool
  | [], [], _ => true
  | i :: is, .Name x p :: ts, l => decide (N[i]? = some x) && (locB sc x && ((p.line == l) && ckPar sc is ts l))
  | _, _, _ => false
/-- a target's name's line -/
def lineOf : List Expr → Nat
  | e :: _ => e.pos.line
  | [] => 0
def ckS : S → Scope → List Stmt → Bool
  | .skip, sc, l => (match l with
    | [] => true
    | _ => false)
  | .seq s t, sc, l => (match l with
    | x :: xs => s.basic && (ckS s sc [x] && ckS t sc xs)
    | _ => false)
  | .ex e, sc, l => (match l with
    | [.Expr x _] => ncB x && ck T N e sc x
    | _ => false)
  | .asg t e, sc, l => (match l with
    | [.Assign [x] y p] => (match x, t with
      | .Name n q, .t_n i => decide (N[i]? = some n) && (stoB sc n && (ck T N e sc y && (nswB sc n q y || swB sc n q y)))
      | .Attribute z f _, .t_a o k => decide (T.nm[k]? = some f) && (ncB y && (ck T N o sc z && ck T N e sc y))
      | _, _ => ncB y && (ssB sc x y && (ckG T N t (fun _ => true) sc x && ck T N e sc y)))
    | _ => false)
  | .par ns es, sc, l => (match l with
    | [.Assign [.Tuple ts _ _] (.Tuple vs _ _) _] => ckPar N sc ns ts (lineOf ts) && (cks T N es sc vs && (nsAll vs && (decide (vs.length = ns.length) && (!(vs.all (constantsAlone 8)) && (!(vs.all (foldedForSure 8)) && (decide ns.Nodup && (ns.length == 2 || ns.length == 3)))))))
    | _ => false)
  | .aug i op e, sc, l => (match l with
    | [.AugAssign (.Name x _) o y _] => decide (N[i]? = some x) && (stoB sc x && (augB op && (decide (o = op) && ck T N e sc y)))
    | _ => false)
  | .ite c s t, sc, l => (match l with
    | [.If x a b _] => ck T N c sc x && (ckS s sc a && ckS t sc b)
    | _ => false)
  | .loop t it b, sc, l => (match l with
    | [.For x y a [] _] => sdB y && (ckG T N t (fun _ => true) sc x && (ckI T N it x sc y && ckS b sc a))
    | _ => false)
  | .whil c b, sc, l => (match l with
    | [.While x a [] _] => ck T N c sc x && ckS b sc a
    | _ => false)
  | .ret e, sc, l => (match l with
    | [.Return (some x) _] => ck T N e sc x
    | _ => false)
  | .retN, sc, l => (match l with
    | [.Return none _] => true
    | _ => false)
  | .brk, sc, l => (match l with
    | [.Break _] => true
    | _ => false)
  | .cnt, sc, l => (match l with
    | [.Continue _] => true
    | _ => false)
  | .pass, sc, l => (match l with
    | [.Pass _] => true
    | _ => false)
  | .rais _ _, sc, l => (match l with
    | [.Raise _ _ _] => true
    | _ => false)
end
end MV

set_option maxRecDepth 100000
set_option maxHeartbeats 1000000
/-! VD: calls. -/
namespace MV
open PySem PySem.Spec PyProof.Rows L2
section
variable {L : Lk} {F : Fm} {φ φ1 : List Addr} {H H1 : Hp} {h h1 : HH} {Q : VK} {E : XK}
/-- the frame of a call that keeps to its own heap -/
def Fm.sub (F : Fm) (φ : List Addr) : Fm := ⟨fun a => F.no a ∨ a ∈ φ, fun a => F.bo a ∨ a ∈ φ⟩
theorem HR.sub (x : HR L F φ h H) : HR L (F.sub φ) [] [] H := by
  refine ⟨rfl, .nil, fun n a o q => by simp at q, fun a m => by simp at m, fun a m => ?_, fun a m => m.imp (x.bn a) id⟩
  rcases m with m | m
  · exact x.trk a m
  · obtain ⟨u, q, _⟩ := x.trkφ m
    exact ⟨u, q⟩
theorem to_sub : ∀ a o, H a = some o → a ∉ φ → ¬ F.no a → a ∉ ([] : List Addr) ∧ ¬ (F.sub φ).no a := fun a o _ n f => ⟨by simp, fun z => z.elim f n⟩
theorem of_sub {ψ : List Addr} : ∀ a o, H a = some o → a ∉ ψ → ¬ (F.sub φ).no a → a ∉ φ ∧ ¬ F.no a := fun a o _ _ f => ⟨fun z => f (.inr z), fun z => f (.inl z)⟩
theorem lend_flat {d e : D} (hd : ∀ n, d ≠ .ref n) (hb : ∀ l, d ≠ .bor l) (q : lend h d = some e) : e = d ∧ D.flat d = true := by
  have z : lend h d = if D.flat d then some d else none := by
    cases d <;> first | rfl | exact absurd rfl (hd _) | exact absurd rfl (hb _)
  rw [z] at q
  split at q
  · rename_i c
    exact ⟨(Option.some.inj q).symm, c⟩
  · cases q
theorem lend_ok (x : HR L F φ h H) {d e : D} {v : V} (r : Rel L F φ H d v) (q : lend h d = some e) : Rel L (F.sub φ) [] H e v := by
  cases r with
  | @ref n a eφ =>
    obtain ⟨o, e1, ro⟩ := x.ro eφ
    have q : (match h[n]? with
      | some (.lst l) => if D.flats l then some (.bor l) else none
      | _ => none) = some e := q
    rw [e1] at q
    cases ro with
    | lst q2 rl =>
      dsimp only at q
      split at q
      · rename_i c
        cases q
        exact .bor (.inl q2) (by simp) (.inr (List.mem_of_getElem? eφ)) (Rels.to to_sub rl c)
      · cases q
    | _ => cases q
  | @borK a o its n vs ds e1 e2 e3 e4 e5 e6 rl =>
    have q : (if D.flats ds then some (D.bor ds) else none) = some e := q
    split at q
    · rename_i c
      cases q
      exact .borK e1 e2 e3 e4 e5 e6 (Rels.to to_sub rl c)
    · cases q
  | @bor a vs ds e1 n b rl =>
    have q : (if D.flats ds then some (D.bor ds) else none) = some e := q
    split at q
    · rename_i c
      cases q
      exact .bor e1 (by simp) (.inl b) (Rels.to to_sub rl c)
    · cases q
  | _ =>
    obtain ⟨e1, c⟩ := lend_flat (by intro _ z; cases z) (by intro _ z; cases z) q
    subst e1
    exact Rel.to to_sub (by constructor <;> assumption) c
theorem lends_ok (x : HR L F φ h H) : ∀ {ds es : List D} {vs : List V}, Rels L F φ H ds vs → lends h ds = some es → Rels L (F.sub φ) [] H es vs
  | [], _, _, .nil, q => by
    cases q
    exact .nil
  | d :: r, es, _, .cons rd t, q => by
    have q : (match lend h d, lends h r with
      | some e, some l => some (e :: l)
      | _, _ => none) = some es := q
    split at q
    · rename_i e l q1 q2
      cases q
      exact .cons (lend_ok x rd q1) (lends_ok x t q2)
    · cases q
/-- behind a call that kept to its own heap -/
theorem XT.back (t : XT [] H φ1 H1) : XT φ H φ H1 := ⟨⟨[], by simp, by simp⟩, fun a o e _ => t.keep a o e (by simp), t.tup, t.frz, t.trk⟩
theorem HR.back (x : HR L F φ h H) (t : XT [] H φ1 H1) : HR L F φ h H1 := by
  refine ⟨x.len, x.nod, fun n a o q w => ?_, x.own, fun a m => ?_, x.bn⟩
  · have r := x.at_ n a o q w
    obtain ⟨u, hu, _⟩ := r.has
    exact r.mono t.back ((t.keep a u hu (by simp)).trans hu.symm)
  · obtain ⟨u, q⟩ := x.trk a m
    exact t.trk a u q
theorem HR.adopt {a : Addr} {w : O} (x : HR L F φ h H) (hn : H a = none) (tb : XT φ H (φ ++ [a]) H1) (kp : ∀ b o, H b = some o → H1 b = some o) (r : RO L F (φ ++ [a]) H1 a w) : HR L F (φ ++ [a]) (h ++ [w]) H1 := by
  refine ⟨by simp [x.len], ?_, fun n b u q z => ?_, fun b m => ?_, fun b m => ?_, x.bn⟩
  · rw [List.nodup_append]
    refine ⟨x.nod, by simp, fun b hb c hc => ?_⟩
    rw [List.mem_singleton.mp hc]
    rintro rfl
    exact x.nin hn hb
  · by_cases hl : n < φ.length
    · rw [List.getElem?_append_left hl] at q
      rw [List.getElem?_append_left (by rw [← x.len]; exact hl)] at z
      have r0 := x.at_ n b u q z
      obtain ⟨y, hy, _⟩ := r0.has
      exact r0.mono tb ((kp b y hy).trans hy.symm)
    · have l := (List.getElem?_eq_some_iff.mp q).1
      rw [List.length_append, List.length_singleton] at l
      have en : n = φ.length := by omega
      subst en
      rw [List.getElem?_append_right (Nat.le_refl _), Nat.sub_self] at q
      have q' : a = b := Option.some.inj q
      subst q'
      rw [x.len, List.getElem?_append_right (Nat.le_refl _), Nat.sub_self] at z
      have z' : w = u := Option.some.inj z
      subst z'
      exact r
  · rcases List.mem_append.mp m with m | m
    · exact x.own b m
    · rw [List.mem_singleton.mp m]
      exact x.nF hn
  · obtain ⟨u, q⟩ := x.trk b m
    exact ⟨u, kp b u q⟩
theorem takeOut_flat {d : D} {r : Ret} (hd : ∀ n, d ≠ .ref n) (q : takeOut d h = some r) : r = .val d ∧ D.flat d = true := by
  have z : takeOut d h = if D.flat d then some (.val d) else none := by
    cases d <;> first | rfl | exact absurd rfl (hd _)
  rw [z] at q
  split at q
  · rename_i c
    exact ⟨(Option.some.inj q).symm, c⟩
  · cases q
theorem out_ok (x : HR L F φ h H) (t : XT [] H φ1 H1) (y : HR L (F.sub φ) φ1 h1 H1) {d : D} {v : V} (r : Rel L (F.sub φ) φ1 H1 d v) {ret : Ret} (q : takeOut d h1 = some ret) {ad : Bool} (g : GE L F φ H (retD ad ret h) Q E) : Q v H1 := by
  cases r with
  | @ref n a eφ =>
    obtain ⟨o, e1, ro⟩ := y.ro eφ
    have q : (match h1[n]? with
      | some (.lst l) => if D.flats l then some (.newl l) else none
      | _ => none) = some ret := q
    rw [e1] at q
    cases ro with
    | lst q2 rl =>
      dsimp only at q
      split at q
      · rename_i c
        cases q
        have rl' := Rels.to (F' := F) (ψ := φ) of_sub rl c
        have hn : H a = none := by
          obtain ⟨more, e2, e3⟩ := t.pre
          rw [List.nil_append] at e2
          subst e2
          exact e3 a (List.mem_of_getElem? eφ)
        have xb := x.back t
        cases ad with
        | false => exact G.ok' g t.back xb (.lst q2 (x.nin hn) (x.nF hn) rl')
        | true =>
          have ma : a ∈ φ1 := List.mem_of_getElem? eφ
          have tb : XT φ H (φ ++ [a]) H1 := ⟨⟨[a], rfl, fun p hp => by
            rw [List.mem_singleton.mp hp]
            exact hn⟩, fun b o e _ => t.keep b o e (by simp), t.tup, t.frz, t.trk⟩
          have rl2 := Rels.to (F := F.sub φ) (φ := φ1) (F' := F) (ψ := φ ++ [a]) (fun b o _ nb fb => ⟨fun z => by
            rcases List.mem_append.mp z with z | z
            · exact fb (.inr z)
            · rw [List.mem_singleton.mp z] at nb
              exact nb ma, fun z => fb (.inl z)⟩) rl c
          refine G.ok' g tb (x.adopt hn tb (fun b o e => t.keep b o e (by simp)) (.lst q2 rl2)) (.ref ?_)
          rw [← x.len, List.getElem?_append_right (Nat.le_refl _), Nat.sub_self]
          rfl
      · cases q
    | _ => cases q
  | borK _ _ _ _ _ _ _ => exact absurd (takeOut_flat (by intro _ z; cases z) q).2 (by simp [D.flat])
  | bor _ _ _ _ => exact absurd (takeOut_flat (by intro _ z; cases z) q).2 (by simp [D.flat])
  | _ =>
    obtain ⟨e1, c⟩ := takeOut_flat (by intro _ z; cases z) q
    subst e1
    exact G.ok' g t.back (x.back t) (Rel.to (φ := φ1) (of_sub (ψ := φ1)) (by constructor <;> assumption) c)
/-! ### promises -/
/-- a def's body by its run -/
def spB (L : Lk) (P : Prog) (orc : Orc) (f : Fn) : Sp := fun vs H Q E => ∃ (F : Fm) (φ : List Addr) (h : HH) (ds : List D), HR L F φ h H ∧ Rels L F φ H ds vs ∧ GE L F φ H (body P orc f ds h) Q E
theorem spB_len {P : Prog} {orc : Orc} {f : Fn} {vs : List V} (s : spB L P orc f vs H Q E) : vs.length = f.np := by
  obtain ⟨F, φ, h, ds, x, r, g⟩ := s
  unfold body at g
  split at g
  · rename_i e
    rw [← r.length]
    exact beq_iff_eq.mp e
  · exact (G.no_ g).elim
/-- a call by values, in the context X -/
def CallV (L : Lk) (P : Prog) (orc : Orc) (X : Cx) (W : WX) (f : Addr) (n : Nat) (ks : List Str) (j : Nat) : Prop :=
  ∀ (ad : Bool) (pins : List (Addr × Obj)) (s : Shared) (σ : L2.St) (H : Hp) (vs zs : List V) (us ws : List Value) (Q : VK) (F : Fm) (φ : List Addr) (h : HH) (ds : List D),
    Inv X pins σ H s → Vals vs us → Vals zs ws → vs.length = n → zs.length = ks.length → HR L F φ h H → Rels L F φ H ds (vs ++ zs) → GE L F φ H (callJ P orc ad j ds h) Q (fun c d H' => W c d σ H') →
    wpAny (model X.prog X.w) X.A (call (.ref f) us (ks.zip ws)) (EP X pins σ Q) X.xe s
theorem pureGE {P : Prog} {orc : Orc} {f : Fn} {ds : List D} {vs : List V} {ad : Bool} (x : HR L F φ h H) (r : Rels L F φ H ds vs) (g : GE L F φ H ((pureRun P orc f ds h).bind fun r h1 => retD ad r h1) Q E) : spB L P orc f vs H Q E := by
  unfold pureRun at g
  split at g
  · rename_i es he
    refine ⟨F.sub φ, [], [], es, x.sub, lends_ok x r he, ?_⟩
    split at g
    · rename_i d h1 hb
      rw [hb]
      split at g
      · rename_i ret hr
        exact fun φ1 H1 v t y rv => out_ok x t y rv hr g
      · exact (G.no_ g).elim
    · rename_i c ks vs _ hb
      rw [hb]
      split at g
      · rename_i cf
        intro φ1 H1 cls dd t y xr
        refine g φ H1 cls dd t.back (x.back t) ?_
        obtain ⟨a, fs, h1, h2, h3, h4, h5⟩ := xr
        exact ⟨a, fs, h1, h2, h3, h4, Rels.to (φ := φ1) (of_sub (ψ := φ1)) h5 cf⟩
      · exact (G.no_ g).elim
    · exact (G.no_ g).elim
  · exact (G.no_ g).elim
theorem bodyGE {P : Prog} {orc : Orc} {f : Fn} {ds : List D} {vs : List V} {ad : Bool} (x : HR L F φ h H) (r : Rels L F φ H ds vs) (g : GE L F φ H (((body P orc f ds h).bind fun d h1 => R.ok (Ret.val d) h1).bind fun r h1 => retD ad r h1) Q E) : spB L P orc f vs H Q E := by
  refine ⟨F, φ, h, ds, x, r, ?_⟩
  cases hb : body P orc f ds h with
  | ok d h1 =>
    rw [hb] at g
    exact g
  | exc c ks vs h1 =>
    rw [hb] at g
    exact g
  | no =>
    rw [hb] at g
    exact g
/-- a new frozen instance -/
theorem makeGE {P : Prog} {orc : Orc} {f : Fn} {ds : List D} {vs : List V} {ad : Bool} {c : Nat} (x : HR L F φ h H) (r : Rels L F φ H ds vs) (g : GE L F φ H ((makeRun P orc c f ds h).bind fun r h1 => retD ad r h1) Q E)
    {p dx : Addr} (hp : H p = none) (hd : H dx = none) (ne : dx ≠ p) : spB L P orc f (.ref p :: vs) (upd (upd H dx (.own p)) p (.ins (L.cl c) dx [])) (fun v H2 => v = .non ∧ Q (.ref p) H2) E := by
  unfold makeRun at g
  split at g
  · rename_i es he
    have xs := x.sub
    have hp' : upd H dx (.own p) p = none := by rw [upd_ne (Ne.symm ne)]; exact hp
    have t0 : XT [] H [p] (upd (upd H dx (.own p)) p (.ins (L.cl c) dx [])) := (XT.fresh (φ := []) hd).trans (XT.grow (φ := []) hp')
    have y0 : HR L (F.sub φ) [p] [.ins c [] []] (upd (upd H dx (.own p)) p (.ins (L.cl c) dx [])) := HR.grow (φ := []) (h := []) (xs.fresh hd) hp' (.ins upd_same rfl .nil)
    refine ⟨F.sub φ, [p], [.ins c [] []], .ref 0 :: es, y0, .cons (.ref rfl) ((lends_ok x r he).mono t0), ?_⟩
    split at g
    · rename_i d h1 hb
      rw [hb]
      intro φ1 H1 v t y rv
      have t1 := t0.trans t
      unfold made at g
      split at g
      · rename_i c' ks fs rest
        cases rv
        refine ⟨rfl, ?_⟩
        split at g
        · rename_i cf
          have p0 : φ1[0]? = some p := t.get rfl
          have ro := y.at_ 0 p _ p0 rfl
          cases ro with
          | @ins dy gs _ _ _ q1 q2 q3 =>
            have tb : XT φ H φ H1 := t1.back
            have nn : p ∉ φ := x.nin hp
            exact G.ok' g tb (x.back t1) (.obj q1 nn (x.nF hp) q2 (Rels.to (φ := φ1) (of_sub (ψ := φ1)) q3 cf))
        · exact (G.no_ g).elim
      · exact (G.no_ g).elim
    · rename_i c' ks fs _ hb
      rw [hb]
      split at g
      · rename_i cf
        intro φ1 H1 cls dd t y xr
        have t1 := t0.trans t
        refine g φ H1 cls dd t1.back (x.back t1) ?_
        obtain ⟨a, fs', h1, h2, h3, h4, h5⟩ := xr
        exact ⟨a, fs', h1, h2, h3, h4, Rels.to (φ := φ1) (of_sub (ψ := φ1)) h5 cf⟩
      · exact (G.no_ g).elim
    · exact (G.no_ g).elim
  · exact (G.no_ g).elim
/-- a new instance of ours -/
theorem makeGE2 {P : Prog} {orc : Orc} {f : Fn} {ds : List D} {vs : List V} {ad : Bool} {c : Nat} (x : HR L F φ h H) (r : Rels L F φ H ds vs)
    (g : GE L F φ H (((body P orc f (.ref h.length :: ds) (h ++ [.ins c [] []])).bind fun d h1 => match d with
        | .non => R.ok (Ret.val (.ref h.length)) h1
        | _ => R.no).bind fun r h1 => retD ad r h1) Q E)
    {p dx : Addr} (hp : H p = none) (hd : H dx = none) (ne : dx ≠ p) : spB L P orc f (.ref p :: vs) (upd (upd H dx (.own p)) p (.ins (L.cl c) dx [])) (fun v H2 => v = .non ∧ Q (.ref p) H2) E := by
  have hp' : upd H dx (.own p) p = none := by rw [upd_ne (Ne.symm ne)]; exact hp
  have t0 : XT φ H (φ ++ [p]) (upd (upd H dx (.own p)) p (.ins (L.cl c) dx [])) := (XT.fresh hd).trans (XT.grow hp')
  have y0 : HR L F (φ ++ [p]) (h ++ [.ins c [] []]) (upd (upd H dx (.own p)) p (.ins (L.cl c) dx [])) := HR.grow (x.fresh hd) hp' (.ins upd_same rfl .nil)
  have e0 : (φ ++ [p])[h.length]? = some p := by
    rw [← x.len, List.getElem?_append_right (Nat.le_refl _), Nat.sub_self]
    rfl
  refine ⟨F, φ ++ [p], h ++ [.ins c [] []], .ref h.length :: ds, y0, .cons (.ref e0) (r.mono t0), ?_⟩
  cases hb : body P orc f (.ref h.length :: ds) (h ++ [.ins c [] []]) with
  | ok d h1 =>
    rw [hb] at g
    intro φ1 H1 v t y rv
    cases rv with
    | non => exact ⟨rfl, G.ok' g (t0.trans t) y (.ref (t.get e0))⟩
    | _ => exact (G.no_ g).elim
  | exc c' ks vs' h1 =>
    rw [hb] at g
    exact GX.mono t0 g
  | no =>
    rw [hb] at g
    exact (G.no_ g).elim
end
end MV

set_option maxRecDepth 100000
set_option maxHeartbeats 1000000
/-! VE: a call's promise from the callee's. -/
namespace MV
open PySem PySem.Spec PyProof.Rows L2
/-- how the parameters are filled, over own data and over values -/
def FillOk (L : Lk) (s : Shape) (n : Nat) (ks : List Str) (gV : List V → List V → List V) : Prop :=
  ∀ (F : Fm) (φ : List Addr) (H : Hp) (ds : List D) (vs zs : List V) (ps : List D), vs.length = n → zs.length = ks.length → Rels L F φ H ds (vs ++ zs) → s.fill ds = some ps → Rels L F φ H ps (gV vs zs)
section
variable {L : Lk} {P : Prog} {X : Cx} {W : WX} {fa C : Addr} {fd : FuncData} {ps ks : List Str} {k n m j : Nat} {s : Shape} {f : Fn} {g : List Value → List Value → List Value} {gV : List V → List V → List V}
theorem orc_succ (e : P.fns[s.fn]? = some f) (ds : List D) (h : HH) : callN P (m + 1) s.fn ds h = (match f.kind with
      | .fn true => pureRun P (callN P m) f ds h
      | .fn false => (body P (callN P m) f ds h).bind fun d h1 => .ok (.val d) h1
      | .ctor c true => makeRun P (callN P m) c f ds h
      | .ctor c false => (body P (callN P m) f (.ref h.length :: ds) (h ++ [.ins c [] []])).bind fun d h1 => match d with
        | .non => .ok (.val (.ref h.length)) h1
        | _ => .no) := by
  show (match P.fns[s.fn]? with
    | none => R.no
    | some f => _) = _
  rw [e] <;> rfl
theorem callJ_eq {orc : Orc} {ad : Bool} {ds : List D} {h : HH} {F : Fm} {φ : List Addr} {H : Hp} {Q : VK} {E : XK} (hs : P.sh[j]? = some s) (q : GE L F φ H (callJ P orc ad j ds h) Q E) :
    ∃ qs, s.fill ds = some qs ∧ GE L F φ H ((orc s.fn qs h).bind fun r h1 => retD ad r h1) Q E := by
  unfold callJ at q
  rw [hs] at q
  dsimp only at q
  split at q
  · rename_i qs e
    exact ⟨qs, e, q⟩
  · exact (G.no_ q).elim
/-- behind the callee -/
theorem land {pins : List (Addr × Obj)} {s0 : Shared} {σ : L2.St} {H : Hp} {Q : VK} (tk : Takes X W) (I : L2.Inv X pins σ H s0) (r : Result) (s' : Shared)
    (hq : CR (L2.CX X.prog X.w) X.stack X.prog X.w H s0 Q (fun c d H' => W c d σ H') r s') : match r with
      | .ok (.ret u) => EP X pins σ Q u s'
      | .ok _ => False
      | .error e => X.xe e s' := by
  cases r with
  | error e => exact tk e s' (XE.of_call I (fun _ _ _ z => z) hq)
  | ok fl =>
    cases fl with
    | ret u => exact I.after hq
    | next => exact hq
    | brk => exact hq
    | cont => exact hq
theorem callV_fn (hs : P.sh[j]? = some s) (hf : P.fns[s.fn]? = some f) {b : Bool} (hk : f.kind = .fn b) (Fk : FnOk X.prog X.w X.K X.mg X.base (L2.CX X.prog X.w) k fa fd ps (spB L P (callN P m) f)) (hr : Room k X.A) (tk : Takes X W)
    (hb : KBn X.K fd ps n ks g gV) (hl : FillOk L s n ks gV) : CallV L P (callN P (m + 1)) X W fa n ks j := by
  intro ad pins s0 σ H vs zs us ws Q F φ h ds I rv rz l1 l2 x r q
  obtain ⟨qs, e1, q⟩ := callJ_eq hs q
  rw [orc_succ hf, hk] at q
  have rq := hl F φ H ds vs zs qs l1 l2 r e1
  have sp : spB L P (callN P m) f (gV vs zs) H Q (fun c d H' => W c d σ H') := by
    cases b with
    | true => exact pureGE x rq q
    | false => exact bodyGE x rq q
  refine wpAny_call (codeAny_mono (Fk.run X.A X.stack s0 H ⟨us, ks.zip ws⟩ (g us ws) (gV vs zs) Q _ hr I.env0 (hb.to s0 us ws I.kIn (rv.length.symm.trans l1) (rz.length.symm.trans l2)) (hb.rel rv rz) sp) fun rr s' hq => ?_)
  have z := land tk I rr s' hq
  cases rr with
  | error e => exact z
  | ok fl => cases fl <;> exact z
theorem callV_mk (hs : P.sh[j]? = some s) (hf : P.fns[s.fn]? = some f) {b : Bool} {c : Nat} (hC : L.cl c = C) (hk : f.kind = .ctor c b) (M : Mk X.K C fa) (Fk : FnOk X.prog X.w X.K X.mg X.base (L2.CX X.prog X.w) k fa fd ps (spB L P (callN P m) f)) (hr : Room (k + 1) X.A) (tk : Takes X W)
    (hb : KBn X.K fd ps (n + 1) ks g gV) {gW : List V → List V → List V} (hg : ∀ p vs zs, gV (.ref p :: vs) zs = .ref p :: gW vs zs) (hl : FillOk L s n ks gW) : CallV L P (callN P (m + 1)) X W C n ks j := by
  intro ad pins s0 σ H vs zs us ws Q F φ h ds I rv rz l1 l2 x r q
  obtain ⟨qs, e1, q⟩ := callJ_eq hs q
  rw [orc_succ hf, hk] at q
  have rq := hl F φ H ds vs zs qs l1 l2 r e1
  have hp : H (s0.heap.objs.size + 1) = none := I.hok.fresh (Nat.le_succ _)
  have hd : H s0.heap.objs.size = none := I.hok.fresh (Nat.le_refl _)
  have ne : s0.heap.objs.size ≠ s0.heap.objs.size + 1 := Nat.ne_of_lt (Nat.lt_succ_self _)
  have sp : spB L P (callN P m) f (gV (.ref (s0.heap.objs.size + 1) :: vs) zs) (upd (upd H s0.heap.objs.size (.own (s0.heap.objs.size + 1))) (s0.heap.objs.size + 1) (.ins C s0.heap.objs.size [])) (fun v H2 => v = .non ∧ Q (.ref (s0.heap.objs.size + 1)) H2) (fun c d H' => W c d σ H') := by
    rw [hg, ← hC]
    cases b with
    | true => exact makeGE x rq q hp hd ne
    | false => exact makeGE2 x rq q hp hd ne
  have I2 := L2.Inv.made (C := C) I
  have r1 : Vals (V.ref (s0.heap.objs.size + 1) :: vs) (Value.ref (s0.heap.objs.size + 1) :: us) := .cons rfl rv
  refine wpAny_call (make_map (f := fa) I.kIn M.makes M.init (beq_iff_eq.mp M.fn) (codeAny_mono (Fk.run _ X.stack _ _ ⟨Value.ref (s0.heap.objs.size + 1) :: us, ks.zip ws⟩ (g (Value.ref (s0.heap.objs.size + 1) :: us) ws) _ _ _ (hr.make C us (ks.zip ws))
    (I2.env0.make C us (ks.zip ws)) (hb.to _ (Value.ref (s0.heap.objs.size + 1) :: us) ws I2.kIn (by rw [List.length_cons, ← rv.length, l1]) (rz.length.symm.trans l2)) (hb.rel r1 rz) sp) fun rr s' hq => ?_))
  have z := land tk I2 rr s' hq
  cases rr with
  | error e => exact z
  | ok fl =>
    cases fl with
    | ret u =>
      obtain ⟨v, H', I3, rv', ev, q3⟩ := z
      subst ev
      exact ⟨rv', ⟨V.ref (s0.heap.objs.size + 1), H', I3, rfl, q3⟩⟩
    | _ => exact z
end
end MV

set_option maxRecDepth 100000
set_option maxHeartbeats 1000000
/-! VF: expressions. -/
namespace MV
open PySem PySem.Spec PyProof.Rows L2
/-- the built-ins' names that the modules leave alone -/
def bNames : List Str := ["len", "abs", "int", "list", "tuple", "sum", "any", "all", "min", "max", "sorted", "isinstance", "range", "enumerate", "zip", "bool", "str", "dict"]
structure Same (pg : Program) (w : World) (K : PySem.W.Frag) (mg : Str → Option Value) (base : Heap) (k : Nat) (X : Cx) : Prop where
  p : X.prog = pg
  w : X.w = w
  K : X.K = K
  m : X.mg = mg
  b : X.base = base
  r : Room k X.A
/-- a property, by values -/
def PropV (L : Lk) (P : Prog) (orc : Orc) (X : Cx) (c : Nat) (f : Str) (j : Nat) : Prop :=
  ∀ (pins : List (Addr × Obj)) (s : Shared) (σ : L2.St) (H : Hp) (a dx : Addr) (fs : List (Str × V)) (Q : VK) (F : Fm) (φ : List Addr) (h : HH) (d : D) (E : XK),
    Inv X pins σ H s → H a = some (.ins (L.cl c) dx fs) → HR L F φ h H → Rel L F φ H d (.ref a) → GE L F φ H (callJ P orc false j [d] h).pur Q E →
    wpAny (model X.prog X.w) X.A (getAttr (.ref a) f true) (EP X pins σ Q) X.xe s
/-- what one asks isinstance of a class -/
structure IsiC (K : PySem.W.Frag) (C : Addr) : Prop where
  cl : Cls K C
  ha : PySem.W.findIn K (.ref C) "__class__" = some (some (.builtin "object.__class__"))
  hn : PySem.W.specialIn K (.builtin "object.__class__") "__get__" = some (some (.builtin "getset_descriptor.__get__"))
  ht : PySem.W.takesIn K (.builtin "object.__class__") = some true
  hm : PySem.W.mroIn K C (.type "object") = some true
/-- a type as the model's value -/
def tvV (L : Lk) : TyV → Value
  | .non => .type "NoneType"
  | .bl => .type "bool"
  | .int => .type "int"
  | .str => .type "str"
  | .lst => .type "list"
  | .tup => .type "tuple"
  | .dct => .type "dict"
  | .own c => .ref (L.cl c)
def tyV' (L : Lk) : Ty → Value
  | .int => .type "int"
  | .bool => .type "bool"
  | .str => .type "str"
  | .list => .type "list"
  | .tuple => .type "tuple"
  | .dict => .type "dict"
  | .cls c => .ref (L.cl c)
def tyVV (L : Lk) : Ty → V
  | .int => .ty "int"
  | .bool => .ty "bool"
  | .str => .ty "str"
  | .list => .ty "list"
  | .tuple => .ty "tuple"
  | .dict => .ty "dict"
  | .cls c => .ref (L.cl c)
/-- what stands in the modules -/
structure Facts (T : Tb) (L : Lk) (P : Prog) (orc : Orc) (k : Nat) (pg : Program) (w : World) (K : PySem.W.Frag) (mg : Str → Option Value) (base : Heap) : Prop where
  hK : K = L.K
  gl : ∀ (i : Nat) (x : Str) (d : D), T.gn[i]? = some x → P.gl[i]? = some d → ∃ v u, mg x = some u ∧ RelV v u ∧ ∀ F φ H, Rel L F φ H d v
  bf : ∀ x ∈ bNames, mg x = none
  wd : ∀ X, Same pg w K mg base k X → WdOk X L P.wd
  inj : ∀ i j, L.nm i = L.nm j → i = j
  nm : ∀ (i : Nat) (x : Str), T.nm[i]? = some x → L.nm i = x
  fld : ∀ c i, P.fld.contains (c, i) = true → Cls K (L.cl c) ∧ NoAttr K (L.cl c) (L.nm i)
  ncl : ∀ (c : Nat) (x : Str), T.cn[c]? = some x → mg x = some (.ref (L.cl c))
  isc : ∀ c, c < P.nc → IsiC K (L.cl c)
  kit : ∀ (t : TyV) (u : Ty), (∀ c, t = .own c → c < P.nc) → (∀ c, u = .cls c → ∃ x, T.cn[c]? = some x) → PySem.W.kitOne K (tvV L t) (tyV' L u) = some (tyIs t u)
  call : ∀ X W, Same pg w K mg base k X → Takes X W → ∀ (j : Nat) (g : Str) (n : Nat) (ks : List Str), T.sn[j]? = some (.glob, g, n, ks) → ∃ f, mg g = some (.ref f) ∧ PySem.W.keepIn K (.ref f) = true ∧ CallV L P orc X W f n ks j
  meth : ∀ X W, Same pg w K mg base k X → Takes X W → ∀ (j c : Nat) (m : Str) (n : Nat) (ks : List Str), T.sn[j]? = some (.meth c, m, n, ks) → Cls K (L.cl c) ∧ ∃ f, Meth K (L.cl c) m f ∧ CallV L P orc X W f n ks j
  prop : ∀ X, Same pg w K mg base k X → ∀ (j c : Nat) (m : Str), T.sn[j]? = some (.prop c, m, 1, []) → PropV L P orc X c m j
/-- a context with its facts -/
structure CX1 (T : Tb) (L : Lk) (P : Prog) (orc : Orc) (k : Nat) (X : Cx) (W : WX) : Prop where
  fa : Facts T L P orc k X.prog X.w X.K X.mg X.base
  calm : X.calm = true
  nd : X.N.Nodup
  room : Room k X.A
  tk : Takes X W
section
variable {T : Tb} {L : Lk} {P : Prog} {orc : Orc} {k : Nat} {X : Cx} {W : WX}
theorem CX1.same (c : CX1 T L P orc k X W) : Same X.prog X.w X.K X.mg X.base k X := ⟨rfl, rfl, rfl, rfl, rfl, c.room⟩
theorem CX1.hu (c : CX1 T L P orc k X W) : X.A.units + 65 < cLine := by
  have := c.room.un
  omega
theorem isLoc_ {o : Option NameKind} (h : isLoc o = true) : o = some .local := by
  unfold isLoc at h
  split at h
  · rfl
  · cases h
theorem locB_ {sc : Scope} {x : Str} (h : locB sc x = true) : sc.names.lookup x = some .local := isLoc_ h
theorem stoB_ {sc : Scope} {x : Str} (h : stoB sc x = true) : Loc sc x := by
  unfold stoB isLC at h
  split at h
  · exact .inl (by assumption)
  · exact .inr (by assumption)
  · cases h
theorem visB_ {sc : Scope} {x : Str} (h : visB sc x = true) : Vis sc x := by
  unfold visB isVis at h
  split at h
  · exact .inl (by assumption)
  · exact .inr (.inl (by assumption))
  · exact .inr (.inr (by assumption))
  · cases h
theorem glB_ {X : Cx} {x : Str} (h : glB X.env.scope x = true) : Gl X x ∧ (x == ("__debug__" : Str)) = false := by
  unfold glB at h
  obtain ⟨h1, h2⟩ := Bool.and_eq_true_iff.mp h
  refine ⟨?_, by simpa using h2⟩
  unfold isGl at h1
  split at h1
  · assumption
  · cases h1
theorem and_ {a b : Bool} (h : (a && b) = true) : a = true ∧ b = true := Bool.and_eq_true_iff.mp h
/-- truth -/
theorem truth_ok {F : Fm} {φ : List Addr} {H : Hp} {h : HH} {d : D} {v : V} {b : Bool} (hK : X.K = L.K) (x : HR L F φ h H) (r : Rel L F φ H d v) (e : truthD d h = some b) : TruV X.K v H b := by
  have viaL : listOf d h = none ∨ ∃ l, listOf d h = some l := by
    cases listOf d h with
    | none => exact .inl rfl
    | some l => exact .inr ⟨l, rfl⟩
  have fin : (∀ l, listOf d h = some l → b = !l.isEmpty) → listOf d h ≠ none → TruV X.K v H b := fun hb hn => by
    rcases viaL with z | ⟨l, z⟩
    · exact absurd z hn
    · obtain ⟨a, vs, ev, hq, hr⟩ := listOf_ok x r z
      subst ev
      refine .inl ⟨vs, sqK hK hq, ?_⟩
      rw [hb l z, hr.isEmpty]
  have viaD : (match listOf d h with
    | some l => some (!l.isEmpty)
    | none => none) = some b → TruV X.K v H b := fun e => by
    refine fin (fun l z => ?_) (fun z => ?_)
    · rw [z] at e
      exact (Option.some.inj e).symm
    · rw [z] at e
      cases e
  cases r with
  | non => exact (Option.some.inj e).symm
  | bl _ => exact (Option.some.inj e).symm
  | int _ => exact (Option.some.inj e).symm
  | str s =>
    have e : (if s.length ≤ line then some (s.length != 0) else none) = some b := e
    split at e
    · rename_i hl
      refine ⟨by rw [sizeLine_eq]; exact hl, ?_⟩
      rw [← Option.some.inj e]
      by_cases hz : s.length = 0
      · simp [hz]
      · have : (s.length : Int) ≠ 0 := by omega
        rw [bne_iff_ne.mpr hz, bne_iff_ne.mpr this]
    · cases e
  | tup q r =>
    refine .inr (.inl ⟨_, by rw [hK]; exact q, ?_⟩)
    rw [← Option.some.inj e, r.isEmpty]
  | wtup e1 e2 e3 e4 e5 e6 r =>
    refine .inr (.inl ⟨_, by rw [hK]; exact .inr ⟨_, _, _, e1, e2, e4, e5, e6⟩, ?_⟩)
    rw [← Option.some.inj e, r.isEmpty]
  | cls _ => exact viaD e
  | wd _ => exact viaD e
  | lst q n f r => exact viaD e
  | bor q n f r => exact viaD e
  | borK e1 e2 e3 e4 e5 e6 r => exact viaD e
  | dct q n f k r => exact viaD e
  | obj q n f k r => exact viaD e
  | ref q => exact viaD e
end
theorem GE.one {L : Lk} {F : Fm} {φ : List Addr} {H : Hp} {h : HH} {Q : VK} {E : XK} {d : D} {v : V} (g : GE L F φ H (.ok d h) Q E) (x : HR L F φ h H) (r : Rel L F φ H d v) : Q v H := G.ok g x r
/-! ### the promise for one expression -/
section
variable (T : Tb) (L : Lk) (P : Prog) (orc : Orc) (k : Nat)
def EvOk (e : E) : Prop := ∀ X W, CX1 T L P orc k X W → ∀ x, ck T X.N e X.env.scope x = true → PE X x (rdE L W (ev P orc e))
def TsOk (e : E) : Prop := ∀ X W, CX1 T L P orc k X W → ∀ x, ck T X.N e X.env.scope x = true → PT X x (rdT L W (tst P orc e))
def TwOk (e : E) : Prop := ∀ X W, CX1 T L P orc k X W → ∀ op l p, ck T X.N e X.env.scope (.BoolOp op l p) = true → PW X (.BoolOp op l p) (rdT L W (tst P orc e))
def EsOk (e : E) : Prop := ∀ X W, CX1 T L P orc k X W → ∀ xs, cks T X.N e X.env.scope xs = true → PA X xs (rdA L W (evs P orc e))
def KsOk (e : E) : Prop := ∀ X W, CX1 T L P orc k X W → ∀ kws ns, ckK T X.N e X.env.scope kws ns = true → PK X kws (rdA L W (evs P orc e)) ∧ ∀ pos, (backToKw pos (keywordEach kws X.env)).all (·.1.isSome) = true ∧ (backToKw pos (keywordEach kws X.env)).filterMap (·.1) = ns ∧ (backToKw pos (keywordEach kws X.env)).any (·.1.isNone) = false
end
section
variable {T : Tb} {L : Lk} {P : Prog} {orc : Orc} {k : Nat}
theorem ev_v {i : Nat} : EvOk T L P orc k (.v i) := by
  intro X W c x h
  unfold ck at h
  split at h
  · rename_i y p
    obtain ⟨h1, h⟩ := and_ h
    obtain ⟨h2, h⟩ := and_ h
    obtain ⟨h3, h4⟩ := and_ h
    refine (pe_var (of_decide_eq_true h1) (visB_ h2) (by simpa using h3) (by simpa using h4)).imp fun σ H Q ⟨F, φ, ρ, hh, hr, er, g⟩ => ?_
    rw [q_v] at g
    split at g
    · rename_i d e
      obtain ⟨v, e1, rv⟩ := er.at_ i d e
      exact ⟨v, e1, G.ok g hr rv⟩
    · exact (G.no_ g).elim
  · cases h
theorem ev_c {d : D} : EvOk T L P orc k (.c d) := by
  intro X W c x h
  unfold ck at h
  split at h
  · rename_i kk j p
    unfold constOk at h
    split at h
    · exact pe_non.imp fun σ H Q ⟨F, φ, ρ, hh, hr, er, g⟩ => by
        rw [q_c] at g
        exact GE.one g hr Rel.non
    · rw [beq_iff_eq] at h
      subst h
      exact pe_bl.imp fun σ H Q ⟨F, φ, ρ, hh, hr, er, g⟩ => by
        rw [q_c] at g
        exact GE.one g hr (Rel.bl _)
    · have h := of_decide_eq_true h
      subst h
      exact pe_int.imp fun σ H Q ⟨F, φ, ρ, hh, hr, er, g⟩ => by
        rw [q_c] at g
        exact GE.one g hr (Rel.int _)
    · have h := of_decide_eq_true h
      subst h
      exact pe_str.imp fun σ H Q ⟨F, φ, ρ, hh, hr, er, g⟩ => by
        rw [q_c] at g
        exact GE.one g hr (Rel.str _)
    · cases h
  · cases h
theorem ev_g {i : Nat} : EvOk T L P orc k (.g i) := by
  intro X W c x h
  unfold ck at h
  split at h
  · rename_i y p
    obtain ⟨h1, h2⟩ := and_ h
    obtain ⟨g1, g2⟩ := glB_ h2
    have h1 := of_decide_eq_true h1
    cases e : P.gl[i]? with
    | none =>
      refine ⟨fun pins s σ H Q I ⟨F, φ, ρ, hh, hr, er, g⟩ => ?_⟩
      rw [q_g] at g
      rw [e] at g
      exact (G.no_ g).elim
    | some d =>
      obtain ⟨v, u, e1, e2, e3⟩ := c.fa.gl i y d h1 e
      refine (pe_glob g1 e1 e2 g2).imp fun σ H Q ⟨F, φ, ρ, hh, hr, er, g⟩ => ?_
      rw [q_g] at g
      rw [e] at g
      exact GE.one (d := d) g hr (e3 _ _ _)
  · cases h
/-- two operands, then f -/
theorem two {a b : E} {f : D → D → HH → R D} {r : R2} {W : WX} (hr2 : ∀ x y H Q, rd2 L f x y H Q → r x y H Q) :
    ∀ σ H Q, rdE L W (fun ρ h => (ev P orc a ρ h).bind fun x h1 => (ev P orc b ρ h1).bind fun y h2 => f x y h2) σ H Q → tOp r (rdE L W (ev P orc a)) (rdE L W (ev P orc b)) σ H Q := by
  intro σ H Q ⟨F, φ, ρ, h, hr, er, g⟩
  refine ⟨F, φ, ρ, h, hr, er, G.bind g fun x h1 φ1 H1 v e1 t1 hr1 rx g1 => ?_⟩
  refine ⟨F, φ1, ρ, h1, hr1, er.mono t1, G.bind g1 fun y h2 φ2 H2 u e2 t2 hr2' ry g2 => ?_⟩
  exact hr2 _ _ _ _ ⟨F, φ2, h2, x, y, _, hr2', rx.mono t2, ry, g2⟩
theorem ev_bin {op : Operator} {m : Bool} {a b : E} (ha : EvOk T L P orc k a) (hb : EvOk T L P orc k b) : EvOk T L P orc k (.bin op m a b) := by
  intro X W c x h
  unfold ck at h
  split at h
  · rename_i x o y p
    obtain ⟨h1, h⟩ := and_ h
    obtain ⟨h2, h3⟩ := and_ h
    have h1 := of_decide_eq_true h1
    subst h1
    exact (pe_op (bin_ok c.fa.hK op m op_catA) (ha X W c _ h2) (hb X W c _ h3)).imp fun σ H Q ⟨F, φ, ρ, hh, hr, er, g⟩ => by
      rw [q_bin] at g
      exact two (f := fun x y h => binD op m x y h) (fun _ _ _ _ q => q) σ H Q ⟨F, φ, ρ, hh, hr, er, g⟩
  · cases h
theorem ev_neg {a : E} (ha : EvOk T L P orc k a) : EvOk T L P orc k (.neg a) := by
  intro X W c x h
  unfold ck at h
  split at h
  · rename_i x p
    refine (pe_un un_neg (ha X W c _ h)).imp fun σ H Q ⟨F, φ, ρ, hh, hr, er, g⟩ => ?_
    rw [q_neg] at g
    refine ⟨F, φ, ρ, hh, hr, er, G.bind g fun x h1 φ1 H1 v e1 t1 hr1 rx g1 => ?_⟩
    split at g1
    · cases rx
      exact ⟨_, rfl, G.ok g1 hr1 (.int _)⟩
    · exact (G.no_ g1).elim
  · cases h
theorem mapbl {φ : List Addr} {H : Hp} {F : Fm} {o : Option Bool} {h : HH} {Q : VK} {E : XK} (x : HR L F φ h H) (g : GE L F φ H (R.of (o.map D.bl) h) Q E) : ∃ b, o = some b ∧ Q (.bl b) H := by
  cases o with
  | none => exact (G.no_ g).elim
  | some b => exact ⟨b, rfl, G.ok (a := D.bl b) g x (.bl b)⟩
theorem ofB {φ : List Addr} {H : Hp} {F : Fm} {o : Option Bool} {h : HH} {Q : Bool → Hp → Prop} {E : XK} (x : HR L F φ h H) (g : GB L F φ H (R.of o h) Q E) : ∃ b, o = some b ∧ Q b H := by
  cases o with
  | none => exact (G.no_ g).elim
  | some b => exact ⟨b, rfl, G.ok (a := b) g x rfl⟩
theorem ev_cmp {op : PySem.CmpOp} {a b : E} (ha : EvOk T L P orc k a) (hb : EvOk T L P orc k b) : EvOk T L P orc k (.cmp op a b) := by
  intro X W c x h
  unfold ck at h
  split at h
  · rename_i x o y p
    obtain ⟨h1, h⟩ := and_ h
    obtain ⟨h2, h⟩ := and_ h
    obtain ⟨h3, h4⟩ := and_ h
    have h1 := of_decide_eq_true h1
    subst h1
    refine (pe_cmpR (cmp_ok c.fa.hK c.hu op) (ha X W c _ h2) (hb X W c _ h3) (by simpa using h4)).imp fun σ H Q ⟨F, φ, ρ, hh, hr, er, g⟩ => ?_
    rw [q_cmp] at g
    refine ⟨F, φ, ρ, hh, hr, er, G.bind g fun x h1 φ1 H1 v e1 t1 hr1 rx g1 => ?_⟩
    refine ⟨F, φ1, ρ, h1, hr1, er.mono t1, G.bind g1 fun y h2 φ2 H2 u e2 t2 hr2' ry g2 => ?_⟩
    obtain ⟨b, e, q⟩ := mapbl hr2' g2
    exact ⟨F, φ2, h2, x, y, b, hr2', rx.mono t2, ry, e, q⟩
  · cases h
theorem ts_cmp {op : PySem.CmpOp} {a b : E} (ha : EvOk T L P orc k a) (hb : EvOk T L P orc k b) : TsOk T L P orc k (.cmp op a b) := by
  intro X W c x h
  unfold ck at h
  split at h
  · rename_i x o y p
    obtain ⟨h1, h⟩ := and_ h
    obtain ⟨h2, h⟩ := and_ h
    obtain ⟨h3, h4⟩ := and_ h
    have h1 := of_decide_eq_true h1
    subst h1
    refine (pt_cmpR (cmp_ok c.fa.hK c.hu op) (ha X W c _ h2) (hb X W c _ h3) (by simpa using h4)).imp fun σ H Q ⟨F, φ, ρ, hh, hr, er, g⟩ => ?_
    rw [tq_cmp] at g
    refine ⟨F, φ, ρ, hh, hr, er, G.bind g fun x h1 φ1 H1 v e1 t1 hr1 rx g1 => ?_⟩
    refine ⟨F, φ1, ρ, h1, hr1, er.mono t1, G.bind g1 fun y h2 φ2 H2 u e2 t2 hr2' ry g2 => ?_⟩
    obtain ⟨b, e, q⟩ := ofB hr2' g2
    exact ⟨F, φ2, h2, x, y, b, hr2', rx.mono t2, ry, e, b, rfl, q⟩
  · cases h
theorem ev_chain {o p : PySem.CmpOp} {a b d : E} (ha : EvOk T L P orc k a) (hb : EvOk T L P orc k b) (hd : EvOk T L P orc k d) : EvOk T L P orc k (.chain o p a b d) := by
  intro X W c x h
  unfold ck at h
  split at h
  · rename_i x o' p' y z ps
    obtain ⟨h1, h⟩ := and_ h
    obtain ⟨h2, h⟩ := and_ h
    obtain ⟨h3, h⟩ := and_ h
    obtain ⟨h4, h⟩ := and_ h
    obtain ⟨h5, h6⟩ := and_ h
    have h1 := of_decide_eq_true h1
    have h2 := of_decide_eq_true h2
    subst h1 h2
    refine (pe_chain (cmp_ok c.fa.hK c.hu o) (cmp_ok c.fa.hK c.hu p) (ha X W c _ h3) (hb X W c _ h4) (hd X W c _ h5) (show behindInMarks p z = false by simpa using h6)).imp fun σ H Q ⟨F, φ, ρ, hh, hr, er, g⟩ => ?_
    rw [q_chain] at g
    refine ⟨F, φ, ρ, hh, hr, er, G.bind g fun x h1 φ1 H1 v e1 t1 hr1 rx g1 => ?_⟩
    refine ⟨F, φ1, ρ, h1, hr1, er.mono t1, G.bind g1 fun y h2 φ2 H2 u e2 t2 hr2 ry g2 => ?_⟩
    split at g2
    · rename_i e3
      refine ⟨F, φ2, h2, x, y, true, hr2, rx.mono t2, ry, e3, true, rfl, ?_⟩
      rw [if_pos rfl]
      refine ⟨F, φ2, ρ, h2, hr2, (er.mono t1).mono t2, G.bind g2 fun z h3 φ3 H3 w e4 t3 hr3 rz g3 => ?_⟩
      obtain ⟨b, e, q⟩ := mapbl hr3 g3
      exact ⟨F, φ3, h3, y, z, b, hr3, ry.mono t3, rz, e, q⟩
    · rename_i e3
      refine ⟨F, φ2, h2, x, y, false, hr2, rx.mono t2, ry, e3, false, rfl, ?_⟩
      rw [if_neg Bool.false_ne_true]
      exact G.ok g2 hr2 (.bl false)
    · exact (G.no_ g2).elim
  · cases h
theorem ts_chain {o p : PySem.CmpOp} {a b d : E} (ha : EvOk T L P orc k a) (hb : EvOk T L P orc k b) (hd : EvOk T L P orc k d) : TsOk T L P orc k (.chain o p a b d) := by
  intro X W c x h
  unfold ck at h
  split at h
  · rename_i x o' p' y z ps
    obtain ⟨h1, h⟩ := and_ h
    obtain ⟨h2, h⟩ := and_ h
    obtain ⟨h3, h⟩ := and_ h
    obtain ⟨h4, h⟩ := and_ h
    obtain ⟨h5, h6⟩ := and_ h
    have h1 := of_decide_eq_true h1
    have h2 := of_decide_eq_true h2
    subst h1 h2
    refine (pt_chain (cmp_ok c.fa.hK c.hu o) (cmp_ok c.fa.hK c.hu p) (ha X W c _ h3) (hb X W c _ h4) (hd X W c _ h5) (show behindInMarks p z = false by simpa using h6)).imp fun σ H Q ⟨F, φ, ρ, hh, hr, er, g⟩ => ?_
    rw [tq_chain] at g
    refine ⟨F, φ, ρ, hh, hr, er, G.bind g fun x h1 φ1 H1 v e1 t1 hr1 rx g1 => ?_⟩
    refine ⟨F, φ1, ρ, h1, hr1, er.mono t1, G.bind g1 fun y h2 φ2 H2 u e2 t2 hr2 ry g2 => ?_⟩
    split at g2
    · rename_i e3
      refine ⟨F, φ2, h2, x, y, true, hr2, rx.mono t2, ry, e3, true, rfl, ?_⟩
      rw [if_pos rfl]
      refine ⟨F, φ2, ρ, h2, hr2, (er.mono t1).mono t2, G.bind g2 fun z h3 φ3 H3 w e4 t3 hr3 rz g3 => ?_⟩
      obtain ⟨b, e, q⟩ := ofB hr3 g3
      exact ⟨F, φ3, h3, y, z, b, hr3, ry.mono t3, rz, e, b, rfl, q⟩
    · rename_i e3
      refine ⟨F, φ2, h2, x, y, false, hr2, rx.mono t2, ry, e3, false, rfl, ?_⟩
      rw [if_neg Bool.false_ne_true]
      exact ⟨false, rfl, G.ok g2 hr2 rfl⟩
    · exact (G.no_ g2).elim
  · cases h
/-! ### and, or, not, if -/
theorem ev_band {a b : E} (ha : EvOk T L P orc k a) (hb : EvOk T L P orc k b) : EvOk T L P orc k (.band a b) := by
  intro X W c x h
  unfold ck at h
  split at h
  · rename_i x y r p
    obtain ⟨h1, h2⟩ := and_ h
    refine (pe_andT (ha X W c _ h1) (hb X W c _ h2)).imp fun σ H Q ⟨F, φ, ρ, hh, hr, er, g⟩ => ?_
    rw [q_band] at g
    refine ⟨F, φ, ρ, hh, hr, er, G.bind g fun x h1 φ1 H1 v e1 t1 hr1 rx g1 => ?_⟩
    split at g1
    · rename_i e3
      refine ⟨true, truth_ok c.fa.hK hr1 rx e3, ?_⟩
      rw [if_pos rfl]
      exact ⟨F, φ1, ρ, h1, hr1, er.mono t1, g1⟩
    · rename_i e3
      refine ⟨false, truth_ok c.fa.hK hr1 rx e3, ?_⟩
      rw [if_neg Bool.false_ne_true]
      exact G.ok g1 hr1 rx
    · exact (G.no_ g1).elim
  · cases h
theorem ev_bor {a b : E} (ha : EvOk T L P orc k a) (hb : EvOk T L P orc k b) : EvOk T L P orc k (.bor a b) := by
  intro X W c x h
  unfold ck at h
  split at h
  · rename_i x y r p
    obtain ⟨h1, h2⟩ := and_ h
    refine (pe_orT (ha X W c _ h1) (hb X W c _ h2)).imp fun σ H Q ⟨F, φ, ρ, hh, hr, er, g⟩ => ?_
    rw [q_bor] at g
    refine ⟨F, φ, ρ, hh, hr, er, G.bind g fun x h1 φ1 H1 v e1 t1 hr1 rx g1 => ?_⟩
    split at g1
    · rename_i e3
      refine ⟨true, truth_ok c.fa.hK hr1 rx e3, ?_⟩
      rw [if_pos rfl]
      exact G.ok g1 hr1 rx
    · rename_i e3
      refine ⟨false, truth_ok c.fa.hK hr1 rx e3, ?_⟩
      rw [if_neg Bool.false_ne_true]
      exact ⟨F, φ1, ρ, h1, hr1, er.mono t1, g1⟩
    · exact (G.no_ g1).elim
  · cases h
theorem ev_b1 {a : E} (ha : EvOk T L P orc k a) : EvOk T L P orc k (.b1 a) := by
  intro X W c x h
  unfold ck at h
  split at h
  · refine (pe_one (ha X W c _ h)).imp fun σ H Q ⟨F, φ, ρ, hh, hr, er, g⟩ => ⟨F, φ, ρ, hh, hr, er, ?_⟩
    rw [q_b1] at g
    exact g
  · cases h
theorem tw_band {a b : E} (ha : TsOk T L P orc k a) (hb : TwOk T L P orc k b) : TwOk T L P orc k (.band a b) := by
  intro X W c op l p h
  unfold ck at h
  split at h
  · rename_i x y r p' heq
    cases heq
    obtain ⟨h1, h2⟩ := and_ h
    refine ⟨fun wh pins s σ H Q I ⟨F, φ, ρ, hh, hr, er, g⟩ => (pw_and (ha X W c _ h1) (hb X W c _ _ _ h2)).run wh pins s σ H Q I ?_⟩
    rw [tq_band] at g
    refine ⟨F, φ, ρ, hh, hr, er, G.bind g fun x h1 φ1 H1 v e1 t1 hr1 rx g1 => ?_⟩
    subst rx
    cases x with
    | true =>
      rw [if_pos rfl]
      exact ⟨F, φ1, ρ, h1, hr1, er.mono t1, g1⟩
    | false =>
      rw [if_neg Bool.false_ne_true]
      exact G.ok g1 hr1 rfl
  · cases h
theorem tw_bor {a b : E} (ha : TsOk T L P orc k a) (hb : TwOk T L P orc k b) : TwOk T L P orc k (.bor a b) := by
  intro X W c op l p h
  unfold ck at h
  split at h
  · rename_i x y r p' heq
    cases heq
    obtain ⟨h1, h2⟩ := and_ h
    refine ⟨fun wh pins s σ H Q I ⟨F, φ, ρ, hh, hr, er, g⟩ => (pw_or (ha X W c _ h1) (hb X W c _ _ _ h2)).run wh pins s σ H Q I ?_⟩
    rw [tq_bor] at g
    refine ⟨F, φ, ρ, hh, hr, er, G.bind g fun x h1 φ1 H1 v e1 t1 hr1 rx g1 => ?_⟩
    subst rx
    cases x with
    | true =>
      rw [if_pos rfl]
      exact G.ok g1 hr1 rfl
    | false =>
      rw [if_neg Bool.false_ne_true]
      exact ⟨F, φ1, ρ, h1, hr1, er.mono t1, g1⟩
  · cases h
theorem tw_b1 {a : E} (ha : TsOk T L P orc k a) : TwOk T L P orc k (.b1 a) := by
  intro X W c op l p h
  unfold ck at h
  split at h
  · rename_i op' x p' heq
    cases heq
    have q : PW X (.BoolOp op [x] p) (rdT L W (tst P orc a)) := by
      cases op with
      | And => exact pw_and1 (ha X W c _ h)
      | Or => exact pw_or1 (ha X W c _ h)
    refine ⟨fun wh pins s σ H Q I ⟨F, φ, ρ, hh, hr, er, g⟩ => q.run wh pins s σ H Q I ⟨F, φ, ρ, hh, hr, er, ?_⟩⟩
    rw [tq_b1] at g
    exact g
  · cases h
theorem ts_of_tw {e : E} (ht : TwOk T L P orc k e) (hs : ∀ N sc x, ck T N e sc x = true → ∃ op l p, x = .BoolOp op l p) : TsOk T L P orc k e := by
  intro X W c x h
  obtain ⟨op, l, p, rfl⟩ := hs _ _ _ h
  exact (ht X W c op l p h).pt
theorem ev_bnot {a : E} (ha : EvOk T L P orc k a) : EvOk T L P orc k (.bnot a) := by
  intro X W c x h
  unfold ck at h
  split at h
  · refine (pe_notT (ha X W c _ h)).imp fun σ H Q ⟨F, φ, ρ, hh, hr, er, g⟩ => ?_
    rw [q_bnot] at g
    refine ⟨F, φ, ρ, hh, hr, er, G.bind g fun x h1 φ1 H1 v e1 t1 hr1 rx g1 => ?_⟩
    split at g1
    · rename_i b e3
      exact ⟨b, truth_ok c.fa.hK hr1 rx e3, G.ok g1 hr1 (.bl _)⟩
    · exact (G.no_ g1).elim
  · cases h
theorem ts_bnot {a : E} (ha : TsOk T L P orc k a) : TsOk T L P orc k (.bnot a) := by
  intro X W c x h
  unfold ck at h
  split at h
  · refine (pt_not (ha X W c _ h)).imp fun σ H Q ⟨F, φ, ρ, hh, hr, er, g⟩ => ?_
    rw [tq_bnot] at g
    refine ⟨F, φ, ρ, hh, hr, er, G.bind g fun x h1 φ1 H1 v e1 t1 hr1 rx g1 => ?_⟩
    subst rx
    exact G.ok g1 hr1 rfl
  · cases h
theorem ev_ife {t a b : E} (ht : TsOk T L P orc k t) (ha : EvOk T L P orc k a) (hb : EvOk T L P orc k b) : EvOk T L P orc k (.ife t a b) := by
  intro X W c x h
  unfold ck at h
  split at h
  · obtain ⟨h1, h⟩ := and_ h
    obtain ⟨h2, h3⟩ := and_ h
    refine (pe_ifExp (ht X W c _ h1) (ha X W c _ h2) (hb X W c _ h3)).imp fun σ H Q ⟨F, φ, ρ, hh, hr, er, g⟩ => ?_
    rw [q_ife] at g
    refine ⟨F, φ, ρ, hh, hr, er, G.bind g fun x h1 φ1 H1 v e1 t1 hr1 rx g1 => ?_⟩
    subst rx
    cases x with
    | true =>
      rw [if_pos rfl]
      exact ⟨F, φ1, ρ, h1, hr1, er.mono t1, g1⟩
    | false =>
      rw [if_neg Bool.false_ne_true]
      exact ⟨F, φ1, ρ, h1, hr1, er.mono t1, g1⟩
  · cases h
theorem ts_plain {e : E} (he : EvOk T L P orc k e) (hs : ∀ N sc x, ck T N e sc x = true → trB x = true) (hq : ∀ ρ h, tst P orc e ρ h = (ev P orc e ρ h).bind fun x h1 => R.of (truthD x h1) h1) : TsOk T L P orc k e := by
  intro X W c x h
  refine (pt_truth (he X W c x h) (trTest x _ (hs _ _ _ h))).imp fun σ H Q ⟨F, φ, ρ, hh, hr, er, g⟩ => ?_
  rw [hq] at g
  refine ⟨F, φ, ρ, hh, hr, er, G.bind g fun x h1 φ1 H1 v e1 t1 hr1 rx g1 => ?_⟩
  obtain ⟨b, e, q⟩ := ofB hr1 g1
  exact ⟨b, truth_ok c.fa.hK hr1 rx e, q⟩
end
end MV

set_option maxRecDepth 100000
set_option maxHeartbeats 1000000
/-! VG: displays, calls, methods. -/
namespace MV
open PySem PySem.Spec PyProof.Rows L2
section
variable {T : Tb} {L : Lk} {P : Prog} {orc : Orc} {k : Nat}
theorem es_nil : EsOk T L P orc k .nil := by
  intro X W c xs h
  unfold cks at h
  split at h
  · refine pa_nil.imp fun σ H Q ⟨F, φ, ρ, hh, hr, er, g⟩ => ?_
    rw [q_nil] at g
    exact G.ok g hr .nil
  · cases h
theorem es_cons {e es : E} (ha : EvOk T L P orc k e) (hb : EsOk T L P orc k es) : EsOk T L P orc k (.cons e es) := by
  intro X W c xs h
  unfold cks at h
  split at h
  · obtain ⟨h1, h⟩ := and_ h
    obtain ⟨h2, h3⟩ := and_ h
    refine (pa_cons (ha X W c _ h2) (hb X W c _ h3) (sEach _ _ _ h1)).imp fun σ H Q ⟨F, φ, ρ, hh, hr, er, g⟩ => ?_
    rw [q_cons] at g
    refine ⟨F, φ, ρ, hh, hr, er, G.bind g fun x h1 φ1 H1 v e1 t1 hr1 rx g1 => ?_⟩
    refine ⟨F, φ1, ρ, h1, hr1, er.mono t1, G.bind g1 fun ds h2 φ2 H2 vs e2 t2 hr2 rs g2 => ?_⟩
    exact G.ok g2 hr2 (.cons (rx.mono t2) rs)
  · cases h
theorem es_star {e es : E} (ha : EvOk T L P orc k e) (hb : EsOk T L P orc k es) : EsOk T L P orc k (.star e es) := by
  intro X W c xs h
  unfold cks at h
  split at h
  · obtain ⟨h2, h3⟩ := and_ h
    refine (StX.pa_star (ha X W c _ h2) (hb X W c _ h3)).imp fun σ H Q ⟨F, φ, ρ, hh, hr, er, g⟩ => ?_
    rw [q_star] at g
    refine ⟨F, φ, ρ, hh, hr, er, G.bind g fun x h1 φ1 H1 v e1 t1 hr1 rx g1 => ?_⟩
    split at g1
    · rename_i l e3
      obtain ⟨a, vs, ev, hq, rs⟩ := seqOf_ok hr1 rx e3
      refine ⟨a, vs, ev, by rw [c.fa.hK]; exact hq.symm, ?_⟩
      refine ⟨F, φ1, ρ, h1, hr1, er.mono t1, G.bind g1 fun ds h2 φ2 H2 ws e2 t2 hr2 rw' g2 => ?_⟩
      exact G.ok g2 hr2 ((rs.mono t2).append rw')
    · exact (G.no_ g1).elim
  · cases h
theorem ks_nil : KsOk T L P orc k .nil := by
  intro X W c kws ns h
  unfold ckK at h
  split at h
  · refine ⟨⟨fun pos pins s σ H Q I ⟨F, φ, ρ, hh, hr, er, g⟩ => pk_nil.run pos pins s σ H Q I ?_⟩, fun pos => ⟨rfl, rfl, rfl⟩⟩
    rw [q_nil] at g
    exact G.ok g hr .nil
  · cases h
theorem ks_cons {e es : E} (ha : EvOk T L P orc k e) (hb : KsOk T L P orc k es) : KsOk T L P orc k (.cons e es) := by
  intro X W c kws ns h
  unfold ckK at h
  split at h
  · rename_i nm x kp xs n ns
    obtain ⟨h1, h⟩ := and_ h
    obtain ⟨h2, h3⟩ := and_ h
    have h1 := of_decide_eq_true h1
    subst h1
    obtain ⟨hp, hq⟩ := hb X W c _ _ h3
    refine ⟨⟨fun pos pins s σ H Q I ⟨F, φ, ρ, hh, hr, er, g⟩ => (pk_cons (ha X W c _ h2) hp).run pos pins s σ H Q I ?_⟩, fun pos => ?_⟩
    · rw [q_cons] at g
      refine ⟨F, φ, ρ, hh, hr, er, G.bind g fun x h1 φ1 H1 v e1 t1 hr1 rx g1 => ?_⟩
      refine ⟨F, φ1, ρ, h1, hr1, er.mono t1, G.bind g1 fun ds h2 φ2 H2 vs e2 t2 hr2 rs g2 => ?_⟩
      exact G.ok g2 hr2 (.cons (rx.mono t2) rs)
    · obtain ⟨q1, q2, q3⟩ := hq pos
      refine ⟨?_, ?_, ?_⟩
      · show (true && (backToKw pos (keywordEach xs X.env)).all (·.1.isSome)) = true
        rw [q1] <;> rfl
      · show n :: (backToKw pos (keywordEach xs X.env)).filterMap (·.1) = n :: ns
        rw [q2]
      · show (false || (backToKw pos (keywordEach xs X.env)).any (·.1.isNone)) = false
        rw [q3] <;> rfl
  · cases h
theorem ev_tup {es : E} (he : EsOk T L P orc k es) : EvOk T L P orc k (.tup es) := by
  intro X W c x h
  unfold ck at h
  split at h
  · refine (pe_tup (he X W c _ h)).imp fun σ H Q ⟨F, φ, ρ, hh, hr, er, g⟩ => ?_
    rw [q_tup] at g
    exact ⟨F, φ, ρ, hh, hr, er, G.bind g fun x h1 φ1 H1 v e1 t1 hr1 rx g1 => mkT_ok hr1 rx g1⟩
  · cases h
theorem ev_lst {m : Bool} {es : E} (he : EsOk T L P orc k es) : EvOk T L P orc k (.lst m es) := by
  intro X W c x h
  unfold ck at h
  split at h
  · refine (pe_lst (he X W c _ h)).imp fun σ H Q ⟨F, φ, ρ, hh, hr, er, g⟩ => ?_
    rw [q_lst] at g
    exact ⟨F, φ, ρ, hh, hr, er, G.bind g fun x h1 φ1 H1 v e1 t1 hr1 rx g1 => mkL_ok hr1 rx g1⟩
  · cases h
theorem ev_dct : EvOk T L P orc k .dct := by
  intro X W c x h
  unfold ck at h
  split at h
  · refine pe_dnewK.imp fun σ H Q ⟨F, φ, ρ, hh, hr, er, g⟩ => ?_
    rw [q_dct] at g
    intro p hp
    have t : XT φ H (φ ++ [p]) (upd H p (.dK [])) := .grow hp
    refine G.ok' g t (hr.grow hp (.dct upd_same rfl .nil)) (.ref ?_)
    rw [← hr.len, List.getElem?_append_right (Nat.le_refl _), Nat.sub_self]
    rfl
  · cases h
theorem ev_ix {a i : E} (ha : EvOk T L P orc k a) (hb : EvOk T L P orc k i) : EvOk T L P orc k (.ix a i) := by
  intro X W c x h
  unfold ck at h
  split at h
  · obtain ⟨h1, h⟩ := and_ h
    obtain ⟨h2, h3⟩ := and_ h
    refine (pe_ix (item_ok c.fa.hK c.hu (c.fa.wd X c.same)) (ha X W c _ h2) (hb X W c _ h3) (plIx _ h1)).imp fun σ H Q ⟨F, φ, ρ, hh, hr, er, g⟩ => ?_
    rw [q_ix] at g
    refine ⟨F, φ, ρ, hh, hr, er, G.bind g fun x h1 φ1 H1 v e1 t1 hr1 rx g1 => ?_⟩
    refine ⟨F, φ1, ρ, h1, hr1, er.mono t1, G.bind g1 fun y h2 φ2 H2 u e2 t2 hr2 ry g2 => ?_⟩
    exact ⟨F, φ2, h2, x, y, _, hr2, rx.mono t2, ry, g2⟩
  · cases h
/-- a slice's part -/
theorem po_ok {lo : E} (hlo : EvOk T L P orc k lo) (hz : lo.isNil = true → lo = .nil) {X : Cx} {W : WX} (c : CX1 T L P orc k X W) {l : Option Expr} (h : (match l with
      | none => lo.isNil
      | some l => !lo.isNil && ck T X.N lo X.env.scope l) = true) :
    PO X l (fun σ H Q => ∃ F φ ρ h, HR L F φ h H ∧ ER L F φ H ρ σ ∧ GE L F φ H (ev P orc lo ρ h) (fun v H1 => ∃ o, (match o with
      | none => lo.isNil = true
      | some i => lo.isNil = false ∧ v = .int i) ∧ Q o H1) fun c d H' => W c d σ H') := by
  cases l with
  | none =>
    have h : lo.isNil = true := h
    refine ⟨fun pins s σ H Q I ⟨F, φ, ρ, hh, hr, er, g⟩ => po_none.run pins s σ H Q I ?_⟩
    rw [hz h] at g
    obtain ⟨o, e, q⟩ := GE.one (d := D.non) (v := V.non) g hr .non
    cases o with
    | none => exact q
    | some i => cases e.1
  | some x =>
    obtain ⟨h1, h2⟩ := and_ (show (!lo.isNil && ck T X.N lo X.env.scope x) = true from h)
    refine ⟨fun pins s σ H Q I ⟨F, φ, ρ, hh, hr, er, g⟩ => (po_some (hlo X W c _ h2)).run pins s σ H Q I ⟨F, φ, ρ, hh, hr, er, G.imp g fun v H1 q => ?_⟩⟩
    obtain ⟨o, e, q⟩ := q
    cases o with
    | none => rw [show lo.isNil = true from e] at h1; cases h1
    | some i => exact ⟨i, e.2, q⟩
theorem ev_sl {m : Bool} {a lo hi : E} (ha : EvOk T L P orc k a) (hl : EvOk T L P orc k lo) (hh : EvOk T L P orc k hi) : EvOk T L P orc k (.sl m a lo hi) := by
  intro X W c x h
  have hz : ∀ e : E, e.isNil = true → e = .nil := fun e z => by cases e <;> first | rfl | cases z
  unfold ck at h
  split at h
  · obtain ⟨h1, h⟩ := and_ h
    obtain ⟨h2, h3⟩ := and_ h
    refine (pe_slice (slice_ok c.fa.hK m) (ha X W c _ h1) (po_ok hl (hz lo) c h2) (po_ok hh (hz hi) c h3)).imp fun σ H Q ⟨F, φ, ρ, hh, hr, er, g⟩ => ?_
    rw [q_sl] at g
    refine ⟨F, φ, ρ, hh, hr, er, G.bind g fun x h1 φ1 H1 v e1 t1 hr1 rx g1 => ?_⟩
    have part : ∀ {n : Bool} {d : D} {w : V} {φ : List Addr} {H : Hp} {o : Option Int}, Rel L F φ H d w → partD n d = some o → (match o with
      | none => n = true
      | some i => n = false ∧ w = .int i) := fun {n d w φ H o} r e => by
      cases n with
      | true =>
        cases e
        rfl
      | false =>
        cases r with
        | int i =>
          cases e
          exact ⟨rfl, rfl⟩
        | _ => cases e
    refine ⟨F, φ1, ρ, h1, hr1, er.mono t1, G.bind g1 fun l h2 φ2 H2 vl e2 t2 hr2 rl g2 => ?_⟩
    split at g2
    · rename_i ol el
      refine ⟨ol, part rl el, ?_⟩
      refine ⟨F, φ2, ρ, h2, hr2, (er.mono t1).mono t2, G.bind g2 fun u h3 φ3 H3 vu e3 t3 hr3 ru g3 => ?_⟩
      split at g3
      · rename_i ou eu
        exact ⟨ou, part ru eu, F, φ3, h3, x, _, hr3, (rx.mono t2).mono t3, g3⟩
      · exact (G.no_ g3).elim
    · exact (G.no_ g2).elim
  · cases h
theorem ev_rev {m : Bool} {a : E} (ha : EvOk T L P orc k a) : EvOk T L P orc k (.rev m a) := by
  intro X W c x h
  unfold ck at h
  split at h
  · refine (pe_revL (ha X W c _ h)).imp fun σ H Q ⟨F, φ, ρ, hh, hr, er, g⟩ => ?_
    rw [q_rev] at g
    refine ⟨F, φ, ρ, hh, hr, er, G.bind g fun x h1 φ1 H1 v e1 t1 hr1 rx g1 => ?_⟩
    unfold revD at g1
    split at g1
    · rename_i l e
      obtain ⟨a, vs, ev, hq, rs⟩ := listOf_ok hr1 rx e
      exact ⟨a, vs, ev, sqK c.fa.hK hq, fun p hp => (mkL_ok hr1 rs.reverse g1).2 p hp⟩
    · exact (G.no_ g1).elim
  · cases h
/-! ### calls -/
theorem evs_len : ∀ {args : List Expr} {es : E} {N : List Str} {sc : Scope} {ρ : Env} {h h1 : HH} {ds : List D}, cks T N es sc args = true → nsAll args = true → evs P orc es ρ h = .ok ds h1 → ds.length = args.length
  | [], es, N, sc, ρ, h, h1, ds, hc, hn, e => by
    cases es <;> first | (unfold cks at hc; cases hc) | skip
    rw [q_nil] at e
    cases e
    rfl
  | x :: xs, es, N, sc, ρ, h, h1, ds, hc, hn, e => by
    obtain ⟨n1, n2⟩ := and_ (show (nsB x && nsAll xs) = true from hn)
    cases es <;> first | (unfold cks at hc; cases hc; done) | skip
    · rename_i a b
      unfold cks at hc
      dsimp only at hc
      obtain ⟨_, hc⟩ := and_ hc
      obtain ⟨_, hc⟩ := and_ hc
      rw [q_cons] at e
      cases ea : ev P orc a ρ h with
      | ok d h2 =>
        rw [ea] at e
        have e : ((evs P orc b ρ h2).bind fun ds h2 => R.ok (d :: ds) h2) = .ok ds h1 := e
        cases eb : evs P orc b ρ h2 with
        | ok r h3 =>
          rw [eb] at e
          cases e
          rw [List.length_cons, List.length_cons, evs_len hc n2 eb]
        | exc _ _ _ _ =>
          rw [eb] at e
          cases e
        | no =>
          rw [eb] at e
          cases e
      | exc _ _ _ _ =>
        rw [ea] at e
        cases e
      | no =>
        rw [ea] at e
        cases e
    · rename_i a b
      unfold cks at hc
      cases x <;> first | cases hc | cases n1
theorem kvs_len : ∀ {kws : List Keyword} {ns : List Str} {es : E} {N : List Str} {sc : Scope} {ρ : Env} {h h1 : HH} {ds : List D}, ckK T N es sc kws ns = true → evs P orc es ρ h = .ok ds h1 → ds.length = ns.length
  | kws, ns, .nil, N, sc, ρ, h, h1, ds, hc, e => by
    unfold ckK at hc
    split at hc
    · rw [q_nil] at e
      cases e
      rfl
    · cases hc
  | kws, ns, .cons a b, N, sc, ρ, h, h1, ds, hc, e => by
    unfold ckK at hc
    split at hc
    · obtain ⟨_, hc⟩ := and_ hc
      obtain ⟨_, hc⟩ := and_ hc
      rw [q_cons] at e
      cases ea : ev P orc a ρ h with
      | ok d h2 =>
        rw [ea] at e
        have e : ((evs P orc b ρ h2).bind fun ds h2 => R.ok (d :: ds) h2) = .ok ds h1 := e
        cases eb : evs P orc b ρ h2 with
        | ok r h3 =>
          rw [eb] at e
          cases e
          rw [List.length_cons, List.length_cons, kvs_len hc eb]
        | exc _ _ _ _ =>
          rw [eb] at e
          cases e
        | no =>
          rw [eb] at e
          cases e
      | exc _ _ _ _ =>
        rw [ea] at e
        cases e
      | no =>
        rw [ea] at e
        cases e
    · cases hc
theorem callA {X : Cx} {W : WX} {pos : Pos} {f : Addr} {n j : Nat} {args : List Expr} {pins : List (Addr × Obj)} {s : Shared} {σ : L2.St} {H : Hp} {Q : VK} {F : Fm} {φ : List Addr} {ρ : Env} {h : HH} {es : E} {ad : Bool} {first : List Value} {fs : List V} {fd : List D}
    (he : EsOk T L P orc k es) (c : CX1 T L P orc k X W) (hk : PySem.W.keepIn X.K (.ref f) = true) (cv : CallV L P orc X W f n [] j) (hn : nsAll args = true) (h1 : cks T X.N es X.env.scope args = true)
    (I : Inv X pins σ H s) (hr : HR L F φ h H) (er : ER L F φ H ρ σ) (rf : Rels L F φ H fd fs) (vf : Vals fs first) (hl : args.length + fs.length = n)
    (g : GE L F φ H ((evs P orc es ρ h).bind fun ds h1 => callJ P orc ad j (fd ++ ds) h1) Q fun c d H' => W c d σ H') :
    wpAny (model X.prog X.w) X.A (callWith pos (.ref f) first (backTo pos (starEach args X.env)) (backToKw pos (keywordEach [] X.env))) (EP X pins σ Q) X.xe s := by
  have pa := he X W c args h1
  have key : GEs L F φ H (evs P orc es ρ h) (fun vs H1 => ∃ φ1 h1 ds, HR L F φ1 h1 H1 ∧ XT φ H φ1 H1 ∧ Rels L F φ1 H1 ds vs ∧ ds.length = args.length ∧ GE L F φ1 H1 (callJ P orc ad j (fd ++ ds) h1) Q fun c d H' => W c d σ H') (fun c d H' => W c d σ H') :=
    G.bind g fun ds h2 φ1 H1 vs e1 t1 hr1 rs g1 => ⟨φ1, h2, ds, hr1, t1, rs, evs_len h1 hn e1, g1⟩
  have fin : ∀ {us : List Value} {s1 : Shared} {vs : List V} {H1 : Hp}, Inv X pins σ H1 s1 → Vals vs us → (∃ φ1 h1 ds, HR L F φ1 h1 H1 ∧ XT φ H φ1 H1 ∧ Rels L F φ1 H1 ds vs ∧ ds.length = args.length ∧ GE L F φ1 H1 (callJ P orc ad j (fd ++ ds) h1) Q fun c d H' => W c d σ H') →
      wpAny (model X.prog X.w) X.A (call (.ref f) (first ++ us)) (EP X pins σ Q) X.xe s1 := fun {us s1 vs H1} I1 rv ⟨φ1, h2, ds, hr1, t1, rs, el, g1⟩ => by
    refine cv ad pins s1 σ H1 (fs ++ vs) [] (first ++ us) [] Q F φ1 h2 (fd ++ ds) I1 (vf.append rv) .nil ?_ rfl hr1 ?_ g1
    · rw [List.length_append, ← rs.length, el]
      omega
    · rw [List.append_nil]
      exact (rf.mono t1).append rs
  cases args with
  | nil =>
    have e0 : es = .nil := by
      cases es <;> first | rfl | (unfold cks at h1; cases h1)
    subst e0
    refine PySem.W.callWith_K0 I.kIn hk ?_
    rw [q_nil] at key
    exact fin I .nil (G.ok (b := ([] : List V)) key hr .nil)
  | cons e rest =>
    obtain ⟨n1, n2⟩ := and_ (show (nsB e && nsAll rest) = true from hn)
    refine PySem.W.callWith_K (h₀ := X.base) I.ok.mod.kin hk (thn (pa.run pos pins s σ H _ I ⟨F, φ, ρ, h, hr, er, key⟩) fun us s1 ⟨vs, H1, I1, r1, q1⟩ => ⟨I1.kIn, fin I1 r1 q1⟩) (sEach _ _ _ n1) (nsPlain _ _ _ n2)
theorem ev_call {ad : Bool} {j : Nat} {es : E} (he : EsOk T L P orc k es) : EvOk T L P orc k (.call ad j es) := by
  intro X W c x h
  unfold ck at h
  split at h
  · split at h
    · rename_i f p args pos _ g n e0
      obtain ⟨h1, h⟩ := and_ h
      obtain ⟨h2, h⟩ := and_ h
      obtain ⟨h3, h⟩ := and_ h
      obtain ⟨h4, h5⟩ := and_ h
      have h1 := of_decide_eq_true h1
      subst h1
      obtain ⟨g1, g2⟩ := glB_ h2
      obtain ⟨fa, m1, m2, m3⟩ := c.fa.call X W c.same c.tk j f n [] e0
      refine ⟨fun pins s σ H Q I ⟨F, φ, ρ, hh, hr, er, g⟩ => ?_⟩
      rw [q_call] at g
      exact wpAny_Call_Name_kw (ld_glob I g1 m1 (callA (fd := []) (fs := []) he c m2 m3 h3 h4 I hr er .nil .nil (of_decide_eq_true h5) g) g2)
    · cases h
  · cases h
theorem ev_callk {ad : Bool} {j : Nat} {es ks : E} (he : EsOk T L P orc k es) (hks : KsOk T L P orc k ks) : EvOk T L P orc k (.callk ad j es ks) := by
  intro X W c x h
  unfold ck at h
  split at h
  · split at h
    · rename_i f p args kws pos _ g n names e0
      obtain ⟨h1, h⟩ := and_ h
      obtain ⟨h2, h⟩ := and_ h
      obtain ⟨h3, h⟩ := and_ h
      obtain ⟨h4, h⟩ := and_ h
      obtain ⟨h5, h6⟩ := and_ h
      have h1 := of_decide_eq_true h1
      have h6 := of_decide_eq_true h6
      subst h1
      obtain ⟨g1, g2⟩ := glB_ h2
      obtain ⟨fa, m1, m2, m3⟩ := c.fa.call X W c.same c.tk j f n names e0
      obtain ⟨pk, pf⟩ := hks X W c kws names h5
      obtain ⟨k1, k2, k3⟩ := pf pos
      refine ⟨fun pins s σ H Q I ⟨F, φ, ρ, hh, hr, er, g⟩ => ?_⟩
      rw [q_callk] at g
      refine wpAny_Call_Name_kw (ld_glob I g1 m1 ?_ g2)
      -- behind the arguments
      have fin : ∀ {us : List Value} {s1 : Shared} {vs : List V} {H1 : Hp} {φ1 : List Addr} {h1 : HH} {ds : List D}, Inv X pins σ H1 s1 → Vals vs us → HR L F φ1 h1 H1 → ER L F φ1 H1 ρ σ → Rels L F φ1 H1 ds vs → ds.length = args.length →
          GE L F φ1 H1 ((evs P orc ks ρ h1).bind fun es h2 => callJ P orc ad j (ds ++ es) h2) Q (fun c d H' => W c d σ H') →
          wpAny (model X.prog X.w) X.A (evalAll ((backToKw pos (keywordEach kws X.env)).map (·.2))) (fun zs s₂ => X.K.In s₂.heap ∧ wpAny (model X.prog X.w) X.A (call (.ref fa) ([] ++ us) (((backToKw pos (keywordEach kws X.env)).filterMap (·.1)).zip zs)) (EP X pins σ Q) X.xe s₂) X.xe s1 := fun {us s1 vs H1 φ1 h1 ds} I1 rv hr1 er1 rs el g1 => by
        refine thn (pk.run pos pins s1 σ H1 (fun zs H2 => zs.length = names.length ∧ ∃ φ2 h2 es, HR L F φ2 h2 H2 ∧ XT φ1 H1 φ2 H2 ∧ Rels L F φ2 H2 es zs ∧ GE L F φ2 H2 (callJ P orc ad j (ds ++ es) h2) Q fun c d H' => W c d σ H') I1 ⟨F, φ1, ρ, h1, hr1, er1, G.bind g1 fun es h2 φ2 H2 zs e2 t2 hr2 rz g2 => ⟨by rw [← rz.length]; exact kvs_len h5 e2, φ2, h2, es, hr2, t2, rz, g2⟩⟩) fun zs s2 ⟨ws, H2, I2, rz, hz, q⟩ => ⟨I2.kIn, ?_⟩
        rw [k2]
        obtain ⟨φ2, h2, es', hr2, t2, rzs, g2⟩ := q
        refine m3 ad pins s2 σ H2 vs ws us zs Q F φ2 h2 (ds ++ es') I2 rv rz ?_ hz hr2 ((rs.mono t2).append rzs) g2
        rw [← rs.length, el, h6]
      cases args with
      | nil =>
        have e0 : es = .nil := by
          cases es <;> first | rfl | (unfold cks at h4; cases h4)
        subst e0
        rw [q_nil] at g
        exact PySem.W.callWith_KW0 (h₀ := X.base) I.ok.mod.kin m2 k1 (fin (vs := []) (ds := []) I .nil hr er .nil rfl g) (by show (false || _) = false; rw [k3] <;> rfl)
      | cons e rest =>
        obtain ⟨n1, n2⟩ := and_ (show (nsB e && nsAll rest) = true from h3)
        refine PySem.W.callWith_KW (h₀ := X.base) I.ok.mod.kin m2 k1 (thn ((he X W c _ h4).run pos pins s σ H (fun vs H1 => ∃ φ1 h1 ds, HR L F φ1 h1 H1 ∧ XT φ H φ1 H1 ∧ Rels L F φ1 H1 ds vs ∧ ds.length = (e :: rest).length ∧ GE L F φ1 H1 ((evs P orc ks ρ h1).bind fun es h2 => callJ P orc ad j (ds ++ es) h2) Q fun c d H' => W c d σ H') I
          ⟨F, φ, ρ, hh, hr, er, G.bind g fun ds h2 φ1 H1 vs e1 t1 hr1 rs g1 => ⟨φ1, h2, ds, hr1, t1, rs, evs_len h4 h3 e1, g1⟩⟩) fun us s1 ⟨vs, H1, I1, r1, φ1, h2, ds, hr1, t1, rs, el, g1⟩ => fin I1 r1 hr1 (er.mono t1) rs el g1) ?_ (sEach _ _ _ n1)
        rw [k3, sEach _ _ _ n1]
        show ((false || (backTo pos (starEach rest X.env)).any (·.1)) || false) = false
        rw [nsPlain _ _ _ n2] <;> rfl
    · cases h
  · cases h
end
end MV

set_option maxRecDepth 100000
set_option maxHeartbeats 1000000
/-! VH: methods, attributes, built-ins. -/
namespace MV
open PySem PySem.Spec PyProof.Rows L2
section
variable {T : Tb} {L : Lk} {P : Prog} {orc : Orc} {k : Nat}
/-- own instances -/
theorem insOf_ok {F : Fm} {φ : List Addr} {H : Hp} {h : HH} {d : D} {v : V} {c : Nat} {ks : List Nat} {vs : List D} (x : HR L F φ h H) (r : Rel L F φ H d v) (e : insOf d h = some (c, ks, vs)) :
    ∃ a dx fs, v = .ref a ∧ H a = some (.ins (L.cl c) dx fs) ∧ fs.map (·.1) = ks.map L.nm ∧ Rels L F φ H vs (fs.map (·.2)) := by
  cases r with
  | obj q n f kk r =>
    cases e
    exact ⟨_, _, _, rfl, q, kk, r⟩
  | @ref n a q =>
    obtain ⟨o, e1, ro⟩ := x.ro q
    have e : (match h[n]? with
      | some (.ins c ks vs) => some (c, ks, vs)
      | _ => none) = some (c, ks, vs) := e
    rw [e1] at e
    cases ro with
    | ins q2 kk r =>
      cases e
      exact ⟨_, _, _, rfl, q2, kk, r⟩
    | _ => cases e
  | _ => cases e
theorem lookNo {nm : Nat → Str} (inj : ∀ i j, nm i = nm j → i = j) {k : Nat} : ∀ {fs : List (Str × V)} {ks : List Nat}, fs.map (·.1) = ks.map nm → ks.contains k = false → fs.lookup (nm k) = none
  | [], _, _, _ => rfl
  | (f, v) :: fs, [], e, _ => by cases e
  | (f, v) :: fs, i :: ks, e, hc => by
    injection e with e1 e2
    have e1 : f = nm i := e1
    rw [List.contains_cons] at hc
    obtain ⟨h1, h2⟩ := Bool.or_eq_false_iff.mp hc
    have ne : (nm k == f) = false := by
      rw [beq_eq_false_iff_ne, e1]
      intro z
      rw [inj _ _ z] at h1
      simp at h1
    rw [List.lookup_cons, ne]
    exact lookNo inj e2 h2
theorem lookF_ok {nm : Nat → Str} (inj : ∀ i j, nm i = nm j → i = j) {F : Fm} {φ : List Addr} {H : Hp} {k : Nat} {d : D} : ∀ {fs : List (Str × V)} {ks : List Nat} {ds : List D}, fs.map (·.1) = ks.map nm → Rels L F φ H ds (fs.map (·.2)) → lookF ks ds k = some d → ∃ v, fs.lookup (nm k) = some v ∧ Rel L F φ H d v
  | [], ks, ds, e, r, q => by
    cases r
    unfold lookF at q
    split at q
    · rename_i h1 h2
      cases h2
    · cases q
  | (f, v) :: fs, [], ds, e, r, q => by cases e
  | (f, v) :: fs, i :: ks, ds, e, r, q => by
    injection e with e1 e2
    have e1 : f = nm i := e1
    cases r with
    | cons r1 rs =>
      unfold lookF at q
      rw [List.lookup_cons]
      by_cases hi : i = k
      · subst hi
        rw [if_pos (by simp)] at q
        cases q
        exact ⟨v, by rw [e1]; simp, r1⟩
      · rw [if_neg (by simpa using hi)] at q
        have ne : (nm k == f) = false := by
          rw [beq_eq_false_iff_ne, e1]
          exact fun z => hi (inj _ _ z).symm
        rw [ne]
        exact lookF_ok inj e2 rs q
theorem getT_mem : ∀ {alts : List (Nat × Nat)} {c j : Nat}, getT alts c = some j → (c, j) ∈ alts
  | [], c, j, e => by cases e
  | (a, b) :: r, c, j, e => by
    unfold getT at e
    split at e
    · rename_i h
      cases e
      rw [beq_iff_eq] at h
      subst h
      exact List.mem_cons_self ..
    · exact List.mem_cons_of_mem _ (getT_mem e)
theorem ev_meth {ad : Bool} {mi : Nat} {o es : E} {alts : List (Nat × Nat)} (ho : EvOk T L P orc k o) (he : EsOk T L P orc k es) : EvOk T L P orc k (.meth ad mi o alts es) := by
  intro X W c x h
  unfold ck at h
  split at h
  · rename_i x m apos args cpos
    obtain ⟨h1, h⟩ := and_ h
    obtain ⟨h2, h⟩ := and_ h
    obtain ⟨h3, h⟩ := and_ h
    obtain ⟨h4, h⟩ := and_ h
    obtain ⟨h5, h⟩ := and_ h
    obtain ⟨h6, h⟩ := and_ h
    obtain ⟨h7, h8⟩ := and_ h
    have hm := c.fa.nm mi m (of_decide_eq_true h1)
    refine ⟨fun pins s σ H Q I ⟨F, φ, ρ, hh, hr, er, g⟩ => ?_⟩
    rw [q_meth] at g
    have hform : methodCallForm (args.length + ([] : List Keyword).length) (backTo cpos (starEach args X.env)) (backToKw cpos (keywordEach [] X.env)) = true := by
      unfold methodCallForm
      rw [nsFew _ _ _ h4]
      have : args.length < 20 := of_decide_eq_true h5
      show (true && true && decide (args.length + 0 + 0 < 30)) = true
      rw [decide_eq_true (by omega)]
      rfl
    refine PySem.W.methodCall_KW (pl := plainOf x X.env) (thn ((ho X W c _ h7).run pins s σ H (fun v H1 => ∃ φ1 h1 d, HR L F φ1 h1 H1 ∧ XT φ H φ1 H1 ∧ Rel L F φ1 H1 d v ∧ GE L F φ1 H1 (match methJ alts mi (insOf d h1) with
      | some j => (evs P orc es ρ h1).bind fun ds h2 => callJ P orc ad j (d :: ds) h2
      | none => .no) Q fun c d H' => W c d σ H') I ⟨F, φ, ρ, hh, hr, er, G.bind g fun d h1 φ1 H1 v e1 t1 hr1 rx g1 => ⟨φ1, h1, d, hr1, t1, rx, g1⟩⟩) fun u s1 ⟨v, H1, I1, rv, φ1, h1, d, hr1, t1, rx, g1⟩ => ?_) ?_
    · split at g1
      · rename_i j ej
        unfold methJ at ej
        split at ej
        · rename_i cl ks vs ei
          split at ej
          · cases ej
          · rename_i hc
            obtain ⟨a, dx, fs, ev, hH, e1, e2⟩ := insOf_ok hr1 rx ei
            subst ev
            have e3 := List.all_eq_true.mp h6 _ (getT_mem ej)
            dsimp only at e3
            split at e3
            · rename_i cl' m' n esn
              obtain ⟨a1, a2⟩ := and_ e3
              obtain ⟨a2, a3⟩ := and_ a2
              have a1 := of_decide_eq_true a1
              have a2 := of_decide_eq_true a2
              have a3 := of_decide_eq_true a3
              subst a1 a2
              obtain ⟨f1, fa, f2, f3⟩ := c.fa.meth X W c.same c.tk j cl m' n [] esn
              obtain rfl : u = Value.ref a := rv
              refine getmeth_ok I1 hH f1 f2 (by rw [← hm]; exact lookNo c.fa.inj e1 (by simpa using hc)) ?_
              exact callA (fd := [d]) (fs := [.ref a]) he c f2.kp f3 h4 h8 I1 hr1 (er.mono t1) (.cons rx .nil) (.cons rfl .nil) a3 g1
            · cases e3
        · cases ej
      · exact (G.no_ g1).elim
    · rw [arm_eval_Call, abBase _ _ _ _ h2]
      have : ∀ ov, methodCall x m apos cpos X.env ov (args.length + ([] : List Keyword).length) (backTo cpos (starEach args X.env)) (backToKw cpos (keywordEach [] X.env)) = _ := fun ov => mcall_line hform h3
      simp only [this]
  · cases h
theorem ev_att {o : E} {kk : Nat} {alts : List (Nat × Nat)} (ho : EvOk T L P orc k o) : EvOk T L P orc k (.att o kk alts) := by
  intro X W c x h
  unfold ck at h
  split at h
  · rename_i x f pos
    obtain ⟨h1, h⟩ := and_ h
    obtain ⟨h2, h⟩ := and_ h
    obtain ⟨h6, h7⟩ := and_ h
    have hm := c.fa.nm kk f (of_decide_eq_true h1)
    clear h1
    refine ⟨fun pins s σ H Q I ⟨F, φ, ρ, hh, hr, er, g⟩ => ?_⟩
    rw [q_att] at g
    refine attr_of (abBase _ _ _ _ h2) (thn ((ho X W c _ h7).run pins s σ H (fun v H1 => ∃ φ1 h1 d, HR L F φ1 h1 H1 ∧ XT φ H φ1 H1 ∧ Rel L F φ1 H1 d v ∧ GE L F φ1 H1 (match propJ alts (insOf d h1) with
      | some j => (callJ P orc false j [d] h1).pur
      | none => R.of (fieldD P.fld kk (insOf d h1)) h1) Q fun c d H' => W c d σ H') I ⟨F, φ, ρ, hh, hr, er, G.bind g fun d h1 φ1 H1 v e1 t1 hr1 rx g1 => ⟨φ1, h1, d, hr1, t1, rx, g1⟩⟩) fun u s1 ⟨v, H1, I1, rv, φ1, h1, d, hr1, t1, rx, g1⟩ => ?_)
    split at g1
    · rename_i j ej
      unfold propJ at ej
      split at ej
      · rename_i cl ks vs ei
        obtain ⟨a, dx, fs, ev, hH, e1, e2⟩ := insOf_ok hr1 rx ei
        subst ev
        have e3 := List.all_eq_true.mp h6 _ (getT_mem ej)
        dsimp only at e3
        split at e3
        · rename_i cl' f' esn
          obtain ⟨a1, a2⟩ := and_ e3
          have a1 := of_decide_eq_true a1
          have a2 := of_decide_eq_true a2
          subst a1 a2
          obtain rfl : u = Value.ref a := rv
          exact c.fa.prop X c.same j cl f' esn pins s1 σ H1 a dx fs Q F φ1 h1 d _ I1 hH hr1 rx g1
        · cases e3
      · cases ej
    · obtain ⟨dv, ed, g2⟩ := of_some g1
      unfold fieldD at ed
      split at ed
      · rename_i cl ks vs ei
        split at ed
        · rename_i hc
          obtain ⟨a, dx, fs, ev, hH, e1, e2⟩ := insOf_ok hr1 rx ei
          subst ev
          obtain ⟨f1, f2⟩ := c.fa.fld cl kk hc
          rw [hm] at f2
          obtain ⟨w, l1, l2⟩ := lookF_ok c.fa.inj e1 e2 ed
          rw [hm] at l1
          obtain rfl : u = Value.ref a := rv
          exact getattr_ok I1 hH f1 f2 l1 fun u' s2 I2 ru => ⟨w, H1, I2, ru, GE.one g2 hr1 l2⟩
        · cases ed
      · cases ed
  · cases h
/-! ### built-ins -/
theorem blt1 {b : Blt} {es : E} {f : List D → HH → R D} {m : Bool} (hf : ∀ ds h, bltD m b ds h = f ds h) {X : Cx} {W : WX} {x : Expr} {tt : TA → TE} (ht : ∀ t σ H Q, tt t σ H Q = tCB (rdL L f) t σ H Q) (hp : PE X x (tt (rdA L W (evs P orc es)))) : PE X x (rdE L W (ev P orc (.blt m b es))) := by
  refine hp.imp fun σ H Q ⟨F, φ, ρ, hh, hr, er, g⟩ => ?_
  rw [ht]
  rw [q_blt] at g
  refine ⟨F, φ, ρ, hh, hr, er, G.bind g fun ds h1 φ1 H1 vs e1 t1 hr1 rs g1 => ?_⟩
  rw [hf] at g1
  exact ⟨F, φ1, h1, ds, _, hr1, rs, g1⟩
theorem ev_blt {m : Bool} {b : Blt} {es : E} (he : EsOk T L P orc k es) : EvOk T L P orc k (.blt m b es) := by
  intro X W c x h
  unfold ck at h
  split at h
  · rename_i f p e rest pos
    obtain ⟨h1, h⟩ := and_ h
    obtain ⟨h2, h⟩ := and_ h
    obtain ⟨h3, h4⟩ := and_ h
    have h1 := of_decide_eq_true h1
    subst h1
    obtain ⟨g1, g2⟩ := glB_ h2
    obtain ⟨n1, n2⟩ := and_ (show (nsB e && nsAll rest) = true from h3)
    have pa := he X W c _ h4
    have hs := sEach e rest X.env n1
    have hn := nsPlain pos X.env rest n2
    have bf := c.fa.bf
    cases b with
    | len => exact blt1 (f := lenD) (fun _ _ => rfl) (fun _ _ _ _ => rfl) (pe_callB (len_ok c.fa.hK) g1 (bf _ (by decide)) boot_len pa (by decide) g2 hs hn)
    | abs => exact blt1 (f := absD) (fun _ _ => rfl) (fun _ _ _ _ => rfl) (pe_callB abs_ok g1 (bf _ (by decide)) boot_abs pa (by decide) g2 hs hn)
    | int => exact blt1 (f := intD) (fun _ _ => rfl) (fun _ _ _ _ => rfl) (pe_callTy int_ok g1 (bf _ (by decide)) boot_int pa (by decide) g2 hs hn)
    | list => exact blt1 (f := listD m) (fun _ _ => rfl) (fun _ _ _ _ => rfl) (pe_callTy (list_ok c.fa.hK m) g1 (bf _ (by decide)) boot_list pa (by decide) g2 hs hn)
    | tuple => exact blt1 (f := tupleD) (fun _ _ => rfl) (fun _ _ _ _ => rfl) (pe_callTy (tuple_ok c.fa.hK) g1 (bf _ (by decide)) boot_tuple pa (by decide) g2 hs hn)
    | sum => exact blt1 (f := sumD) (fun _ _ => rfl) (fun _ _ _ _ => rfl) (pe_callB (sum_ok c.fa.hK c.calm) g1 (bf _ (by decide)) boot_sum pa (by decide) g2 hs hn)
    | any => exact blt1 (f := anyD) (fun _ _ => rfl) (fun _ _ _ _ => rfl) (pe_callB (any_ok c.fa.hK c.calm) g1 (bf _ (by decide)) boot_any pa (by decide) g2 hs hn)
    | all => exact blt1 (f := allD) (fun _ _ => rfl) (fun _ _ _ _ => rfl) (pe_callB (all_ok c.fa.hK c.calm) g1 (bf _ (by decide)) boot_all pa (by decide) g2 hs hn)
    | min => exact blt1 (f := minD) (fun _ _ => rfl) (fun _ _ _ _ => rfl) (pe_callB (min_ok c.fa.hK c.calm) g1 (bf _ (by decide)) boot_min pa (by decide) g2 hs hn)
    | max => exact blt1 (f := maxD) (fun _ _ => rfl) (fun _ _ _ _ => rfl) (pe_callB (max_ok c.fa.hK c.calm) g1 (bf _ (by decide)) boot_max pa (by decide) g2 hs hn)
    | sorted => exact blt1 (f := sortedD m) (fun _ _ => rfl) (fun _ _ _ _ => rfl) (pe_callB (sorted_ok c.fa.hK m) g1 (bf _ (by decide)) boot_sorted pa (by decide) g2 hs hn)
  · cases h
/-! ### isinstance -/
theorem tyOf_ok {pg : Program} {w : World} {K : PySem.W.Frag} {mg : Str → Option Value} {base : Heap} (fa : Facts T L P orc k pg w K mg base) {F : Fm} {φ : List Addr} {H : Hp} {h : HH} {d : D} {v : V} {t : TyV} (x : HR L F φ h H) (r : Rel L F φ H d v) (e : tyOfD P.nc d h = some t) :
    TyX K H v (tvV L t) ∧ ∀ c, t = .own c → c < P.nc := by
  have tup : ∀ {a : Addr} {vs : List V}, SqT L.K H a vs → TyX K H (.ref a) (.type "tuple") := fun {a vs} q => by
    rcases q with (q | ⟨o, q⟩) | ⟨o, _, _, q1, q2, _⟩
    · exact .base (.tup q)
    · exact .fTuple q
    · exact .kTuple (by rw [fa.hK]; exact q1) q2
  have own : ∀ {a dx : Addr} {fs : List (Str × V)} {c : Nat}, H a = some (.ins (L.cl c) dx fs) → ownV P.nc c = some t → TyX K H (.ref a) (tvV L t) ∧ ∀ c, t = .own c → c < P.nc := fun {a dx fs c} q e => by
    unfold ownV at e
    split at e
    · rename_i hb
      cases e
      have hb : c < P.nc := Nat.le_of_ble_eq_true hb
      have i := fa.isc c hb
      exact ⟨.base (.ins q i.cl i.ha i.hn i.ht i.hm), fun c' z => by cases z; exact hb⟩
    · cases e
  cases r with
  | non => cases e; exact ⟨.base .non, fun _ z => by cases z⟩
  | bl b => cases e; exact ⟨.base (.bl _), fun _ z => by cases z⟩
  | int b => cases e; exact ⟨.base (.int _), fun _ z => by cases z⟩
  | str b => cases e; exact ⟨.base (.str _), fun _ z => by cases z⟩
  | cls _ => cases e
  | wd _ => cases e
  | tup q r => cases e; exact ⟨tup q, fun _ z => by cases z⟩
  | wtup e1 e2 e3 e4 e5 e6 r => cases e; exact ⟨tup (.inr ⟨_, _, _, e1, e2, e4, e5, e6⟩), fun _ z => by cases z⟩
  | lst q n f r => cases e; exact ⟨.base (.lst q), fun _ z => by cases z⟩
  | borK e1 e2 e3 e4 e5 e6 r => cases e; exact ⟨.kList (by rw [fa.hK]; exact e1) e2, fun _ z => by cases z⟩
  | bor q n f r =>
    cases e
    rcases q with q | ⟨o, q⟩
    · exact ⟨.base (.lst q), fun _ z => by cases z⟩
    · exact ⟨.base (.frz q), fun _ z => by cases z⟩
  | dct q n f kk r => cases e; exact ⟨.base (.dK q), fun _ z => by cases z⟩
  | obj q n f kk r => exact own q e
  | @ref n a q =>
    obtain ⟨o, e1, ro⟩ := x.ro q
    have e : (match h[n]? with
      | some o => tyOfO P.nc o
      | none => none) = some t := e
    rw [e1] at e
    cases ro with
    | lst q2 r => cases e; exact ⟨.base (.lst q2), fun _ z => by cases z⟩
    | dct q2 kk r => cases e; exact ⟨.base (.dK q2), fun _ z => by cases z⟩
    | ins q2 kk r => exact own q2 e
theorem tyV_rel (L : Lk) (u : Ty) : RelV (tyVV L u) (tyV' L u) ∧ ClsV (tyVV L u) (tyV' L u) := by
  cases u <;> exact ⟨rfl, by constructor⟩
theorem prMap (L : Lk) : ∀ ts : List Ty, Paired ClsV (ts.map (tyVV L)) (ts.map (tyV' L))
  | [] => .nil
  | u :: us => .cons (tyV_rel L u).2 (prMap L us)
/-- a type's name as an expression -/
theorem ty_name {X : Cx} {W : WX} (c : CX1 T L P orc k X W) {u : Ty} {x : Str} {p : Pos} (h1 : tyName T.cn u = x) (hu : ∀ i, u = .cls i → ∃ x, T.cn[i]? = some x) (h2 : glB X.env.scope x = true) : PE X (.Name x p) (tC (tyVV L u)) := by
  obtain ⟨g1, g2⟩ := glB_ h2
  subst h1
  cases u with
  | int => exact pe_bltn (x := "int") g1 (c.fa.bf _ (by decide)) boot_int rfl
  | bool => exact pe_bltn (x := "bool") g1 (c.fa.bf _ (by decide)) boot_bool rfl
  | str => exact pe_bltn (x := "str") g1 (c.fa.bf _ (by decide)) boot_str rfl
  | list => exact pe_bltn (x := "list") g1 (c.fa.bf _ (by decide)) boot_list rfl
  | tuple => exact pe_bltn (x := "tuple") g1 (c.fa.bf _ (by decide)) boot_tuple rfl
  | dict => exact pe_bltn (x := "dict") g1 (c.fa.bf _ (by decide)) boot_dict rfl
  | cls i =>
    obtain ⟨x, hx⟩ := hu i rfl
    have e : tyName T.cn (.cls i) = x := by
      show T.cn.getD i "?" = x
      rw [List.getD_eq_getElem?_getD, hx] <;> rfl
    rw [e] at g1 g2 ⊢
    exact pe_glob g1 (c.fa.ncl i x hx) rfl g2
theorem tys_ok {X : Cx} {W : WX} (c : CX1 T L P orc k X W) : ∀ {us : List Ty} {xs : List Expr}, ckTys T us xs = true → (xs.all fun z => match z with
        | .Name n _ => glB X.env.scope n
        | _ => false) = true → PA X xs (fun _ H Q => Q (us.map (tyVV L)) H) ∧ nsAll xs = true
  | [], [], _, _ => ⟨pa_nil, rfl⟩
  | [], _ :: _, h, _ => by
    unfold ckTys at h
    cases h
  | u :: us, [], h, _ => by
    unfold ckTys at h
    cases h
  | u :: us, x :: xs, h, g => by
    cases x with
    | Name n p =>
      unfold ckTys at h
      obtain ⟨h1, h2⟩ := and_ h
      obtain ⟨h3, h1⟩ := and_ h1
      rw [List.all_cons] at g
      obtain ⟨g1, g2⟩ := and_ g
      obtain ⟨q1, q2⟩ := tys_ok c h2 g2
      refine ⟨(pa_cons (ty_name c (of_decide_eq_true h3) (fun i e => ?_) g1) q1 (sEach _ _ _ rfl)).imp fun σ H Q q => q, q2⟩
      subst e
      dsimp only at h1
      exact Option.isSome_iff_exists.mp h1
    | _ =>
      unfold ckTys at h
      cases h
theorem tys_cls : ∀ {us : List Ty} {xs : List Expr}, ckTys T us xs = true → ∀ u ∈ us, ∀ i, u = .cls i → ∃ x, T.cn[i]? = some x
  | [], _, _, u, hu, _, _ => by cases hu
  | v :: us, [], h, _, _, _, _ => by
    unfold ckTys at h
    cases h
  | v :: us, x :: xs, h, u, hu, i, e => by
    cases x with
    | Name n p =>
      unfold ckTys at h
      obtain ⟨h1, h2⟩ := and_ h
      obtain ⟨h3, h1⟩ := and_ h1
      rcases List.mem_cons.mp hu with z | z
      · subst z
        subst e
        exact Option.isSome_iff_exists.mp h1
      · exact tys_cls h2 u z i e
    | _ =>
      unfold ckTys at h
      cases h
theorem ev_isi {a : E} {ts : List Ty} (ha : EvOk T L P orc k a) : EvOk T L P orc k (.isi a ts) := by
  intro X W c x h
  unfold ck at h
  split at h
  · rename_i f p y t pos
    obtain ⟨h1, h⟩ := and_ h
    obtain ⟨h2, h⟩ := and_ h
    obtain ⟨h3, h⟩ := and_ h
    obtain ⟨h4, h5⟩ := and_ h
    have h1 := of_decide_eq_true h1
    subst h1
    obtain ⟨g1, g2⟩ := glB_ h2
    have hy := ha X W c _ h4
    -- the answers
    have kitA : ∀ (tv : TyV), (∀ c, tv = .own c → c < P.nc) → ∀ us : List Ty, (∀ u ∈ us, ∀ i, u = .cls i → ∃ x, T.cn[i]? = some x) → PySem.W.kitAny X.K (tvV L tv) (us.map (tyV' L)) = some (us.any (tyIs tv)) := fun tv ht us => by
      induction us with
      | nil => intro _; rfl
      | cons u us ih =>
        intro hu
        refine kitAny_cons (c.fa.kit tv u ht (hu u (List.mem_cons_self ..))) (r := (u :: us).any (tyIs tv)) (fun e => ?_) (fun e => ?_)
        · rw [ih (fun u hm => hu u (List.mem_cons_of_mem _ hm)), List.any_cons, e] <;> rfl
        · rw [List.any_cons, e] <;> rfl
    have allC : ∀ {us : List Ty} {xs : List Expr}, ckTys T us xs = true → ∀ u ∈ us, ∀ i, u = .cls i → ∃ x, T.cn[i]? = some x := tys_cls
    split at h5
    · rename_i l kk tp
      obtain ⟨h50, h5⟩ := and_ h5
      obtain ⟨h5, h6⟩ := and_ h5
      obtain ⟨q1, q2⟩ := tys_ok c h5 h6
      refine (pe_callB call_isiT g1 (c.fa.bf _ (by decide)) boot_isinstance (pa_cons hy (pa_cons (pe_tup q1) pa_nil (sEach _ _ _ rfl)) (sEach _ _ _ h3)) (by decide) g2 (sEach _ _ _ h3) (nsPlain _ _ _ rfl)).imp fun σ H Q ⟨F, φ, ρ, hh, hr, er, g⟩ => ?_
      rw [q_isi] at g
      refine ⟨F, φ, ρ, hh, hr, er, G.bind g fun d h1 φ1 H1 v e1 t1 hr1 rx g1 => ⟨?_, fun tp hp => ?_⟩⟩
      · rw [List.length_map, sizeLine_eq]
        have := Nat.le_of_ble_eq_true h50
        omega
      · have t2 : XT φ1 H1 φ1 (upd H1 tp (.tup (ts.map (tyVV L)))) := XT.fresh hp
        have hr2 : HR L F φ1 h1 (upd H1 tp (.tup (ts.map (tyVV L)))) := hr1.fresh hp
        obtain ⟨b, e, q⟩ := mapbl hr2 (G.mono t2 g1)
        unfold isiD at e
        cases et : tyOfD P.nc d h1 with
        | none =>
          rw [et] at e
          cases e
        | some tv =>
          rw [et] at e
          cases (show some (ts.any (tyIs tv)) = some b from e)
          obtain ⟨z1, z2⟩ := tyOf_ok c.fa hr2 (rx.mono t2) et
          refine ⟨v, tp, _, tvV L tv, ts.map (tyV' L), _, rfl, upd_same, ?_, z1, kitA tv z2 ts (allC h5), q⟩
          exact prMap L ts
    · rename_i n tp
      obtain ⟨h5, h6⟩ := and_ h5
      cases ts with
      | nil =>
        unfold ckTys at h5
        cases h5
      | cons u us =>
        unfold ckTys at h5
        obtain ⟨h7, h8⟩ := and_ h5
        obtain ⟨h9, h7⟩ := and_ h7
        have e0 : us = [] := by
          cases us with
          | nil => rfl
          | cons _ _ =>
            unfold ckTys at h8
            cases h8
        subst e0
        have hu : ∀ i, u = .cls i → ∃ x, T.cn[i]? = some x := fun i e => by
          subst e
          exact Option.isSome_iff_exists.mp h7
        refine (pe_callB call_isi g1 (c.fa.bf _ (by decide)) boot_isinstance (pa_cons hy (pa_cons (ty_name c (of_decide_eq_true h9) hu h6) pa_nil (sEach _ _ _ rfl)) (sEach _ _ _ h3)) (by decide) g2 (sEach _ _ _ h3) (nsPlain _ _ _ rfl)).imp fun σ H Q ⟨F, φ, ρ, hh, hr, er, g⟩ => ?_
        rw [q_isi] at g
        refine ⟨F, φ, ρ, hh, hr, er, G.bind g fun d h1 φ1 H1 v e1 t1 hr1 rx g1 => ?_⟩
        obtain ⟨b, e, q⟩ := mapbl hr1 g1
        unfold isiD at e
        cases et : tyOfD P.nc d h1 with
        | none =>
          rw [et] at e
          cases e
        | some tv =>
          rw [et] at e
          cases (show some ([u].any (tyIs tv)) = some b from e)
          obtain ⟨z1, z2⟩ := tyOf_ok c.fa hr1 rx et
          refine ⟨v, tyVV L u, tvV L tv, tyV' L u, _, rfl, (tyV_rel L u).2, z1, c.fa.kit tv u z2 hu, ?_⟩
          rw [List.any_cons, List.any_nil, Bool.or_false] at q
          exact q
    · cases h5
  · cases h
/-! ### methods of lists -/
theorem isRcv_ok {F : Fm} {φ : List Addr} {H : Hp} {h : HH} {d : D} {v : V} (x : HR L F φ h H) (r : Rel L F φ H d v) (e : (listOf d h).isSome = true) : tyV L.K "list" v H := by
  obtain ⟨l, e⟩ := Option.isSome_iff_exists.mp e
  obtain ⟨a, vs, ev, q, _⟩ := listOf_ok x r e
  subst ev
  exact .inl ⟨rfl, vs, q⟩
theorem bm_run {o es : E} {x : Expr} {name : Str} {id TT : String} {apos cpos : Pos} {args : List Expr} {X : Cx} {W : WX} (ho : EvOk T L P orc k o) (he : EsOk T L P orc k es) (c : CX1 T L P orc k X W) (pa : PlainAttrs TT) (slot : Slot TT name id) (hty : typeOf (.builtin id) = pure (.type "method_descriptor"))
    {f : D → List D → HH → R D} {sel : D → HH → Bool} (hm : MtR X id (rdM L f)) (hsel : ∀ {F : Fm} {φ : List Addr} {H : Hp} {h : HH} {d : D} {v : V}, HR L F φ h H → Rel L F φ H d v → sel d h = true → tyV X.K TT v H)
    (h1 : abB x = true) (h2 : (apos.endLine == cpos.line) = true) (h3 : nsAll args = true) (h4 : args.length < 20) (h5 : ck T X.N o X.env.scope x = true) (h6 : cks T X.N es X.env.scope args = true) :
    PE X (.Call (.Attribute x name apos) args [] cpos) (rdE L W (fun ρ h => (ev P orc o ρ h).bind fun x h1 => match sel x h1 with
      | true => (evs P orc es ρ h1).bind fun ds h2 => f x ds h2
      | false => .no)) := by
  cases args with
  | nil =>
    refine (pe_bm0 pa slot hty hm (ho X W c _ h5) (abBase _ _ _ _ h1) h2).imp fun σ H Q ⟨F, φ, ρ, hh, hr, er, g⟩ => ?_
    refine ⟨F, φ, ρ, hh, hr, er, G.bind g fun d h1 φ1 H1 v e1 t1 hr1 rx g1 => ?_⟩
    split at g1
    · rename_i es1
      refine ⟨hsel hr1 rx es1, ?_⟩
      have e0 : es = .nil := by
        cases es <;> first | rfl | (unfold cks at h6; cases h6)
      subst e0
      rw [q_nil] at g1
      exact ⟨F, φ1, h1, d, [], _, hr1, rx, .nil, g1⟩
    · exact (G.no_ g1).elim
  | cons e rest =>
    obtain ⟨n1, n2⟩ := and_ (show (nsB e && nsAll rest) = true from h3)
    refine (pe_bm pa slot hty hm (ho X W c _ h5) (he X W c _ h6) (abBase _ _ _ _ h1) ?_ h2 (sEach _ _ _ n1) (nsPlain _ _ _ n2)).imp fun σ H Q ⟨F, φ, ρ, hh, hr, er, g⟩ => ?_
    · rw [nsFew _ _ _ h3]
      show (true && true && decide ((e :: rest).length + 0 + 0 < 30)) = true
      rw [decide_eq_true (by omega)] <;> rfl
    · refine ⟨F, φ, ρ, hh, hr, er, G.bind g fun d h1 φ1 H1 v e1 t1 hr1 rx g1 => ?_⟩
      split at g1
      · rename_i es1
        refine ⟨hsel hr1 rx es1, ?_⟩
        refine ⟨F, φ1, ρ, h1, hr1, er.mono t1, G.bind g1 fun ds h2 φ2 H2 vs e2 t2 hr2 rs g2 => ?_⟩
        exact ⟨F, φ2, h2, d, ds, _, hr2, rx.mono t2, rs, g2⟩
      · exact (G.no_ g1).elim
theorem ev_bm {b : BM} {o es : E} (ho : EvOk T L P orc k o) (he : EsOk T L P orc k es) : EvOk T L P orc k (.bm b o es) := by
  intro X W c x h
  unfold ck at h
  split at h
  · rename_i x m apos args cpos
    obtain ⟨h1, h⟩ := and_ h
    obtain ⟨h2, h⟩ := and_ h
    obtain ⟨h3, h⟩ := and_ h
    obtain ⟨h4, h⟩ := and_ h
    obtain ⟨h5, h⟩ := and_ h
    obtain ⟨h6, h7⟩ := and_ h
    have h1 := of_decide_eq_true h1
    have h5 := of_decide_eq_true h5
    subst h1
    have sl : ∀ {F : Fm} {φ : List Addr} {H : Hp} {h : HH} {d : D} {v : V}, HR L F φ h H → Rel L F φ H d v → (listOf d h).isSome = true → tyV X.K "list" v H := fun x r e => by
      rw [c.fa.hK]
      exact isRcv_ok x r e
    have fin : ∀ {f : D → List D → HH → R D} {sel : D → HH → Bool}, (∀ d h, isRcv b d h = sel d h) → (∀ d ds h, bmD b d ds h = f d ds h) → ∀ {y : Expr}, PE X y (rdE L W (fun ρ h => (ev P orc o ρ h).bind fun x h1 => match sel x h1 with
      | true => (evs P orc es ρ h1).bind fun ds h2 => f x ds h2
      | false => .no)) → PE X y (rdE L W (ev P orc (.bm b o es))) := fun {f sel} e1 e2 {y} p => by
      refine p.imp fun σ H Q ⟨F, φ, ρ, hh, hr, er, g⟩ => ⟨F, φ, ρ, hh, hr, er, ?_⟩
      rw [q_bm] at g
      simp only [e1, e2] at g
      exact g
    cases b with
    | append => exact fin (fun _ _ => rfl) (fun _ _ _ => rfl) (bm_run (f := appendD) (sel := fun d h => (listOf d h).isSome) ho he c F.plainAttrs_list F.slot_list_append F.type_list_append append_ok sl h2 h3 h4 h5 h6 h7)
    | pop => exact fin (fun _ _ => rfl) (fun _ _ _ => rfl) (bm_run (f := popD) (sel := fun d h => (listOf d h).isSome) ho he c F.plainAttrs_list F.slot_list_pop F.type_list_pop pop_ok sl h2 h3 h4 h5 h6 h7)
    | insert => exact fin (fun _ _ => rfl) (fun _ _ _ => rfl) (bm_run (f := insertD) (sel := fun d h => (listOf d h).isSome) ho he c F.plainAttrs_list F.slot_list_insert F.type_list_insert insert_ok sl h2 h3 h4 h5 h6 h7)
    | clear => exact fin (fun _ _ => rfl) (fun _ _ _ => rfl) (bm_run (f := clearD) (sel := fun d h => (listOf d h).isSome) ho he c F.plainAttrs_list F.slot_list_clear F.type_list_clear clear_ok sl h2 h3 h4 h5 h6 h7)
    | reverse => exact fin (fun _ _ => rfl) (fun _ _ _ => rfl) (bm_run (f := reverseD) (sel := fun d h => (listOf d h).isSome) ho he c F.plainAttrs_list F.slot_list_reverse F.type_list_reverse reverse_ok sl h2 h3 h4 h5 h6 h7)
    | index =>
      have pL := bm_run (f := lindexD) (sel := fun d h => (listOf d h).isSome) (cpos := cpos) (apos := apos) ho he c F.plainAttrs_list F.slot_list_index F.type_list_index (lindex_ok c.fa.hK c.hu) sl h2 h3 h4 h5 h6 h7
      have pT := bm_run (f := tindexD) (sel := fun d _ => match d with
        | .wtup _ => true
        | _ => false) (cpos := cpos) (apos := apos) ho he c F.plainAttrs_tuple F.slot_tuple_index F.type_tuple_index (tindex_ok c.fa.hK c.hu) (fun {F φ H h d v} x r e => by
          cases r with
          | wtup e1 e2 e3 e4 e5 e6 r => exact .inr (.inl ⟨rfl, _, by rw [c.fa.hK]; exact e1, e2, e3⟩)
          | _ => cases e) h2 h3 h4 h5 h6 h7
      refine (pL.or pT).imp fun σ H Q ⟨F, φ, ρ, hh, hr, er, g⟩ => ?_
      rw [q_bm] at g
      cases eo : ev P orc o ρ hh with
      | ok d h1 =>
        rw [eo] at g
        cases d with
        | wtup l =>
          refine .inr ⟨F, φ, ρ, hh, hr, er, ?_⟩
          simp only [eo]
          exact g
        | _ =>
          refine .inl ⟨F, φ, ρ, hh, hr, er, ?_⟩
          simp only [eo]
          exact g
      | exc _ _ _ _ =>
        refine .inl ⟨F, φ, ρ, hh, hr, er, ?_⟩
        rw [eo] at g
        simp only [eo]
        exact g
      | no =>
        rw [eo] at g
        exact (G.no_ g).elim
  · cases h
end
end MV

set_option maxRecDepth 100000
set_option maxHeartbeats 1000000
/-! VI: targets, iterators, comprehensions. -/
namespace MV
open PySem PySem.Spec PyProof.Rows L2
/-! ### frames -/
end MV
namespace L2
open PySem PySem.Spec PyProof.Rows
theorem PG.imp {X : Cx} {e : Expr} {t t' : TG} (p : PG X e t) (q : ∀ v σ H Q, t' v σ H Q → t v σ H Q) : PG X e t' := ⟨fun pins s σ H v u Q I r h => p.run pins s σ H v u Q I r (q v σ H Q h)⟩
theorem PGs.imp {X : Cx} {e : List Expr} {t t' : TGs} (p : PGs X e t) (q : ∀ v σ H Q, t' v σ H Q → t v σ H Q) : PGs X e t' := ⟨fun pins s σ H v u Q I r h => p.run pins s σ H v u Q I r (q v σ H Q h)⟩
theorem PG.or {X : Cx} {e : Expr} {t t' : TG} (p : PG X e t) (q : PG X e t') : PG X e (fun v σ H Q => t v σ H Q ∨ t' v σ H Q) := ⟨fun pins s σ H v u Q I r h => h.elim (p.run pins s σ H v u Q I r) (q.run pins s σ H v u Q I r)⟩
theorem PI.imp {X : Cx} {tg e : Expr} {t t' : TI} (p : PI X tg e t) (q : ∀ σ H R, t' σ H R → t σ H R) : PI X tg e t' := ⟨fun pins s σ H R I h => p.run pins s σ H R I (q σ H R h)⟩
theorem PI.or {X : Cx} {tg e : Expr} {t t' : TI} (p : PI X tg e t) (q : PI X tg e t') : PI X tg e (fun σ H R => t σ H R ∨ t' σ H R) := ⟨fun pins s σ H R I h => h.elim (p.run pins s σ H R I) (q.run pins s σ H R I)⟩
end L2
namespace MV
open PySem PySem.Spec PyProof.Rows L2
section
variable {L : Lk} {F F' : Fm} {φ ψ : List Addr} {H : Hp} {h : HH}
mutual
theorem Rel.re (hn : ∀ a o, H a = some o → a ∉ φ → ¬ F.no a → a ∉ ψ ∧ ¬ F'.no a) (hb : ∀ a, F.bo a → a ∉ φ → F'.bo a ∧ a ∉ ψ) (hφ : ∀ (n : Nat) (a : Addr), φ[n]? = some a → ψ[n]? = some a) : ∀ {d : D} {v : V}, Rel L F φ H d v → Rel L F' ψ H d v
  | _, _, .non => .non
  | _, _, .bl b => .bl b
  | _, _, .int i => .int i
  | _, _, .str s => .str s
  | _, _, .cls c => .cls c
  | _, _, .wd c => .wd c
  | _, _, .tup e r => .tup e (Rels.re hn hb hφ r)
  | _, _, .wtup e1 e2 e3 e4 e5 e6 r => .wtup e1 e2 e3 e4 e5 e6 (Rels.re hn hb hφ r)
  | _, _, .borK e1 e2 e3 e4 e5 e6 r => .borK e1 e2 e3 e4 e5 e6 (Rels.re hn hb hφ r)
  | _, _, .lst e n f r => .lst e (hn _ _ e n f).1 (hn _ _ e n f).2 (Rels.re hn hb hφ r)
  | _, _, .bor e n b r => .bor e (hb _ b n).2 (hb _ b n).1 (Rels.re hn hb hφ r)
  | _, _, .dct e n f k r => .dct e (hn _ _ e n f).1 (hn _ _ e n f).2 k (Rels.re hn hb hφ r)
  | _, _, .obj e n f k r => .obj e (hn _ _ e n f).1 (hn _ _ e n f).2 k (Rels.re hn hb hφ r)
  | _, _, .ref e => .ref (hφ _ _ e)
theorem Rels.re (hn : ∀ a o, H a = some o → a ∉ φ → ¬ F.no a → a ∉ ψ ∧ ¬ F'.no a) (hb : ∀ a, F.bo a → a ∉ φ → F'.bo a ∧ a ∉ ψ) (hφ : ∀ (n : Nat) (a : Addr), φ[n]? = some a → ψ[n]? = some a) : ∀ {ds : List D} {vs : List V}, Rels L F φ H ds vs → Rels L F' ψ H ds vs
  | _, _, .nil => .nil
  | _, _, .cons r t => .cons (Rel.re hn hb hφ r) (Rels.re hn hb hφ t)
end
theorem RO.re {a : Addr} {o : O} (hn : ∀ a o, H a = some o → a ∉ φ → ¬ F.no a → a ∉ ψ ∧ ¬ F'.no a) (hb : ∀ a, F.bo a → a ∉ φ → F'.bo a ∧ a ∉ ψ) (hφ : ∀ (n : Nat) (a : Addr), φ[n]? = some a → ψ[n]? = some a) (r : RO L F φ H a o) : RO L F' ψ H a o := by
  cases r with
  | lst q r => exact .lst q (r.re hn hb hφ)
  | dct q k r => exact .dct q k (r.re hn hb hφ)
  | ins q k r => exact .ins q k (r.re hn hb hφ)
/-- one more thing may not be told -/
def Fm.plus (F : Fm) (p : Addr) : Fm := ⟨fun a => F.no a ∨ a = p, F.bo⟩
theorem HR.guard {p : Addr} {o : HO} (x : HR L F φ h H) (e : H p = none) : HR L (F.plus p) φ h (upd H p o) := by
  have y : HR L F φ h (upd H p o) := x.fresh e
  refine ⟨x.len, x.nod, fun n a w q z => ?_, fun a m => ?_, fun a m => ?_, fun a m => .inl (x.bn a m)⟩
  · have r := x.at_ n a w q z
    obtain ⟨u, hu, _⟩ := r.has
    refine (RO.frame (F' := F.plus p) (fun a o q m => m.elim id fun z => ?_) (fun _ z => z) r).mono (.fresh e) (upd_ne (ne_of_none hu e))
    rw [z, e] at q
    cases q
  · rintro (z | z)
    · exact x.own a m z
    · rw [z] at m
      exact x.nin e m
  · rcases m with z | z
    · exact y.trk a z
    · rw [z]
      exact ⟨_, upd_same⟩
theorem HR.unguard {p : Addr} (x : HR L (F.plus p) φ h H) (bn : ∀ a, F.bo a → F.no a) : HR L F φ h H :=
  ⟨x.len, x.nod, fun n a o q w => RO.frame (F := F.plus p) (F' := F) (fun _ _ _ m => Or.inl m) (fun _ z => z) (x.at_ n a o q w), fun a m z => x.own a m (.inl z), fun a m => x.trk a (.inl m), bn⟩
/-- the list that was built becomes ours -/
theorem HR.take {p : Addr} {vs : List V} {l : List D} (x : HR L (F.plus p) φ h H) (bn : ∀ a, F.bo a → F.no a) (nb : ¬ F.bo p) (nn : ¬ F.no p) (hp : H p = some (.lst vs)) (r : Rels L (F.plus p) φ H l vs) : HR L F (φ ++ [p]) (h ++ [.lst l]) H := by
  have np : p ∉ φ := fun m => x.own p m (.inr rfl)
  have h1 : ∀ a o, H a = some o → a ∉ φ → ¬ (F.plus p).no a → a ∉ φ ++ [p] ∧ ¬ F.no a := fun a o _ n f => ⟨fun z => by
    rcases List.mem_append.mp z with z | z
    · exact n z
    · exact f (.inr (List.mem_singleton.mp z)), fun z => f (.inl z)⟩
  have h2 : ∀ a, (F.plus p).bo a → a ∉ φ → F.bo a ∧ a ∉ φ ++ [p] := fun a b n => ⟨b, fun z => by
    rcases List.mem_append.mp z with z | z
    · exact n z
    · rw [List.mem_singleton.mp z] at b
      exact nb b⟩
  have h3 : ∀ (n : Nat) (a : Addr), φ[n]? = some a → (φ ++ [p])[n]? = some a := fun n a e => by
    rw [List.getElem?_append_left (List.getElem?_eq_some_iff.mp e).1]
    exact e
  refine ⟨by simp [x.len], ?_, fun n a o q z => ?_, fun a m => ?_, fun a m => x.trk a (.inl m), bn⟩
  · rw [List.nodup_append]
    refine ⟨x.nod, by simp, fun a ha b hb => ?_⟩
    rw [List.mem_singleton.mp hb]
    rintro rfl
    exact np ha
  · by_cases hn : n < φ.length
    · rw [List.getElem?_append_left hn] at q
      rw [List.getElem?_append_left (by rw [← x.len]; exact hn)] at z
      exact (x.at_ n a o q z).re h1 h2 h3
    · have l := (List.getElem?_eq_some_iff.mp q).1
      rw [List.length_append, List.length_singleton] at l
      have en : n = φ.length := by omega
      subst en
      rw [List.getElem?_append_right (Nat.le_refl _), Nat.sub_self] at q
      have q' : p = a := Option.some.inj q
      subst q'
      rw [x.len, List.getElem?_append_right (Nat.le_refl _), Nat.sub_self] at z
      have z' : O.lst _ = o := Option.some.inj z
      subst z'
      exact .lst hp (r.re h1 h2 h3)
  · rcases List.mem_append.mp m with m | m
    · exact fun z => x.own a m (.inl z)
    · rw [List.mem_singleton.mp m]
      exact nn
theorem XT.poke {φ' : List Addr} {H' : Hp} {p : Addr} {o : HO} (t : XT φ H φ' H') (e : H p = none) : XT φ H φ' (upd H' p o) := by
  have ne : ∀ {a : Addr} {u : HO}, H a = some u → a ≠ p := fun {a u} q => ne_of_none q e
  refine ⟨t.pre, fun a u q n => by rw [upd_ne (ne q)]; exact t.keep a u q n, fun a xs q => by rw [upd_ne (ne q)]; exact t.tup a xs q, fun a u w q => by rw [upd_ne (ne q)]; exact t.frz a u w q, fun a u q => by rw [upd_ne (ne q)]; exact t.trk a u q⟩
end
/-! ### targets -/
/-- only these slots changed -/
def SlotsIn (vs : List Nat) (σ σ' : L2.St) : Prop := σ'.length = σ.length ∧ ∀ j, j ∉ vs → σ'[j]? = σ[j]?
theorem SlotsIn.refl (vs : List Nat) (σ : L2.St) : SlotsIn vs σ σ := ⟨rfl, fun _ _ => rfl⟩
theorem SlotsIn.trans {vs ws : List Nat} {σ σ1 σ2 : L2.St} (a : SlotsIn vs σ σ1) (b : SlotsIn ws σ1 σ2) : SlotsIn (vs ++ ws) σ σ2 :=
  ⟨b.1.trans a.1, fun j hj => by
    rw [List.mem_append, not_or] at hj
    rw [b.2 j hj.2, a.2 j hj.1]⟩
theorem wipe_in {σ : L2.St} {j : Nat} : ∀ {vs : List Nat}, j ∈ vs → j < σ.length → (L2.wipe σ vs)[j]? = some none
  | [], h, _ => by cases h
  | v :: vs, h, hl => by
    unfold L2.wipe
    by_cases hv : v = j
    · subst hv
      rw [List.getElem?_set_self (by rw [wipe_length]; exact hl)]
    · rw [List.getElem?_set_ne hv]
      exact wipe_in ((List.mem_cons.mp h).resolve_left (Ne.symm hv)) hl
theorem SlotsIn.wipe {vs ws : List Nat} {σ σ' : L2.St} (a : SlotsIn vs σ σ') (hw : ∀ i ∈ vs, i ∈ ws) : L2.wipe σ' ws = L2.wipe σ ws := by
  refine List.ext_getElem? fun j => ?_
  by_cases hj : j ∈ ws
  · by_cases hl : j < σ.length
    · rw [wipe_in hj hl, wipe_in hj (by rw [a.1]; exact hl)]
    · rw [List.getElem?_eq_none (by rw [wipe_length, a.1]; omega), List.getElem?_eq_none (by rw [wipe_length]; omega)]
  · rw [wipe_out hj, wipe_out hj]
    exact a.2 j fun z => hj (hw j z)
def GT (L : Lk) (F : Fm) (φ : List Addr) (H : Hp) (vs : List Nat) (σ : L2.St) (r : R Env) (Q : L2.St → Hp → Prop) : Prop := match r with
  | .ok ρ' h' => ∀ φ' H' σ', XT φ H φ' H' → HR L F φ' h' H' → ER L F φ' H' ρ' σ' → SlotsIn vs σ σ' → Q σ' H'
  | _ => False
def rdG (L : Lk) (vs : List Nat) (f : D → Env → HH → R Env) : TG := fun v σ H Q => ∃ F φ ρ h d, HR L F φ h H ∧ ER L F φ H ρ σ ∧ Rel L F φ H d v ∧ GT L F φ H vs σ (f d ρ h) Q
def rdGs (L : Lk) (vs : List Nat) (f : List D → Env → HH → R Env) : TGs := fun ws σ H Q => ∃ F φ ρ h ds, HR L F φ h H ∧ ER L F φ H ρ σ ∧ Rels L F φ H ds ws ∧ GT L F φ H vs σ (f ds ρ h) Q
section
variable (T : Tb) (L : Lk) (P : Prog) (orc : Orc) (k : Nat)
def TgOk (e : E) : Prop := ∀ X W, CX1 T L P orc k X W → ∀ x, ckG T X.N e X.fn X.env.scope x = true → PG X x (rdG L (tgSlots e) (asg P orc e))
def TgsOk (e : E) : Prop := ∀ X W, CX1 T L P orc k X W → ∀ xs, ckGs T X.N e X.fn X.env.scope xs = true → nsAll xs = true → PGs X xs (rdGs L (tgSlots e) (asgs P orc e)) ∧ (assignEach xs X.env).findIdx? (·.1) = none ∧ (assignEach xs X.env).length = xs.length ∧ ∀ F φ H ρ h ds σ Q, GT L F φ H (tgSlots e) σ (asgs P orc e ds ρ h) Q → ds.length = xs.length
end
section
variable {T : Tb} {L : Lk} {P : Prog} {orc : Orc} {k : Nat}
theorem tg_n {i : Nat} : TgOk T L P orc k (.t_n i) := by
  intro X W c x h
  unfold ckG at h
  split at h
  · rename_i y p
    obtain ⟨h1, h2⟩ := and_ h
    have h1 := of_decide_eq_true h1
    have hx : Loc X.env.scope y ∧ (X.fn y = true ∨ X.env.scope.names.lookup y = some .local) := by
      rcases Bool.or_eq_true_iff.mp h2 with z | z
      · exact ⟨.inl (locB_ z), .inr (locB_ z)⟩
      · obtain ⟨z1, z2⟩ := and_ z
        exact ⟨stoB_ z2, .inl z1⟩
    refine (pg_name c.nd h1 hx.1 hx.2).imp fun v σ H Q ⟨F, φ, ρ, hh, d, hr, er, rd, g⟩ => ?_
    rw [q_t_n] at g
    exact g φ H _ (.refl φ H) hr (er.set rd) ⟨by simp, fun j hj => List.getElem?_set_ne (fun z => hj (by
      show j ∈ [i]
      rw [z]
      exact List.mem_singleton.mpr rfl))⟩
  · cases h
theorem tgs_nil : TgsOk T L P orc k .nil := by
  intro X W c xs h hn
  unfold ckGs at h
  split at h
  · refine ⟨pgs_nil.imp fun v σ H Q ⟨F, φ, ρ, hh, ds, hr, er, rd, g⟩ => ?_, rfl, rfl, fun F φ H ρ h ds σ Q g => ?_⟩
    · rw [gq_nil] at g
      split at g
      · cases rd
        exact ⟨rfl, g φ H _ (.refl φ H) hr er (.refl _ _)⟩
      · exact g.elim
    · rw [gq_nil] at g
      split at g
      · rfl
      · exact g.elim
  · cases h
theorem aEach (x : Expr) (xs : List Expr) (env : PySem.Env) (h : nsB x = true) : assignEach (x :: xs) env = (false, assign x env) :: assignEach xs env := by
  cases x <;> first | rfl | cases h
theorem tgs_cons {e es : E} (ha : TgOk T L P orc k e) (hb : TgsOk T L P orc k es) : TgsOk T L P orc k (.cons e es) := by
  intro X W c xs h hn
  unfold ckGs at h
  split at h
  · rename_i x ys
    obtain ⟨h1, h2⟩ := and_ h
    obtain ⟨n1, n2⟩ := and_ (show (nsB x && nsAll ys) = true from hn)
    obtain ⟨p1, p2, p3, p4⟩ := hb X W c _ h2 n2
    refine ⟨(pgs_cons (ha X W c _ h1) p1 (by rw [aEach _ _ _ n1] <;> rfl)).imp fun v σ H Q ⟨F, φ, ρ, hh, ds, hr, er, rd, g⟩ => ?_, ?_, ?_, fun F φ H ρ h ds σ Q g => ?_⟩
    · rw [gq_cons] at g
      split at g
      · rename_i d r
        cases rd with
        | cons rd rds =>
          refine ⟨_, _, rfl, F, φ, ρ, hh, d, hr, er, rd, ?_⟩
          cases ea : asg P orc e d ρ hh with
          | ok ρ1 h1 =>
            rw [ea] at g
            have g : GT L F φ H (tgSlots (.cons e es)) σ (asgs P orc es r ρ1 h1) Q := g
            intro φ1 H1 σ1 t1 hr1 er1 s1
            refine ⟨F, φ1, ρ1, h1, r, hr1, er1, rds.mono t1, ?_⟩
            cases eb : asgs P orc es r ρ1 h1 with
            | ok ρ2 h2 =>
              rw [eb] at g
              exact fun φ2 H2 σ2 t2 hr2 er2 s2 => g φ2 H2 σ2 (t1.trans t2) hr2 er2 (s1.trans s2)
            | exc _ _ _ _ =>
              rw [eb] at g
              exact g
            | no =>
              rw [eb] at g
              exact g
          | exc _ _ _ _ =>
            rw [ea] at g
            exact g
          | no =>
            rw [ea] at g
            exact g
      · exact g.elim
    · rw [aEach _ _ _ n1, List.findIdx?_cons]
      show Option.map _ ((assignEach ys X.env).findIdx? (·.1)) = none
      rw [p2] <;> rfl
    · rw [aEach _ _ _ n1, List.length_cons, List.length_cons, p3]
    · rw [gq_cons] at g
      split at g
      · rename_i d r
        cases ea : asg P orc e d ρ h with
        | ok ρ1 h1 =>
          rw [ea] at g
          have g : GT L F φ H (tgSlots (.cons e es)) σ (asgs P orc es r ρ1 h1) Q := g
          have : GT L F φ H (tgSlots es) σ (asgs P orc es r ρ1 h1) (fun _ _ => True) := by
            cases eb : asgs P orc es r ρ1 h1 with
            | ok ρ2 h2 => exact fun _ _ _ _ _ _ _ => trivial
            | exc _ _ _ _ =>
              rw [eb] at g
              exact g
            | no =>
              rw [eb] at g
              exact g
          rw [List.length_cons, List.length_cons, p4 F φ H ρ1 h1 r σ _ this]
        | exc _ _ _ _ =>
          rw [ea] at g
          exact g.elim
        | no =>
          rw [ea] at g
          exact g.elim
      · exact g.elim
  · cases h
theorem tg_t {es : E} (he : TgsOk T L P orc k es) : TgOk T L P orc k (.t_t es) := by
  intro X W c x h
  unfold ckG at h
  split at h
  · rename_i l kk pos
    obtain ⟨h1, h2⟩ := and_ h
    obtain ⟨p1, p2, p3, p4⟩ := he X W c _ h2 h1
    refine ((pg_tup (n := l.length) c.calm p1 p3 p2).or (pg_lst (n := l.length) c.calm p1 p3 p2)).imp fun v σ H Q ⟨F, φ, ρ, hh, d, hr, er, rd, g⟩ => ?_
    rw [q_t_t] at g
    split at g
    · rename_i ds e
      obtain ⟨a, vs, ev, hq, rs⟩ := seqOf_ok hr rd e
      have hl := p4 F φ H ρ hh ds σ Q g
      have el : vs.length = l.length := by rw [← rs.length]; exact hl
      rcases hq with hq | hq
      · exact .inr ⟨a, vs, ev, by rw [c.fa.hK]; exact hq, el, F, φ, ρ, hh, ds, hr, er, rs, g⟩
      · exact .inl ⟨a, vs, ev, by rw [c.fa.hK]; exact hq, el, F, φ, ρ, hh, ds, hr, er, rs, g⟩
    · exact g.elim
  · cases h
theorem tg_s {o i : E} (ho : EvOk T L P orc k o) (hi : EvOk T L P orc k i) : TgOk T L P orc k (.t_s o i) := by
  intro X W c x h
  unfold ckG at h
  split at h
  · rename_i x y pos
    obtain ⟨h1, h⟩ := and_ h
    obtain ⟨h2, h3⟩ := and_ h
    refine (pg_sub (ho X W c _ h2) (hi X W c _ h3) (set_ok (L := L) c.hu) (fun v => ?_)).imp fun v σ H Q ⟨F, φ, ρ, hh, d, hr, er, rd, g⟩ => ?_
    · cases y <;> first | rfl | cases h1
    · rw [q_t_s] at g
      refine ⟨F, φ, ρ, hh, hr, er, ?_⟩
      cases eo : ev P orc o ρ hh with
      | ok dx h1 =>
        rw [eo] at g
        intro φ1 H1 vo t1 hr1 ro
        refine ⟨F, φ1, ρ, h1, hr1, er.mono t1, ?_⟩
        have g : GT L F φ H (tgSlots (.t_s o i)) σ ((ev P orc i ρ h1).bind fun y h2 => match setD dx y d h2 with
          | some h3 => R.ok ρ h3
          | none => R.no) Q := g
        cases ei : ev P orc i ρ h1 with
        | ok dy h2 =>
          rw [ei] at g
          have g : GT L F φ H (tgSlots (.t_s o i)) σ (match setD dx dy d h2 with
            | some h3 => R.ok ρ h3
            | none => R.no) Q := g
          intro φ2 H2 vi t2 hr2 ri
          split at g
          · rename_i h3 es
            refine ⟨F, φ2, h2, dx, dy, d, h3, hr2, ro.mono t2, ri, (rd.mono t1).mono t2, es, fun φ3 H3 t3 hr3 => ?_⟩
            exact g φ3 H3 σ ((t1.trans t2).trans t3) hr3 (((er.mono t1).mono t2).mono t3) (.refl _ _)
          · exact g.elim
        | exc _ _ _ _ =>
          rw [ei] at g
          exact g.elim
        | no =>
          rw [ei] at g
          exact g.elim
      | exc _ _ _ _ =>
        rw [eo] at g
        exact g.elim
      | no =>
        rw [eo] at g
        exact g.elim
  · cases h
end
end MV

set_option maxRecDepth 100000
set_option maxHeartbeats 1000000
/-! VJ: iterators, comprehensions. -/
namespace MV
open PySem PySem.Spec PyProof.Rows L2
/-- the item at a turn -/
def itGet : Itr → Nat → HH → Option (Option D)
  | .items l, i, _ => some l[i]?
  | .live n, i, h => match h[n]? with
    | some (.lst l) => some l[i]?
    | _ => none
def ItOk (L : Lk) (F : Fm) (φ : List Addr) (H : Hp) (J : It) (I : Itr) : Prop := ∀ (F' : Fm), (∀ a o, H a = some o → F'.no a → F.no a) → (∀ a, F.bo a → F'.bo a) → ∀ i φ' H' h', XT φ H φ' H' → HR L F' φ' h' H' →
  (∀ d, itGet I i h' = some (some d) → J.go i H' ∧ ∀ x H'', J.yld i H' x H'' → XT φ' H' φ' H'' ∧ HR L F' φ' h' H'' ∧ Rel L F' φ' H'' d x) ∧ (itGet I i h' = some none → J.stop i H')
def rdI (L : Lk) (W : WX) (f : Env → HH → R Itr) : TI := fun σ H R => ∃ F φ ρ h, HR L F φ h H ∧ ER L F φ H ρ σ ∧ G L F φ H (fun φ H I J => ItOk L F φ H J I) (f ρ h) R fun c d H' => W c d σ H'
section
variable (T : Tb) (L : Lk) (P : Prog) (orc : Orc) (k : Nat)
def ItEx (e : E) : Prop := ∀ X W, CX1 T L P orc k X W → ∀ tg x, ckI T X.N e tg X.env.scope x = true → PI X tg x (rdI L W (itm P orc e))
def FsOk (e : E) : Prop := ∀ X W, CX1 T L P orc k X W → ∀ xs, ckF T X.N e X.env.scope xs = true → PTs X xs (rdT L W (tsts P orc e))
end
section
variable {T : Tb} {L : Lk} {P : Prog} {orc : Orc} {k : Nat} {F : Fm} {φ : List Addr} {H : Hp} {h : HH}
theorem enumL_get : ∀ {l : List D} {n i : Nat}, (enumL n l)[i]? = (l[i]?).map fun d => .tup [.int ((n + i : Nat) : Int), d]
  | [], n, i => by simp [enumL]
  | x :: xs, n, 0 => by simp [enumL]
  | x :: xs, n, i + 1 => by
    show (enumL (n + 1) xs)[i]? = _
    rw [enumL_get]
    simp [Nat.add_assoc, Nat.add_comm 1 i]
theorem pairL_get : ∀ {k l : List D} {i : Nat}, (pairL k l)[i]? = match k[i]?, l[i]? with
    | some x, some y => some (.tup [x, y])
    | _, _ => none
  | [], l, i => by simp [pairL]
  | x :: xs, [], i => by
    simp only [pairL, List.getElem?_nil]
    cases (x :: xs)[i]? <;> rfl
  | x :: xs, y :: ys, 0 => rfl
  | x :: xs, y :: ys, i + 1 => by
    show (pairL xs ys)[i]? = _
    rw [pairL_get]
    rfl
theorem rangeL_get {lo hi : Int} {i : Nat} : (rangeL lo hi)[i]? = if i < (hi - lo).toNat then some (.int (lo + (i : Int))) else none := by
  unfold rangeL
  rw [List.getElem?_map]
  by_cases hi' : i < (hi - lo).toNat
  · rw [List.getElem?_range hi', if_pos hi'] <;> rfl
  · rw [List.getElem?_eq_none (by simpa using hi'), if_neg hi'] <;> rfl
/-- written items of a list -/
theorem it_L {K : PySem.W.Frag} {a : Addr} {l : List D} (st : ∀ (F' : Fm), (∀ a o, H a = some o → F'.no a → F.no a) → (∀ a, F.bo a → F'.bo a) → ∀ φ' H' h', XT φ H φ' H' → HR L F' φ' h' H' → ∃ vs, SqL K H' a vs ∧ Rels L F' φ' H' l vs) : ItOk L F φ H (Itl K a) (.items l) := by
  intro F' h1 h2 i φ' H' h' t hr
  obtain ⟨vs, q, rs⟩ := st F' h1 h2 φ' H' h' t hr
  refine ⟨fun d e => ?_, fun e => ?_⟩
  · obtain ⟨v, ev, rv⟩ := rs.get (Option.some.inj e)
    refine ⟨⟨vs, v, q, ev⟩, fun x H'' y => ?_⟩
    obtain ⟨y1, y2⟩ := y
    subst y1
    have := y2 vs q
    rw [ev] at this
    cases this
    exact ⟨.refl _ _, hr, rv⟩
  · refine ⟨vs, q, ?_⟩
    rw [← rs.length]
    exact List.getElem?_eq_none_iff.mp (Option.some.inj e)
theorem it_T {K : PySem.W.Frag} {a : Addr} {l : List D} (st : ∀ (F' : Fm), (∀ a o, H a = some o → F'.no a → F.no a) → (∀ a, F.bo a → F'.bo a) → ∀ φ' H' h', XT φ H φ' H' → HR L F' φ' h' H' → ∃ vs, SqT K H' a vs ∧ Rels L F' φ' H' l vs) : ItOk L F φ H (Itt K a) (.items l) := by
  intro F' h1 h2 i φ' H' h' t hr
  obtain ⟨vs, q, rs⟩ := st F' h1 h2 φ' H' h' t hr
  refine ⟨fun d e => ?_, fun e => ?_⟩
  · obtain ⟨v, ev, rv⟩ := rs.get (Option.some.inj e)
    refine ⟨⟨vs, v, q, ev⟩, fun x H'' y => ?_⟩
    obtain ⟨y1, y2⟩ := y
    subst y1
    have := y2 vs q
    rw [ev] at this
    cases this
    exact ⟨.refl _ _, hr, rv⟩
  · refine ⟨vs, q, ?_⟩
    rw [← rs.length]
    exact List.getElem?_eq_none_iff.mp (Option.some.inj e)
/-- what a frozen value's list stays -/
theorem later {d : D} {v : V} (r : Rel L F φ H d v) {F' : Fm} (h1 : ∀ a o, H a = some o → F'.no a → F.no a) (h2 : ∀ a, F.bo a → F'.bo a) {φ' : List Addr} {H' : Hp} (t : XT φ H φ' H') : Rel L F' φ' H' d v := (r.frame h1 h2).mono t
theorem it_e {e : E} (he : EvOk T L P orc k e) : ItEx T L P orc k (.i_e e) := by
  intro X W c tg x h
  unfold ckI at h
  have p := he X W c x h
  refine ((pi_list (tg := tg) p).or (pi_tup p)).imp fun σ H RR ⟨F, φ, ρ, hh, hr, er, g⟩ => ?_
  rw [q_i_e] at g
  have list : ∀ {l : List D} {φ1 : List Addr} {H1 : Hp} {h1 : HH} {v : V} {dv : D}, (dv = .lst l ∨ dv = .bor l) → HR L F φ1 h1 H1 → Rel L F φ1 H1 dv v → G L F φ1 H1 (fun φ H I J => ItOk L F φ H J I) (R.ok (Itr.items l) h1) RR (fun c d H' => W c d σ H') →
      ∃ a, v = .ref a ∧ (∃ xs, SqL X.K H1 a xs) ∧ RR (Itl X.K a) H1 := fun {l φ1 H1 h1 v dv} ed hr1 rx g1 => by
    have e1 : listOf dv h1 = some l := by rcases ed with z | z <;> (subst z; rfl)
    obtain ⟨a, vs, ev, q, rs⟩ := listOf_ok hr1 rx e1
    subst ev
    have io : ItOk L F φ1 H1 (Itl X.K a) (.items l) := it_L fun F' z1 z2 φ' H' h' t hr' => by
      have rx' := later rx z1 z2 t
      have e2 : listOf dv h' = some l := by rcases ed with z | z <;> (subst z; rfl)
      obtain ⟨a', vs', ev', q', rs'⟩ := listOf_ok hr' rx' e2
      cases ev'
      exact ⟨vs', sqK c.fa.hK q', rs'⟩
    exact ⟨a, rfl, ⟨vs, sqK c.fa.hK q⟩, g1 φ1 H1 _ (.refl _ _) hr1 io⟩
  have tup : ∀ {l : List D} {φ1 : List Addr} {H1 : Hp} {h1 : HH} {v : V} {dv : D}, (dv = .tup l ∨ dv = .wtup l) → HR L F φ1 h1 H1 → Rel L F φ1 H1 dv v → G L F φ1 H1 (fun φ H I J => ItOk L F φ H J I) (R.ok (Itr.items l) h1) RR (fun c d H' => W c d σ H') →
      ∃ a, v = .ref a ∧ (∃ xs, SqT X.K H1 a xs) ∧ RR (Itt X.K a) H1 := fun {l φ1 H1 h1 v dv} ed hr1 rx g1 => by
    have tq : ∀ {F : Fm} {φ : List Addr} {H : Hp} {v : V}, Rel L F φ H dv v → ∃ a vs, v = .ref a ∧ SqT X.K H a vs ∧ Rels L F φ H l vs := fun {F φ H v} r => by
      rw [c.fa.hK]
      rcases ed with z | z <;> subst z
      · cases r with
        | tup q r => exact ⟨_, _, rfl, q, r⟩
      · cases r with
        | wtup e1 e2 e3 e4 e5 e6 r => exact ⟨_, _, rfl, .inr ⟨_, _, _, e1, e2, e4, e5, e6⟩, r⟩
    obtain ⟨a, vs, ev, q, rs⟩ := tq rx
    subst ev
    have io : ItOk L F φ1 H1 (Itt X.K a) (.items l) := it_T fun F' z1 z2 φ' H' h' t hr' => by
      obtain ⟨a', vs', ev', q', rs'⟩ := tq (later rx z1 z2 t)
      cases ev'
      exact ⟨vs', q', rs'⟩
    exact ⟨a, rfl, ⟨vs, q⟩, g1 φ1 H1 _ (.refl _ _) hr1 io⟩
  -- by what it is
  cases ee : ev P orc e ρ hh with
  | ok d h1 =>
    have rdE' : ∀ {QQ : VK}, (∀ φ1 H1 v, XT φ H φ1 H1 → HR L F φ1 h1 H1 → Rel L F φ1 H1 d v → QQ v H1) → rdE L W (ev P orc e) σ H QQ := fun {QQ} q => ⟨F, φ, ρ, hh, hr, er, by
      rw [ee]
      exact fun φ1 H1 v t1 hr1 rx => q φ1 H1 v t1 hr1 rx⟩
    rw [ee] at g
    cases d with
    | tup l => exact .inr (rdE' fun φ1 H1 v t1 hr1 rx => tup (.inl rfl) hr1 rx (G.mono t1 g))
    | wtup l => exact .inr (rdE' fun φ1 H1 v t1 hr1 rx => tup (.inr rfl) hr1 rx (G.mono t1 g))
    | lst l => exact .inl (rdE' fun φ1 H1 v t1 hr1 rx => list (.inl rfl) hr1 rx (G.mono t1 g))
    | bor l => exact .inl (rdE' fun φ1 H1 v t1 hr1 rx => list (.inr rfl) hr1 rx (G.mono t1 g))
    | ref n =>
      have g : G L F φ H (fun φ H I J => ItOk L F φ H J I) (match h1[n]? with
        | some (.lst _) => R.ok (Itr.live n) h1
        | _ => R.no) RR (fun c d H' => W c d σ H') := g
      split at g
      · rename_i l0 el
        refine .inl (rdE' fun φ1 H1 v t1 hr1 rx => ?_)
        have g1 : G L F φ1 H1 (fun φ H I J => ItOk L F φ H J I) (R.ok (Itr.live n) h1) RR (fun c d H' => W c d σ H') := G.mono t1 g
        cases rx with
        | @ref _ a eφ =>
          have cur : ∀ {F' : Fm} {φ' : List Addr} {H' : Hp} {h' : HH} {l : List D}, HR L F' φ' h' H' → φ'[n]? = some a → h'[n]? = some (.lst l) → ∃ vs, H' a = some (.lst vs) ∧ Rels L F' φ' H' l vs := fun {F' φ' H' h' l} x e1 e2 => by
            have ro := x.at_ n a _ e1 e2
            cases ro with
            | lst q r => exact ⟨_, q, r⟩
          obtain ⟨vs0, q0, _⟩ := cur hr1 eφ el
          have io : ItOk L F φ1 H1 (Itl X.K a) (.live n) := by
            intro F' z1 z2 i φ' H' h' t hr'
            have e1 : φ'[n]? = some a := t.get eφ
            unfold itGet
            dsimp only
            split
            · rename_i l e2
              obtain ⟨vs, q, rs⟩ := cur hr' e1 e2
              refine ⟨fun d e => ?_, fun e => ?_⟩
              · obtain ⟨v, ev, rv⟩ := rs.get (Option.some.inj e)
                refine ⟨⟨vs, v, .inl (.inl q), ev⟩, fun x H'' y => ?_⟩
                obtain ⟨y1, y2⟩ := y
                subst y1
                have := y2 vs (.inl (.inl q))
                rw [ev] at this
                cases this
                exact ⟨.refl _ _, hr', rv⟩
              · refine ⟨vs, .inl (.inl q), ?_⟩
                rw [← rs.length]
                exact List.getElem?_eq_none_iff.mp (Option.some.inj e)
            · exact ⟨(by intro _ z; cases z), (by intro z; cases z)⟩
          exact ⟨a, rfl, ⟨vs0, .inl (.inl q0)⟩, g1 φ1 H1 _ (.refl _ _) hr1 io⟩
      · exact (G.no_ g).elim
    | _ => exact (G.no_ g).elim
  | exc _ _ _ _ =>
    refine .inl ⟨F, φ, ρ, hh, hr, er, ?_⟩
    rw [ee] at g ⊢
    exact g
  | no =>
    rw [ee] at g
    exact (G.no_ g).elim
theorem it_rng {lo hi : Int} {n : Nat} (hn : n = (hi - lo).toNat) : ItOk L F φ H (L2.Itr lo n) (.items (rangeL lo hi)) := by
  intro F' h1 h2 i φ' H' h' t hr
  refine ⟨fun d e => ?_, fun e => ?_⟩
  · have e := Option.some.inj (show some (rangeL lo hi)[i]? = some (some d) from e)
    rw [rangeL_get] at e
    split at e
    · rename_i hl
      cases e
      refine ⟨by rw [hn]; exact hl, fun x H'' y => ?_⟩
      obtain ⟨y1, y2⟩ := y
      subst y1 y2
      exact ⟨.refl _ _, hr, .int _⟩
    · cases e
  · have e := Option.some.inj (show some (rangeL lo hi)[i]? = some none from e)
    rw [rangeL_get] at e
    split at e
    · cases e
    · show n ≤ i
      omega
theorem small_ {i : Int} (h : smallI i = true) : -(2 ^ 62) ≤ i ∧ i < 2 ^ 62 := by
  obtain ⟨h1, h2⟩ := and_ h
  exact ⟨of_decide_eq_true h1, of_decide_eq_true h2⟩
theorem it_r1 {a : E} (ha : EvOk T L P orc k a) : ItEx T L P orc k (.i_r1 a) := by
  intro X W c tg x h
  unfold ckI at h
  split at h
  · rename_i f p x pos
    obtain ⟨h1, h⟩ := and_ h
    obtain ⟨h2, h⟩ := and_ h
    obtain ⟨h3, h4⟩ := and_ h
    have h1 := of_decide_eq_true h1
    subst h1
    obtain ⟨g1, g2⟩ := glB_ h2
    refine (pi_range1 g1 (c.fa.bf _ (by decide)) (pa_cons (ha X W c _ h4) pa_nil (sEach _ _ _ h3)) (sEach _ _ _ h3)).imp fun σ H RR ⟨F, φ, ρ, hh, hr, er, g⟩ => ?_
    rw [q_i_r1] at g
    refine ⟨F, φ, ρ, hh, hr, er, G.bind g fun d h1 φ1 H1 v e1 t1 hr1 rx g1 => ?_⟩
    split at g1
    · rename_i j
      split at g1
      · rename_i sj
        cases rx
        exact ⟨j, rfl, (small_ sj).1, (small_ sj).2, g1 φ1 H1 _ (.refl _ _) hr1 (it_rng (by omega))⟩
      · exact (G.no_ g1).elim
    · exact (G.no_ g1).elim
  · cases h
theorem it_r2 {a b : E} (ha : EvOk T L P orc k a) (hb : EvOk T L P orc k b) : ItEx T L P orc k (.i_r2 a b) := by
  intro X W c tg x h
  unfold ckI at h
  split at h
  · rename_i f p x y pos
    obtain ⟨h1, h⟩ := and_ h
    obtain ⟨h2, h⟩ := and_ h
    obtain ⟨h3, h⟩ := and_ h
    obtain ⟨h4, h⟩ := and_ h
    obtain ⟨h5, h6⟩ := and_ h
    have h1 := of_decide_eq_true h1
    subst h1
    obtain ⟨g1, g2⟩ := glB_ h2
    refine (pi_range2 g1 (c.fa.bf _ (by decide)) (pa_cons (ha X W c _ h5) (pa_cons (hb X W c _ h6) pa_nil (sEach _ _ _ h4)) (sEach _ _ _ h3)) (by rw [sEach _ _ _ h3, sEach _ _ _ h4] <;> rfl) (by rw [sEach _ _ _ h4] <;> rfl)).imp fun σ H RR ⟨F, φ, ρ, hh, hr, er, g⟩ => ?_
    rw [q_i_r2] at g
    refine ⟨F, φ, ρ, hh, hr, er, G.bind g fun d h1 φ1 H1 v e1 t1 hr1 rx g1 => ?_⟩
    refine ⟨F, φ1, ρ, h1, hr1, er.mono t1, G.bind g1 fun e h2 φ2 H2 w e2 t2 hr2 ry g2 => ?_⟩
    split at g2
    · rename_i i j
      split at g2
      · rename_i sj
        obtain ⟨s1, s2⟩ := and_ sj
        cases rx
        cases ry
        exact ⟨i, j, rfl, ⟨(small_ s1).1, (small_ s1).2, (small_ s2).1, (small_ s2).2⟩, g2 φ2 H2 _ (.refl _ _) hr2 (it_rng rfl)⟩
      · exact (G.no_ g2).elim
    · exact (G.no_ g2).elim
  · cases h
theorem isTup_ {x : Expr} (h : isTupE x = true) : ∃ l k p, x = .Tuple l k p := by
  cases x <;> first | exact ⟨_, _, _, rfl⟩ | cases h
/-- a new pair -/
theorem pair_ok {F' : Fm} {φ' : List Addr} {H' : Hp} {h' : HH} {x y : V} {dx dy : D} {p : Addr} (hr : HR L F' φ' h' H') (hp : H' p = none) (rx : Rel L F' φ' H' dx x) (ry : Rel L F' φ' H' dy y) :
    XT φ' H' φ' (upd H' p (.tup [x, y])) ∧ HR L F' φ' h' (upd H' p (.tup [x, y])) ∧ Rel L F' φ' (upd H' p (.tup [x, y])) (.tup [dx, dy]) (.ref p) := by
  have t : XT φ' H' φ' (upd H' p (.tup [x, y])) := .fresh hp
  exact ⟨t, hr.fresh hp, .tup (.inl (.inl upd_same)) (.cons (rx.mono t) (.cons (ry.mono t) .nil))⟩
theorem it_en {a : E} (ha : EvOk T L P orc k a) : ItEx T L P orc k (.i_en a) := by
  intro X W c tg x h
  unfold ckI at h
  split at h
  · rename_i f p x pos
    obtain ⟨h1, h⟩ := and_ h
    obtain ⟨h0, h⟩ := and_ h
    obtain ⟨h2, h⟩ := and_ h
    obtain ⟨h3, h4⟩ := and_ h
    have h1 := of_decide_eq_true h1
    subst h1
    obtain ⟨l0, k0, p0, rfl⟩ := isTup_ h0
    obtain ⟨g1, g2⟩ := glB_ h2
    refine (pi_enum g1 (c.fa.bf _ (by decide)) (pa_cons (ha X W c _ h4) pa_nil (sEach _ _ _ h3)) (sEach _ _ _ h3)).imp fun σ H RR ⟨F, φ, ρ, hh, hr, er, g⟩ => ?_
    rw [q_i_en] at g
    refine ⟨F, φ, ρ, hh, hr, er, G.bind g fun d h1 φ1 H1 v e1 t1 hr1 rx g1 => ?_⟩
    split at g1
    · rename_i l
      obtain ⟨a, vs, ev, q, rs⟩ := listOf_ok (l := l) hr1 rx rfl
      subst ev
      have io : ItOk L F φ1 H1 (Ite X.K a) (.items (enumL 0 l)) := by
        intro F' z1 z2 i φ' H' h' t hr'
        obtain ⟨a', vs', ev', q', rs'⟩ := listOf_ok (l := l) hr' (later rx z1 z2 t) rfl
        cases ev'
        refine ⟨fun d e => ?_, fun e => ?_⟩
        · have e := Option.some.inj (show some (enumL 0 l)[i]? = some (some d) from e)
          rw [enumL_get] at e
          cases ei : l[i]? with
          | none =>
            rw [ei] at e
            cases e
          | some di =>
            rw [ei] at e
            cases e
            obtain ⟨v, ev, rv⟩ := rs'.get ei
            refine ⟨⟨vs', v, sqK c.fa.hK q', ev⟩, fun x H'' y => ?_⟩
            obtain ⟨p', x', y1, y2, y3, y4⟩ := y
            subst y1 y3
            have := y4 vs' (sqK c.fa.hK q')
            rw [ev] at this
            cases this
            rw [Nat.zero_add]
            exact pair_ok hr' y2 (.int _) rv
        · have e := Option.some.inj (show some (enumL 0 l)[i]? = some none from e)
          rw [enumL_get] at e
          refine ⟨vs', sqK c.fa.hK q', ?_⟩
          rw [← rs'.length]
          cases ei : l[i]? with
          | none => exact List.getElem?_eq_none_iff.mp ei
          | some di =>
            rw [ei] at e
            cases e
      exact ⟨a, vs, rfl, sqK c.fa.hK q, g1 φ1 H1 _ (.refl _ _) hr1 io⟩
    · exact (G.no_ g1).elim
  · cases h
theorem it_zip {a b : E} (ha : EvOk T L P orc k a) (hb : EvOk T L P orc k b) : ItEx T L P orc k (.i_zip a b) := by
  intro X W c tg x h
  unfold ckI at h
  split at h
  · rename_i f p x y pos
    obtain ⟨h1, h⟩ := and_ h
    obtain ⟨h0, h⟩ := and_ h
    obtain ⟨h2, h⟩ := and_ h
    obtain ⟨h3, h⟩ := and_ h
    obtain ⟨h4, h⟩ := and_ h
    obtain ⟨h5, h6⟩ := and_ h
    have h1 := of_decide_eq_true h1
    subst h1
    obtain ⟨l0, k0, p0, rfl⟩ := isTup_ h0
    obtain ⟨g1, g2⟩ := glB_ h2
    refine (RZ.pi_zipA g1 (c.fa.bf _ (by decide)) (pa_cons (ha X W c _ h5) (pa_cons (hb X W c _ h6) pa_nil (sEach _ _ _ h4)) (sEach _ _ _ h3)) (sEach _ _ _ h3) (nsPlain _ _ _ (by show (nsB y && true) = true; rw [h4] <;> rfl))).imp fun σ H RR ⟨F, φ, ρ, hh, hr, er, g⟩ => ?_
    rw [q_i_zip] at g
    refine ⟨F, φ, ρ, hh, hr, er, G.bind g fun d h1 φ1 H1 v e1 t1 hr1 rx g1 => ?_⟩
    refine ⟨F, φ1, ρ, h1, hr1, er.mono t1, G.bind g1 fun e h2 φ2 H2 w e2 t2 hr2 ry g2 => ?_⟩
    have rx2 := rx.mono t2
    have step : ∀ {k l : List D} {i : Nat} {d : D}, (pairL k l)[i]? = some d → ∃ x y, k[i]? = some x ∧ l[i]? = some y ∧ d = .tup [x, y] := fun {k l i d} e => by
      rw [pairL_get] at e
      split at e
      · rename_i x y e1 e2
        cases e
        exact ⟨x, y, e1, e2, rfl⟩
      · cases e
    have stop : ∀ {k l : List D} {i : Nat}, (pairL k l)[i]? = none → k.length ≤ i ∨ l.length ≤ i := fun {k l i} e => by
      rw [pairL_get] at e
      split at e
      · cases e
      · rename_i hno
        cases e1 : k[i]? with
        | none => exact .inl (List.getElem?_eq_none_iff.mp e1)
        | some x =>
          cases e2 : l[i]? with
          | none => exact .inr (List.getElem?_eq_none_iff.mp e2)
          | some y => exact absurd e2 (hno x y e1)
    split at g2
    · rename_i kk l
      have tq : ∀ {F : Fm} {φ : List Addr} {H : Hp} {l : List D} {v : V}, Rel L F φ H (.tup l) v → ∃ a vs, v = .ref a ∧ SqT X.K H a vs ∧ Rels L F φ H l vs := fun {F φ H l v} r => by
        rw [c.fa.hK]
        cases r with
        | tup q r => exact ⟨_, _, rfl, q, r⟩
      obtain ⟨a, xs, ev, qa, ra⟩ := tq rx2
      obtain ⟨b, ys, ew, qb, rb⟩ := tq ry
      subst ev ew
      refine ⟨a, b, xs, ys, rfl, .inr ⟨qa, qb, g2 φ2 H2 _ (.refl _ _) hr2 ?_⟩⟩
      intro F' z1 z2 i φ' H' h' t hr'
      obtain ⟨_, xs', ea, qa', ra'⟩ := tq (later rx2 z1 z2 t)
      obtain ⟨_, ys', eb, qb', rb'⟩ := tq (later ry z1 z2 t)
      cases ea
      cases eb
      refine ⟨fun d e => ?_, fun e => ?_⟩
      · obtain ⟨x, y, ex, ey, rfl⟩ := step (Option.some.inj (show some (pairL kk l)[i]? = some (some d) from e))
        obtain ⟨vx, ex', rvx⟩ := ra'.get ex
        obtain ⟨vy, ey', rvy⟩ := rb'.get ey
        refine ⟨⟨xs', ys', vx, vy, qa', qb', ex', ey'⟩, fun z H'' yl => ?_⟩
        obtain ⟨p', x', y', y1, y2, y3, y4, y5⟩ := yl
        subst y1 y3
        have h1 := y4 xs' qa'
        have h2 := y5 ys' qb'
        rw [ex'] at h1
        rw [ey'] at h2
        cases h1
        cases h2
        exact pair_ok hr' y2 rvx rvy
      · refine ⟨xs', ys', qa', qb', ?_⟩
        rw [← ra'.length, ← rb'.length]
        exact stop (Option.some.inj (show some (pairL kk l)[i]? = some none from e))
    · rename_i kk l
      obtain ⟨a, xs, ev, qa, ra⟩ := listOf_ok (l := kk) hr2 rx2 rfl
      obtain ⟨b, ys, ew, qb, rb⟩ := listOf_ok (l := l) hr2 ry rfl
      subst ev ew
      refine ⟨a, b, xs, ys, rfl, .inl ⟨sqK c.fa.hK qa, sqK c.fa.hK qb, g2 φ2 H2 _ (.refl _ _) hr2 ?_⟩⟩
      intro F' z1 z2 i φ' H' h' t hr'
      obtain ⟨_, xs', ea, qa', ra'⟩ := listOf_ok (l := kk) hr' (later rx2 z1 z2 t) rfl
      obtain ⟨_, ys', eb, qb', rb'⟩ := listOf_ok (l := l) hr' (later ry z1 z2 t) rfl
      cases ea
      cases eb
      refine ⟨fun d e => ?_, fun e => ?_⟩
      · obtain ⟨x, y, ex, ey, rfl⟩ := step (Option.some.inj (show some (pairL kk l)[i]? = some (some d) from e))
        obtain ⟨vx, ex', rvx⟩ := ra'.get ex
        obtain ⟨vy, ey', rvy⟩ := rb'.get ey
        refine ⟨⟨xs', ys', vx, vy, sqK c.fa.hK qa', sqK c.fa.hK qb', ex', ey'⟩, fun z H'' yl => ?_⟩
        obtain ⟨p', x', y', y1, y2, y3, y4, y5⟩ := yl
        subst y1 y3
        have h1 := y4 xs' (sqK c.fa.hK qa')
        have h2 := y5 ys' (sqK c.fa.hK qb')
        rw [ex'] at h1
        rw [ey'] at h2
        cases h1
        cases h2
        exact pair_ok hr' y2 rvx rvy
      · refine ⟨xs', ys', sqK c.fa.hK qa', sqK c.fa.hK qb', ?_⟩
        rw [← ra'.length, ← rb'.length]
        exact stop (Option.some.inj (show some (pairL kk l)[i]? = some none from e))
    · exact (G.no_ g2).elim
  · cases h
theorem fs_nil : FsOk T L P orc k .nil := by
  intro X W c xs h
  unfold ckF at h
  split at h
  · refine ⟨fun pins s σ H Q I ⟨F, φ, ρ, hh, hr, er, g⟩ => pts_nil.run pins s σ H Q I ?_⟩
    rw [lq_nil] at g
    exact G.ok g hr rfl
  · cases h
theorem fs_cons {e es : E} (he : TsOk T L P orc k e) : FsOk T L P orc k (.cons e es) := by
  intro X W c xs h
  unfold ckF at h
  split at h
  · refine ⟨fun pins s σ H Q I ⟨F, φ, ρ, hh, hr, er, g⟩ => (pts_one (he X W c _ h)).run pins s σ H Q I ⟨F, φ, ρ, hh, hr, er, ?_⟩⟩
    rw [lq_cons] at g
    exact g
  · cases h
end
end MV

set_option maxRecDepth 100000
set_option maxHeartbeats 1000000
/-! VK: comprehensions; all expressions. -/
namespace MV
open PySem PySem.Spec PyProof.Rows L2
/-- the turns of a comprehension, told from the end -/
inductive CT (f : D → HH → R (Option D)) (I : Itr) : Nat → Nat → HH → List D → HH → Prop where
  | stop {m i : Nat} {h : HH} : itGet I i h = some none → CT f I m i h [] h
  | take {m i : Nat} {h h1 h2 : HH} {x d : D} {l : List D} : itGet I i h = some (some x) → f x h = .ok (some d) h1 → CT f I m (i + 1) h1 l h2 → CT f I (m + 1) i h (d :: l) h2
  | skip {m i : Nat} {h h1 h2 : HH} {x : D} {l : List D} : itGet I i h = some (some x) → f x h = .ok none h1 → CT f I m (i + 1) h1 l h2 → CT f I (m + 1) i h l h2
theorem bind_ok {α β : Type} {r : R α} {f : α → HH → R β} {b : β} {h : HH} (e : r.bind f = .ok b h) : ∃ a h1, r = .ok a h1 ∧ f a h1 = .ok b h := by
  cases r with
  | ok a h1 => exact ⟨a, h1, rfl, e⟩
  | exc _ _ _ _ => cases e
  | no => cases e
theorem pur_ok {α : Type} {r : R α} {a : α} {h : HH} (e : r.pur = .ok a h) : r = .ok a h := by
  cases r with
  | ok a h1 => exact e
  | exc _ _ _ _ => cases e
  | no => cases e
theorem compL_ct {f : D → HH → R (Option D)} {L : List D} : ∀ {rest : List D} {i : Nat} {h h2 : HH} {l : List D}, L.drop i = rest → compL f rest h = .ok l h2 → CT f (.items L) rest.length i h l h2
  | [], i, h, h2, l, e, q => by
    cases q
    refine .stop ?_
    show some L[i]? = some none
    rw [List.getElem?_eq_none (List.drop_eq_nil_iff.mp e)]
  | x :: r, i, h, h2, l, e, q => by
    have gi : itGet (.items L) i h = some (some x) := by
      show some L[i]? = some (some x)
      have : (L.drop i)[0]? = some x := by rw [e] <;> rfl
      rw [List.getElem?_drop, Nat.add_zero] at this
      rw [this]
    have dr : L.drop (i + 1) = r := by
      rw [← List.drop_drop, e] <;> rfl
    obtain ⟨o, h1, e1, q⟩ := bind_ok (show ((f x h).bind fun o h1 => (compL f r h1).bind fun l h2 => R.ok (match o with
      | some d => d :: l
      | none => l) h2) = .ok l h2 from q)
    obtain ⟨l', h3, e2, q⟩ := bind_ok q
    cases o with
    | some d =>
      cases q
      exact .take gi e1 (compL_ct dr e2)
    | none =>
      cases q
      exact .skip gi e1 (compL_ct dr e2)
theorem compLive_ct {f : D → HH → R (Option D)} {n : Nat} : ∀ {k i : Nat} {h h2 : HH} {l : List D}, compLive f n k i h = .ok l h2 → CT f (.live n) k i h l h2
  | 0, i, h, h2, l, q => by cases q
  | k + 1, i, h, h2, l, q => by
    unfold compLive at q
    split at q
    · rename_i L eL
      split at q
      · rename_i x ex
        have gi : itGet (.live n) i h = some (some x) := by
          unfold itGet
          dsimp only
          rw [eL, ← ex]
        obtain ⟨o, h1, e1, q⟩ := bind_ok q
        obtain ⟨l', h3, e2, q⟩ := bind_ok q
        cases o with
        | some d =>
          cases q
          exact .take gi e1 (compLive_ct e2)
        | none =>
          cases q
          exact .skip gi e1 (compLive_ct e2)
      · rename_i ex
        cases q
        refine .stop ?_
        unfold itGet
        dsimp only
        rw [eL, ← ex]
    · cases q
theorem compI_ct {f : D → HH → R (Option D)} {I : Itr} {h h2 : HH} {l : List D} (q : compI f I h = .ok l h2) : ∃ m, CT f I m 0 h l h2 := by
  cases I with
  | items L => exact ⟨_, compL_ct (L := L) (i := 0) rfl q⟩
  | live n => exact ⟨_, compLive_ct q⟩
section
variable {T : Tb} {L : Lk} {P : Prog} {orc : Orc} {k : Nat}
theorem own_map (N : List Str) : ∀ own : List Nat, (ownOf N own).map (·.2) = own
  | [] => rfl
  | i :: r => congrArg (i :: ·) (own_map N r)
theorem wipe_wipe (σ : L2.St) (ws : List Nat) : L2.wipe (L2.wipe σ ws) ws = L2.wipe σ ws := by
  refine List.ext_getElem? fun j => ?_
  by_cases hj : j ∈ ws
  · by_cases hl : j < σ.length
    · rw [wipe_in hj (by rw [wipe_length]; exact hl), wipe_in hj hl]
    · rw [List.getElem?_eq_none (by rw [wipe_length, wipe_length]; omega), List.getElem?_eq_none (by rw [wipe_length]; omega)]
  · rw [wipe_out hj]
/-- the comprehension's reading -/
theorem lc_read {W : WX} {m : Bool} {own : List Nat} {tg it ifs el : E} {N : List Str} (hs : (tgSlots tg).all (own.contains ·) = true) :
    ∀ σ H Q, rdE L W (ev P orc (.comp m own tg it ifs el)) σ H Q → tLc (rdI L W (itm P orc it)) (rdG L (tgSlots tg) (asg P orc tg)) (rdT L (fun _ _ _ _ => False) (tsts P orc ifs)) (rdE L (fun _ _ _ _ => False) (ev P orc el)) ((ownOf N own).map (·.2)) σ H Q := by
  intro σ H Q ⟨F, φ, ρ, h, hr, er, g⟩
  rw [q_comp] at g
  rw [own_map]
  have hs : ∀ i ∈ tgSlots tg, i ∈ own := fun i hi => by simpa using List.all_eq_true.mp hs i hi
  refine ⟨F, φ, ρ, h, hr, er, G.bind g fun I h1 φ1 H1 J e1 t1 hr1 io g1 => ?_⟩
  intro p hp
  clear g e1
  generalize hf : (fun x h2 => (asg P orc tg x (wipeE ρ own) h2).bind fun ρ2 h3 => (tsts P orc ifs ρ2 h3).bind fun k h4 => match k with
      | true => (ev P orc el ρ2 h4).bind fun d h5 => R.ok (some d) h5
      | false => R.ok none h4) = f at g1
  cases ec : compI f I h1 with
  | exc _ _ _ _ =>
    rw [ec] at g1
    exact (G.no_ g1).elim
  | no =>
    rw [ec] at g1
    exact (G.no_ g1).elim
  | ok l h2 =>
    rw [ec] at g1
    have g2 : GE L F φ1 H1 (mkL m l h2) Q (fun c d H' => W c d σ H') := g1
    clear g1
    obtain ⟨m0, ct0⟩ := compI_ct ec
    have hlen : l.length ≤ sizeLine := by
      unfold mkL at g2
      cases hb : Nat.ble l.length line with
      | true => exact ble_line hb
      | false =>
        rw [hb] at g2
        exact (G.no_ g2).elim
    have nb : ¬ F.bo p := hr1.nB hp
    have nn : ¬ F.no p := hr1.nF hp
    have z1 : ∀ a o, H1 a = some o → (F.plus p).no a → F.no a := fun a o q z => z.elim id fun z => by
      rw [z, hp] at q
      cases q
    have er1 : ER L (F.plus p) φ1 H1 ρ σ := by
      have e0 := er.mono t1
      exact ⟨e0.len, fun i d q => by
        obtain ⟨v, a, b⟩ := e0.at_ i d q
        exact ⟨v, a, b.frame z1 fun _ z => z⟩⟩
    refine ⟨fun i n H' => ∃ (φ' : List Addr) (h' : HH) (acc : List V) (ds rest : List D), XT φ1 H1 φ' H' ∧ HR L (F.plus p) φ' h' H' ∧ H' p = some (.lst acc) ∧ Rels L (F.plus p) φ' H' ds acc ∧ CT f I n i h' rest h2 ∧ l = ds ++ rest, ⟨m0, φ1, h1, [], [], l, .fresh hp, hr1.guard hp, upd_same, .nil, ct0, rfl⟩, ?_⟩
    rintro i n H' ⟨φ', h', acc, ds, rest, t', hr', hD, rs, ct, el'⟩
    obtain ⟨io1, io2⟩ := io (F.plus p) z1 (fun _ z => z) i φ' H' h' t' hr'
    -- a turn, whatever it gives
    have turn : ∀ {x : D} {o : Option D} {h3 : HH} {n' : Nat} {ds' : List D}, itGet I i h' = some (some x) → f x h' = .ok o h3 → CT f I n' (i + 1) h3 ds' h2 → l = ds ++ (match o with
        | some d => d :: ds'
        | none => ds') → J.go i H' ∧ ∃ Nx : Hp → Prop, (∀ H'', Nx H'' → ∃ m', m' < n' + 1 ∧ ∃ (φ' : List Addr) (h' : HH) (acc : List V) (ds rest : List D), XT φ1 H1 φ' H'' ∧ HR L (F.plus p) φ' h' H'' ∧ H'' p = some (.lst acc) ∧ Rels L (F.plus p) φ' H'' ds acc ∧ CT f I m' (i + 1) h' rest h2 ∧ l = ds ++ rest) ∧
        ∀ x H'', J.yld i H' x H'' → rdG L (tgSlots tg) (asg P orc tg) x (L2.wipe σ own) H'' fun σ2 H2 => L2.wipe σ2 own = L2.wipe σ own ∧ rdT L (fun _ _ _ _ => False) (tsts P orc ifs) σ2 H2 fun b H3 =>
          if b = true then rdE L (fun _ _ _ _ => False) (ev P orc el) σ2 H3 fun y H4 => ∃ acc, H4 p = some (.lst acc) ∧ acc.length < sizeLine ∧ Nx (upd H4 p (.lst (acc ++ [y]))) else Nx H3 := fun {x o h3 n' ds'} gi ef ct' el' => by
      obtain ⟨go, yl⟩ := io1 x gi
      refine ⟨go, fun H'' => ∃ (φ' : List Addr) (h' : HH) (acc : List V) (ds rest : List D), XT φ1 H1 φ' H'' ∧ HR L (F.plus p) φ' h' H'' ∧ H'' p = some (.lst acc) ∧ Rels L (F.plus p) φ' H'' ds acc ∧ CT f I n' (i + 1) h' rest h2 ∧ l = ds ++ rest, fun H'' q => ⟨n', Nat.lt_succ_self _, q⟩, fun v H'' y => ?_⟩
      obtain ⟨ty, hry, rx⟩ := yl v H'' y
      have np : p ∉ φ' := fun m => hr'.own p m (.inr rfl)
      have hDy := ty.keep p _ hD np
      have ery : ER L (F.plus p) φ' H'' (wipeE ρ own) (L2.wipe σ own) := (er1.mono (t'.trans ty)).wipe own
      rw [← hf] at ef
      obtain ⟨ρ2, h4, ea, ef⟩ := bind_ok ef
      obtain ⟨b, h5, et, ef⟩ := bind_ok ef
      refine ⟨F.plus p, φ', wipeE ρ own, h', x, hry, ery, rx, ?_⟩
      rw [ea]
      intro φ2 H2 σ2 t2 hr2 er2 s2
      refine ⟨(s2.wipe hs).trans (wipe_wipe σ own), F.plus p, φ2, ρ2, h4, hr2, er2, ?_⟩
      rw [et]
      intro φ3 H3 b' t3 hr3 eb
      subst eb
      have np2 : p ∉ φ2 := fun m => hr2.own p m (.inr rfl)
      have hD3 := t3.keep p _ (t2.keep p _ hDy np) np2
      have rs3 := ((rs.mono ty).mono t2).mono t3
      have t13 := ((t'.trans ty).trans t2).trans t3
      cases b with
      | false =>
        rw [if_neg Bool.false_ne_true]
        cases ef
        exact ⟨φ3, h3, acc, ds, ds', t13, hr3, hD3, rs3, ct', el'⟩
      | true =>
        rw [if_pos rfl]
        obtain ⟨d, h6, ee, ef⟩ := bind_ok ef
        cases ef
        refine ⟨F.plus p, φ3, ρ2, h5, hr3, er2.mono t3, ?_⟩
        rw [ee]
        intro φ4 H4 w t4 hr4 rw4
        have np3 : p ∉ φ3 := fun m => hr3.own p m (.inr rfl)
        have hD4 := t4.keep p _ hD3 np3
        have el' : l = ds ++ d :: ds' := el'
        refine ⟨acc, hD4, ?_, φ4, h3, acc ++ [w], ds ++ [d], ds', (t13.trans t4).poke hp, HR.poke (F := F.plus p) hD4 (Or.inr rfl) nb hr4, upd_same, ?_, ct', by rw [el', List.append_assoc] <;> rfl⟩
        · have := rs.length
          have q := congrArg List.length el'
          rw [List.length_append, List.length_cons] at q
          omega
        · exact Rels.poke (F := F.plus p) hD4 (Or.inr rfl) nb ((rs3.mono t4).snoc rw4)
    cases ct with
    | stop e =>
      refine .inl ⟨io2 e, ?_⟩
      rw [List.append_nil] at el'
      subst el'
      have np : p ∉ φ' := fun m => hr'.own p m (.inr rfl)
      unfold mkL at g2
      cases hb : Nat.ble l.length line with
      | false =>
        rw [hb] at g2
        exact (G.no_ g2).elim
      | true =>
        rw [hb] at g2
        cases m with
        | false =>
          refine G.ok' g2 t' (hr'.unguard hr1.bn) (.lst hD np nn (Rels.frame (F := F.plus p) (F' := F) (fun _ _ _ z => Or.inl z) (fun _ z => z) rs))
        | true =>
          have tb : XT φ1 H1 (φ' ++ [p]) H' := by
            obtain ⟨more, e1, e2⟩ := t'.pre
            refine ⟨⟨more ++ [p], by rw [e1, List.append_assoc], fun q hq => ?_⟩, t'.keep, t'.tup, t'.frz, t'.trk⟩
            rcases List.mem_append.mp hq with z | z
            · exact e2 q z
            · rw [List.mem_singleton.mp z]
              exact hp
          refine G.ok' g2 tb (hr'.take hr1.bn nb nn hD rs) (.ref ?_)
          rw [← hr'.len, List.getElem?_append_right (Nat.le_refl _), Nat.sub_self]
          rfl
    | take e1 e2 e3 => exact .inr (turn e1 e2 e3 el')
    | skip e1 e2 e3 => exact .inr (turn e1 e2 e3 el')
theorem CX1.blk {X : Cx} {W : WX} (c : CX1 T L P orc k X W) (s : Shared) (H : Hp) (scope : Scope) (cenv : PySem.Env) (fp : List Addr) : CX1 T L P orc k (X.blk s H scope cenv fp) (fun _ _ _ _ => False) :=
  ⟨c.fa, c.calm, c.nd, c.room, LamX.takes0⟩
/-- the four things that pe_lc asks -/
theorem lc_parts {X : Cx} {W : WX} (c : CX1 T L P orc k X W) {own : List Nat} {tg it ifs el : E} {elt t i : Expr} {cs : List Expr} {scope : Scope} (ht : TgOk T L P orc k tg) (hi : ItEx T L P orc k it) (hf : FsOk T L P orc k ifs) (he : EvOk T L P orc k el)
    (h : (blkC X.N X.env.scope scope (ownOf X.N own) && (sdB i && ((tgSlots tg).all (own.contains ·) && (ckG T X.N tg (fun x => scope.names.lookup x == some .cell) (relS scope X.env.scope) t && (ckI T X.N it t X.env.scope i && (ckF T X.N ifs (relS scope X.env.scope) cs && ck T X.N el (relS scope X.env.scope) elt)))))) = true) :
    PI X t i (rdI L W (itm P orc it)) ∧ BlkOk X.N X.env.scope scope (ownOf X.N own) ∧
    (∀ (s : Shared) (H : Hp) (C : Addr) (cl : List (Str × Addr)) (fp : List Addr), PG (X.blk s H scope (compEnvC scope cl C X.env) fp) t (rdG L (tgSlots tg) (asg P orc tg))) ∧
    (∀ (s : Shared) (H : Hp) (C : Addr) (cl : List (Str × Addr)) (fp : List Addr), PTs (X.blk s H scope (compEnvC scope cl C X.env) fp) cs (rdT L (fun _ _ _ _ => False) (tsts P orc ifs))) ∧
    (∀ (s : Shared) (H : Hp) (C : Addr) (cl : List (Str × Addr)) (fp : List Addr), PE (X.blk s H scope (compEnvC scope cl C X.env) fp) elt (rdE L (fun _ _ _ _ => False) (ev P orc el))) ∧
    (∀ x, foldedSetIterable i X.env x = pure x) ∧ (tgSlots tg).all (own.contains ·) = true := by
  obtain ⟨h1, h⟩ := and_ h
  obtain ⟨h2, h⟩ := and_ h
  obtain ⟨h3, h⟩ := and_ h
  obtain ⟨h4, h⟩ := and_ h
  obtain ⟨h5, h⟩ := and_ h
  obtain ⟨h6, h7⟩ := and_ h
  exact ⟨hi X W c _ _ h5, blkOk_by h1, fun s H C cl fp => ht _ _ (c.blk s H scope (compEnvC scope cl C X.env) fp) t h4, fun s H C cl fp => hf _ _ (c.blk s H scope (compEnvC scope cl C X.env) fp) cs h6,
    fun s H C cl fp => he _ _ (c.blk s H scope (compEnvC scope cl C X.env) fp) elt h7, sdIt _ _ h2, h3⟩
theorem ev_comp {m : Bool} {own : List Nat} {tg it ifs el : E} (ht : TgOk T L P orc k tg) (hi : ItEx T L P orc k it) (hf : FsOk T L P orc k ifs) (he : EvOk T L P orc k el) : EvOk T L P orc k (.comp m own tg it ifs el) := by
  intro X W c x h
  unfold ck at h
  split at h
  · obtain ⟨p1, p2, p3, p4, p5, p6, p7⟩ := lc_parts c ht hi hf he h
    exact (pe_lc c.calm c.nd p1 p2 p3 p4 p5 p6).imp (lc_read p7)
  · cases h
/-! ### all -/
variable (T L P orc k) in
structure AllOk (e : E) : Prop where
  ev : EvOk T L P orc k e
  ts : TsOk T L P orc k e
  tw : TwOk T L P orc k e
  es : EsOk T L P orc k e
  ks : KsOk T L P orc k e
  it : ItEx T L P orc k e
  fs : FsOk T L P orc k e
  tg : TgOk T L P orc k e
  tgs : TgsOk T L P orc k e
/-- no such text -/
theorem no_es {e : E} (h : ∀ N sc xs, cks T N e sc xs = false) : EsOk T L P orc k e := fun X W c xs q => by rw [h] at q; cases q
theorem no_ks {e : E} (h : ∀ N sc xs ns, ckK T N e sc xs ns = false) : KsOk T L P orc k e := fun X W c xs ns q => by rw [h] at q; cases q
theorem no_it {e : E} (h : ∀ N tg sc x, ckI T N e tg sc x = false) : ItEx T L P orc k e := fun X W c tg x q => by rw [h] at q; cases q
theorem no_fs {e : E} (h : ∀ N sc x, ckF T N e sc x = false) : FsOk T L P orc k e := fun X W c x q => by rw [h] at q; cases q
theorem no_tg {e : E} (h : ∀ N fn sc x, ckG T N e fn sc x = false) : TgOk T L P orc k e := fun X W c x q => by rw [h] at q; cases q
theorem no_tgs {e : E} (h : ∀ N fn sc x, ckGs T N e fn sc x = false) : TgsOk T L P orc k e := fun X W c x q => by rw [h] at q; cases q
theorem no_ev {e : E} (h : ∀ N sc x, ck T N e sc x = false) : EvOk T L P orc k e := fun X W c x q => by rw [h] at q; cases q
theorem no_ts {e : E} (h : ∀ N sc x, ck T N e sc x = false) : TsOk T L P orc k e := fun X W c x q => by rw [h] at q; cases q
theorem no_tw {e : E} (h : ∀ N sc op l p, ck T N e sc (.BoolOp op l p) = false) : TwOk T L P orc k e := fun X W c op l p q => by rw [h] at q; cases q
/-- an expression that is tested by its truth -/
theorem all_val {e : E} (he : EvOk T L P orc k e) (hs : ∀ N sc x, ck T N e sc x = true → trB x = true) (hq : ∀ ρ h, tst P orc e ρ h = (ev P orc e ρ h).bind fun x h1 => R.of (truthD x h1) h1)
    (h1 : ∀ N sc xs, cks T N e sc xs = false) (h2 : ∀ N sc xs ns, ckK T N e sc xs ns = false) (h3 : ∀ N tg sc x, ckI T N e tg sc x = false) (h4 : ∀ N sc x, ckF T N e sc x = false) (h5 : ∀ N fn sc x, ckG T N e fn sc x = false) (h6 : ∀ N fn sc x, ckGs T N e fn sc x = false) : AllOk T L P orc k e :=
  ⟨he, ts_plain he hs hq, no_tw (fun N sc op l p => by
    cases q : ck T N e sc (.BoolOp op l p) with
    | false => rfl
    | true =>
      have z := hs _ _ _ q
      cases z), no_es h1, no_ks h2, no_it h3, no_fs h4, no_tg h5, no_tgs h6⟩
theorem all_tst {e : E} (he : EvOk T L P orc k e) (ht : TsOk T L P orc k e) (hw : TwOk T L P orc k e)
    (h1 : ∀ N sc xs, cks T N e sc xs = false) (h2 : ∀ N sc xs ns, ckK T N e sc xs ns = false) (h3 : ∀ N tg sc x, ckI T N e tg sc x = false) (h4 : ∀ N sc x, ckF T N e sc x = false) (h5 : ∀ N fn sc x, ckG T N e fn sc x = false) (h6 : ∀ N fn sc x, ckGs T N e fn sc x = false) : AllOk T L P orc k e :=
  ⟨he, ht, hw, no_es h1, no_ks h2, no_it h3, no_fs h4, no_tg h5, no_tgs h6⟩
theorem all_iter {e : E} (hi : ItEx T L P orc k e) (h0 : ∀ N sc x, ck T N e sc x = false)
    (h1 : ∀ N sc xs, cks T N e sc xs = false) (h2 : ∀ N sc xs ns, ckK T N e sc xs ns = false) (h4 : ∀ N sc x, ckF T N e sc x = false) (h5 : ∀ N fn sc x, ckG T N e fn sc x = false) (h6 : ∀ N fn sc x, ckGs T N e fn sc x = false) : AllOk T L P orc k e :=
  ⟨no_ev h0, no_ts h0, no_tw fun N sc _ _ _ => h0 N sc _, no_es h1, no_ks h2, hi, no_fs h4, no_tg h5, no_tgs h6⟩
theorem all_targ {e : E} (hi : TgOk T L P orc k e) (h0 : ∀ N sc x, ck T N e sc x = false)
    (h1 : ∀ N sc xs, cks T N e sc xs = false) (h2 : ∀ N sc xs ns, ckK T N e sc xs ns = false) (h3 : ∀ N tg sc x, ckI T N e tg sc x = false) (h4 : ∀ N sc x, ckF T N e sc x = false) (h6 : ∀ N fn sc x, ckGs T N e fn sc x = false) : AllOk T L P orc k e :=
  ⟨no_ev h0, no_ts h0, no_tw fun N sc _ _ _ => h0 N sc _, no_es h1, no_ks h2, no_it h3, no_fs h4, hi, no_tgs h6⟩
theorem exprOk : ∀ e : E, AllOk T L P orc k e
  | .v i => all_val (ev_v) (fun N sc x h => by unfold ck at h; split at h <;> first | rfl | cases h) (fun _ _ => rfl) (fun _ _ _ => rfl) (fun _ _ _ _ => rfl) (fun _ _ _ _ => rfl) (fun _ _ _ => rfl) (fun _ _ _ _ => rfl) (fun _ _ _ _ => rfl)
  | .c d => all_val (ev_c) (fun N sc x h => by unfold ck at h; split at h <;> first | rfl | cases h) (fun _ _ => rfl) (fun _ _ _ => rfl) (fun _ _ _ _ => rfl) (fun _ _ _ _ => rfl) (fun _ _ _ => rfl) (fun _ _ _ _ => rfl) (fun _ _ _ _ => rfl)
  | .g i => all_val (ev_g) (fun N sc x h => by unfold ck at h; split at h <;> first | rfl | cases h) (fun _ _ => rfl) (fun _ _ _ => rfl) (fun _ _ _ _ => rfl) (fun _ _ _ _ => rfl) (fun _ _ _ => rfl) (fun _ _ _ _ => rfl) (fun _ _ _ _ => rfl)
  | .bin op m a b => all_val (ev_bin (exprOk a).ev (exprOk b).ev) (fun N sc x h => by unfold ck at h; split at h <;> first | rfl | cases h) (fun _ _ => rfl) (fun _ _ _ => rfl) (fun _ _ _ _ => rfl) (fun _ _ _ _ => rfl) (fun _ _ _ => rfl) (fun _ _ _ _ => rfl) (fun _ _ _ _ => rfl)
  | .neg a => all_val (ev_neg (exprOk a).ev) (fun N sc x h => by unfold ck at h; split at h <;> first | rfl | cases h) (fun _ _ => rfl) (fun _ _ _ => rfl) (fun _ _ _ _ => rfl) (fun _ _ _ _ => rfl) (fun _ _ _ => rfl) (fun _ _ _ _ => rfl) (fun _ _ _ _ => rfl)
  | .cmp op a b => all_tst (ev_cmp (exprOk a).ev (exprOk b).ev) (ts_cmp (exprOk a).ev (exprOk b).ev) (no_tw fun _ _ _ _ _ => rfl) (fun _ _ _ => rfl) (fun _ _ _ _ => rfl) (fun _ _ _ _ => rfl) (fun _ _ _ => rfl) (fun _ _ _ _ => rfl) (fun _ _ _ _ => rfl)
  | .chain o p a b d => all_tst (ev_chain (exprOk a).ev (exprOk b).ev (exprOk d).ev) (ts_chain (exprOk a).ev (exprOk b).ev (exprOk d).ev) (no_tw fun _ _ _ _ _ => rfl) (fun _ _ _ => rfl) (fun _ _ _ _ => rfl) (fun _ _ _ _ => rfl) (fun _ _ _ => rfl) (fun _ _ _ _ => rfl) (fun _ _ _ _ => rfl)
  | .band a b => all_tst (ev_band (exprOk a).ev (exprOk b).ev) (ts_of_tw (tw_band (exprOk a).ts (exprOk b).tw) (fun N sc x h => by unfold ck at h; split at h <;> first | exact ⟨_, _, _, rfl⟩ | cases h)) (tw_band (exprOk a).ts (exprOk b).tw) (fun _ _ _ => rfl) (fun _ _ _ _ => rfl) (fun _ _ _ _ => rfl) (fun _ _ _ => rfl) (fun _ _ _ _ => rfl) (fun _ _ _ _ => rfl)
  | .bor a b => all_tst (ev_bor (exprOk a).ev (exprOk b).ev) (ts_of_tw (tw_bor (exprOk a).ts (exprOk b).tw) (fun N sc x h => by unfold ck at h; split at h <;> first | exact ⟨_, _, _, rfl⟩ | cases h)) (tw_bor (exprOk a).ts (exprOk b).tw) (fun _ _ _ => rfl) (fun _ _ _ _ => rfl) (fun _ _ _ _ => rfl) (fun _ _ _ => rfl) (fun _ _ _ _ => rfl) (fun _ _ _ _ => rfl)
  | .b1 a => all_tst (ev_b1 (exprOk a).ev) (ts_of_tw (tw_b1 (exprOk a).ts) (fun N sc x h => by unfold ck at h; split at h <;> first | exact ⟨_, _, _, rfl⟩ | cases h)) (tw_b1 (exprOk a).ts) (fun _ _ _ => rfl) (fun _ _ _ _ => rfl) (fun _ _ _ _ => rfl) (fun _ _ _ => rfl) (fun _ _ _ _ => rfl) (fun _ _ _ _ => rfl)
  | .bnot a => all_tst (ev_bnot (exprOk a).ev) (ts_bnot (exprOk a).ts) (no_tw fun _ _ _ _ _ => rfl) (fun _ _ _ => rfl) (fun _ _ _ _ => rfl) (fun _ _ _ _ => rfl) (fun _ _ _ => rfl) (fun _ _ _ _ => rfl) (fun _ _ _ _ => rfl)
  | .ife t a b => all_tst (ev_ife (exprOk t).ts (exprOk a).ev (exprOk b).ev) (fun X W c x h => ⟨fun pins s σ H Q I q => by
      obtain ⟨F, φ, ρ, hh, hr, er, g⟩ := q
      rw [tq_ife] at g
      exact (G.no_ g).elim⟩) (no_tw fun _ _ _ _ _ => rfl) (fun _ _ _ => rfl) (fun _ _ _ _ => rfl) (fun _ _ _ _ => rfl) (fun _ _ _ => rfl) (fun _ _ _ _ => rfl) (fun _ _ _ _ => rfl)
  | .tup es => all_val (ev_tup (exprOk es).es) (fun N sc x h => by unfold ck at h; split at h <;> first | rfl | cases h) (fun _ _ => rfl) (fun _ _ _ => rfl) (fun _ _ _ _ => rfl) (fun _ _ _ _ => rfl) (fun _ _ _ => rfl) (fun _ _ _ _ => rfl) (fun _ _ _ _ => rfl)
  | .lst m es => all_val (ev_lst (exprOk es).es) (fun N sc x h => by unfold ck at h; split at h <;> first | rfl | cases h) (fun _ _ => rfl) (fun _ _ _ => rfl) (fun _ _ _ _ => rfl) (fun _ _ _ _ => rfl) (fun _ _ _ => rfl) (fun _ _ _ _ => rfl) (fun _ _ _ _ => rfl)
  | .dct => all_val (ev_dct) (fun N sc x h => by unfold ck at h; split at h <;> first | rfl | cases h) (fun _ _ => rfl) (fun _ _ _ => rfl) (fun _ _ _ _ => rfl) (fun _ _ _ _ => rfl) (fun _ _ _ => rfl) (fun _ _ _ _ => rfl) (fun _ _ _ _ => rfl)
  | .nil => ⟨no_ev fun _ _ _ => rfl, no_ts fun _ _ _ => rfl, (no_tw fun _ _ _ _ _ => rfl), es_nil, ks_nil, no_it fun _ _ _ _ => rfl, fs_nil, no_tg fun _ _ _ _ => rfl, tgs_nil⟩
  | .cons e es => ⟨no_ev fun _ _ _ => rfl, no_ts fun _ _ _ => rfl, (no_tw fun _ _ _ _ _ => rfl), es_cons (exprOk e).ev (exprOk es).es, ks_cons (exprOk e).ev (exprOk es).ks, no_it fun _ _ _ _ => rfl, fs_cons (exprOk e).ts, no_tg fun _ _ _ _ => rfl, tgs_cons (exprOk e).tg (exprOk es).tgs⟩
  | .star e es => ⟨no_ev fun _ _ _ => rfl, no_ts fun _ _ _ => rfl, (no_tw fun _ _ _ _ _ => rfl), es_star (exprOk e).ev (exprOk es).es, no_ks fun _ _ _ _ => rfl, no_it fun _ _ _ _ => rfl, no_fs fun _ _ _ => rfl, no_tg fun _ _ _ _ => rfl, no_tgs fun _ _ _ _ => rfl⟩
  | .ix a i => all_val (ev_ix (exprOk a).ev (exprOk i).ev) (fun N sc x h => by unfold ck at h; split at h <;> first | rfl | cases h) (fun _ _ => rfl) (fun _ _ _ => rfl) (fun _ _ _ _ => rfl) (fun _ _ _ _ => rfl) (fun _ _ _ => rfl) (fun _ _ _ _ => rfl) (fun _ _ _ _ => rfl)
  | .sl m a lo hi => all_val (ev_sl (exprOk a).ev (exprOk lo).ev (exprOk hi).ev) (fun N sc x h => by unfold ck at h; split at h <;> first | rfl | cases h) (fun _ _ => rfl) (fun _ _ _ => rfl) (fun _ _ _ _ => rfl) (fun _ _ _ _ => rfl) (fun _ _ _ => rfl) (fun _ _ _ _ => rfl) (fun _ _ _ _ => rfl)
  | .rev m a => all_val (ev_rev (exprOk a).ev) (fun N sc x h => by unfold ck at h; split at h <;> first | rfl | cases h) (fun _ _ => rfl) (fun _ _ _ => rfl) (fun _ _ _ _ => rfl) (fun _ _ _ _ => rfl) (fun _ _ _ => rfl) (fun _ _ _ _ => rfl) (fun _ _ _ _ => rfl)
  | .call ad j es => all_val (ev_call (exprOk es).es) (fun N sc x h => by unfold ck at h; split at h <;> first | rfl | cases h) (fun _ _ => rfl) (fun _ _ _ => rfl) (fun _ _ _ _ => rfl) (fun _ _ _ _ => rfl) (fun _ _ _ => rfl) (fun _ _ _ _ => rfl) (fun _ _ _ _ => rfl)
  | .callk ad j es ks => all_val (ev_callk (exprOk es).es (exprOk ks).ks) (fun N sc x h => by unfold ck at h; split at h <;> first | rfl | cases h) (fun _ _ => rfl) (fun _ _ _ => rfl) (fun _ _ _ _ => rfl) (fun _ _ _ _ => rfl) (fun _ _ _ => rfl) (fun _ _ _ _ => rfl) (fun _ _ _ _ => rfl)
  | .meth ad mi o alts es => all_val (ev_meth (exprOk o).ev (exprOk es).es) (fun N sc x h => by unfold ck at h; split at h <;> first | rfl | cases h) (fun _ _ => rfl) (fun _ _ _ => rfl) (fun _ _ _ _ => rfl) (fun _ _ _ _ => rfl) (fun _ _ _ => rfl) (fun _ _ _ _ => rfl) (fun _ _ _ _ => rfl)
  | .att o i alts => all_val (ev_att (exprOk o).ev) (fun N sc x h => by unfold ck at h; split at h <;> first | rfl | cases h) (fun _ _ => rfl) (fun _ _ _ => rfl) (fun _ _ _ _ => rfl) (fun _ _ _ _ => rfl) (fun _ _ _ => rfl) (fun _ _ _ _ => rfl) (fun _ _ _ _ => rfl)
  | .blt m b es => all_val (ev_blt (exprOk es).es) (fun N sc x h => by unfold ck at h; split at h <;> first | rfl | cases h) (fun _ _ => rfl) (fun _ _ _ => rfl) (fun _ _ _ _ => rfl) (fun _ _ _ _ => rfl) (fun _ _ _ => rfl) (fun _ _ _ _ => rfl) (fun _ _ _ _ => rfl)
  | .isi a ts => all_val (ev_isi (exprOk a).ev) (fun N sc x h => by unfold ck at h; split at h <;> first | rfl | cases h) (fun _ _ => rfl) (fun _ _ _ => rfl) (fun _ _ _ _ => rfl) (fun _ _ _ _ => rfl) (fun _ _ _ => rfl) (fun _ _ _ _ => rfl) (fun _ _ _ _ => rfl)
  | .bm b o es => all_val (ev_bm (exprOk o).ev (exprOk es).es) (fun N sc x h => by unfold ck at h; split at h <;> first | rfl | cases h) (fun _ _ => rfl) (fun _ _ _ => rfl) (fun _ _ _ _ => rfl) (fun _ _ _ _ => rfl) (fun _ _ _ => rfl) (fun _ _ _ _ => rfl) (fun _ _ _ _ => rfl)
  | .comp m own tg it ifs el => all_val (ev_comp (exprOk tg).tg (exprOk it).it (exprOk ifs).fs (exprOk el).ev) (fun N sc x h => by unfold ck at h; split at h <;> first | rfl | cases h) (fun _ _ => rfl) (fun _ _ _ => rfl) (fun _ _ _ _ => rfl) (fun _ _ _ _ => rfl) (fun _ _ _ => rfl) (fun _ _ _ _ => rfl) (fun _ _ _ _ => rfl)
  | .comp2 _ _ _ _ _ _ _ _ => all_tst (no_ev fun _ _ _ => rfl) (no_ts fun _ _ _ => rfl) (no_tw fun _ _ _ _ _ => rfl) (fun _ _ _ => rfl) (fun _ _ _ _ => rfl) (fun _ _ _ _ => rfl) (fun _ _ _ => rfl) (fun _ _ _ _ => rfl) (fun _ _ _ _ => rfl)
  | .i_e e => all_iter (it_e (exprOk e).ev) (fun _ _ _ => rfl) (fun _ _ _ => rfl) (fun _ _ _ _ => rfl) (fun _ _ _ => rfl) (fun _ _ _ _ => rfl) (fun _ _ _ _ => rfl)
  | .i_r1 a => all_iter (it_r1 (exprOk a).ev) (fun _ _ _ => rfl) (fun _ _ _ => rfl) (fun _ _ _ _ => rfl) (fun _ _ _ => rfl) (fun _ _ _ _ => rfl) (fun _ _ _ _ => rfl)
  | .i_r2 a b => all_iter (it_r2 (exprOk a).ev (exprOk b).ev) (fun _ _ _ => rfl) (fun _ _ _ => rfl) (fun _ _ _ _ => rfl) (fun _ _ _ => rfl) (fun _ _ _ _ => rfl) (fun _ _ _ _ => rfl)
  | .i_en a => all_iter (it_en (exprOk a).ev) (fun _ _ _ => rfl) (fun _ _ _ => rfl) (fun _ _ _ _ => rfl) (fun _ _ _ => rfl) (fun _ _ _ _ => rfl) (fun _ _ _ _ => rfl)
  | .i_zip a b => all_iter (it_zip (exprOk a).ev (exprOk b).ev) (fun _ _ _ => rfl) (fun _ _ _ => rfl) (fun _ _ _ _ => rfl) (fun _ _ _ => rfl) (fun _ _ _ _ => rfl) (fun _ _ _ _ => rfl)
  | .t_n i => all_targ tg_n (fun _ _ _ => rfl) (fun _ _ _ => rfl) (fun _ _ _ _ => rfl) (fun _ _ _ _ => rfl) (fun _ _ _ => rfl) (fun _ _ _ _ => rfl)
  | .t_t ts => all_targ (tg_t (exprOk ts).tgs) (fun _ _ _ => rfl) (fun _ _ _ => rfl) (fun _ _ _ _ => rfl) (fun _ _ _ _ => rfl) (fun _ _ _ => rfl) (fun _ _ _ _ => rfl)
  | .t_s o i => all_targ (tg_s (exprOk o).ev (exprOk i).ev) (fun _ _ _ => rfl) (fun _ _ _ => rfl) (fun _ _ _ _ => rfl) (fun _ _ _ _ => rfl) (fun _ _ _ => rfl) (fun _ _ _ _ => rfl)
  | .t_a o i => all_targ (no_tg fun _ _ _ _ => rfl) (fun _ _ _ => rfl) (fun _ _ _ => rfl) (fun _ _ _ _ => rfl) (fun _ _ _ _ => rfl) (fun _ _ _ => rfl) (fun _ _ _ _ => rfl)
end
end MV

set_option maxRecDepth 100000
set_option maxHeartbeats 1000000
/-! VL: statements. -/
namespace MV
open PySem PySem.Spec PyProof.Rows L2
/-- a statement's run is good -/
def GS (L : Lk) (F : Fm) (φ : List Addr) (H : Hp) (W : WX) (r : RS) (D : Ends) : Prop := match r with
  | .nx ρ' h' => ∀ φ' H' σ', XT φ H φ' H' → HR L F φ' h' H' → ER L F φ' H' ρ' σ' → D.nx σ' H'
  | .bk ρ' h' => ∀ φ' H' σ', XT φ H φ' H' → HR L F φ' h' H' → ER L F φ' H' ρ' σ' → D.bk σ' H'
  | .ct ρ' h' => ∀ φ' H' σ', XT φ H φ' H' → HR L F φ' h' H' → ER L F φ' H' ρ' σ' → D.ct σ' H'
  | .rt d h' => ∀ φ' H' v, XT φ H φ' H' → HR L F φ' h' H' → Rel L F φ' H' d v → D.rt v H'
  | .exc c ks vs ρ' h' => ∀ φ' H' σ' cls dd, XT φ H φ' H' → HR L F φ' h' H' → ER L F φ' H' ρ' σ' → XRel L F φ' H' c ks vs cls dd → W cls dd σ' H'
  | .no => False
def rdS (L : Lk) (W : WX) (f : Env → HH → RS) : TS := fun D σ H => ∃ F φ ρ h, HR L F φ h H ∧ ER L F φ H ρ σ ∧ GS L F φ H W (f ρ h) D
section
variable {L : Lk} {F : Fm} {φ φ1 : List Addr} {H H1 : Hp} {W : WX} {D D' : Ends} {r : RS}
theorem GS.mono (x : XT φ H φ1 H1) (g : GS L F φ H W r D) : GS L F φ1 H1 W r D := by
  cases r with
  | nx ρ h => exact fun φ' H' σ' t => g φ' H' σ' (x.trans t)
  | bk ρ h => exact fun φ' H' σ' t => g φ' H' σ' (x.trans t)
  | ct ρ h => exact fun φ' H' σ' t => g φ' H' σ' (x.trans t)
  | rt d h => exact fun φ' H' v t => g φ' H' v (x.trans t)
  | exc c ks vs ρ h => exact fun φ' H' σ' cls dd t => g φ' H' σ' cls dd (x.trans t)
  | no => exact g
theorem GS.st {α β : Type} {Rl : List Addr → Hp → α → β → Prop} {r : R α} {ρ : Env} {σ : L2.St} {f : α → HH → RS} {Q : β → Hp → Prop} (g : GS L F φ H W (r.st ρ f) D) (er : ER L F φ H ρ σ)
    (k : ∀ a h1 φ1 H1 b, r = .ok a h1 → XT φ H φ1 H1 → HR L F φ1 h1 H1 → Rl φ1 H1 a b → GS L F φ1 H1 W (f a h1) D → Q b H1) : G L F φ H Rl r Q (fun c d H' => W c d σ H') := by
  cases r with
  | ok a h1 => exact fun φ1 H1 b t hr rl => k a h1 φ1 H1 b rfl t hr rl (GS.mono t g)
  | exc c ks vs h1 => exact fun φ' H' cls dd t hr xr => g φ' H' σ cls dd t hr (er.mono t) xr
  | no => exact g
end
/-- a context of a def's body -/
structure CX2 (T : Tb) (L : Lk) (P : Prog) (orc : Orc) (k : Nat) (X : Cx) (W : WX) : Prop extends CX1 T L P orc k X W where
  fn : X.fn = fun _ => true
  kind : X.env.scope.kind = .function
  own : PassesOwn (model X.prog X.w) X.A X.env X.xe
theorem nswB_ok {env : PySem.Env} {n : Str} {q : Pos} {y : Expr} {l : Nat} (h : nswB env.scope n q y = true) : swapsWith y (some (.Name n q)) l env = pure false := by
  unfold nswB at h
  cases hn : ncB y with
  | true => exact ncSw y _ l env hn
  | false =>
    rw [hn, Bool.false_or] at h
    split at h
    · rename_i e g s p
      show (pure (env.blockKind == .function && env.kindOf n == some .local && q.line == p.line && !(s.names.any fun (m, k) => m == n && (k == .local || k == .cell))) : Sem Bool) = pure false
      rcases Bool.or_eq_true_iff.mp h with z | z
      · have e1 : (env.kindOf n == some .local) = false := by
          cases hk : env.kindOf n with
          | none => rfl
          | some kk =>
            unfold locB isLoc at z
            rw [show env.scope.names.lookup n = some kk from hk] at z
            cases kk <;> first | rfl | cases z
        rw [e1, Bool.and_false, Bool.false_and, Bool.false_and]
      · have e1 : (q.line == p.line) = false := by simpa using z
        rw [e1, Bool.and_false, Bool.false_and]
    · cases h
theorem blockFn {env : PySem.Env} (hk : env.scope.kind = .function) : env.blockKind = .function := by
  unfold Env.blockKind
  rw [hk] <;> rfl
theorem fm_lt {α β : Type} {f : α → Option β} : ∀ {l : List α}, (l.any fun x => (f x).isNone) = true → (l.filterMap f).length < l.length
  | [], h => by cases h
  | x :: xs, h => by
    rw [List.any_cons] at h
    cases hf : f x with
    | none =>
      rw [List.filterMap_cons_none hf, List.length_cons]
      exact Nat.lt_succ_of_le (List.length_filterMap_le f xs)
    | some b =>
      rw [hf] at h
      rw [List.filterMap_cons_some hf, List.length_cons, List.length_cons]
      exact Nat.succ_lt_succ (fm_lt (by simpa using h))
theorem any_imp {α : Type} {f g : α → Bool} (h : ∀ x, f x = true → g x = true) : ∀ {l : List α}, l.any f = true → l.any g = true
  | [], q => by cases q
  | x :: xs, q => by
    rw [List.any_cons] at q ⊢
    rcases Bool.or_eq_true_iff.mp q with z | z
    · rw [h x z] <;> rfl
    · rw [any_imp h z, Bool.or_true]
theorem ssNone {env : PySem.Env} {x y : Expr} (hk : env.scope.kind = .function) (h : ssB env.scope x y = true) : swappedStores [x] y env = pure none := by
  cases x with
  | Tuple ts k1 p1 =>
    cases y with
    | Tuple vs k2 p2 =>
      have h : ((!(ts.length == 2 || ts.length == 3) || vs.length != ts.length) || ts.any fun t => match t with
        | .Name x _ => !locB env.scope x
        | _ => true) = true := h
      unfold swappedStores
      simp only [pure_bind, blockFn hk]
      rcases Bool.or_eq_true_iff.mp h with z | z
      · rw [if_pos (by rw [z] <;> rfl)] <;> rfl
      · split
        · rfl
        · split
          · rfl
          · have lt : ∀ (f : Expr → Option Str), (∀ t, (match t with
              | .Name x _ => !locB env.scope x
              | _ => true) = true → (f t).isNone = true) → ((ts.filterMap f).length != ts.length) = true := fun f hf => by
              have := fm_lt (f := f) (any_imp hf z)
              rw [bne_iff_ne]
              omega
            rw [if_pos]
            · refine Bool.or_eq_true_iff.mpr (.inl (lt _ fun t ht => ?_))
              cases t <;> first | rfl | skip
              rename_i id pos
              have e1 : (env.kindOf id == some .local) = false := by
                have ht : (!locB env.scope id) = true := ht
                cases hk : env.kindOf id with
                | none => rfl
                | some kk =>
                  unfold locB isLoc at ht
                  rw [show env.scope.names.lookup id = some kk from hk] at ht
                  cases kk <;> first | rfl | cases ht
              simp [e1]
    | _ => rfl
  | List ts p1 =>
    cases y with
    | Tuple vs k2 p2 => cases h
    | _ => rfl
  | _ => rfl
/-! ### the promise for a statement -/
section
variable (T : Tb) (L : Lk) (P : Prog) (orc : Orc) (k : Nat)
def StOk (s : S) : Prop := ∀ X W, CX2 T L P orc k X W → ∀ x, s.basic = true → ckS T X.N s X.env.scope [x] = true → PS X x (rdS L W (run P orc s))
def SsOk (s : S) : Prop := ∀ X W, CX2 T L P orc k X W → ∀ xs, ckS T X.N s X.env.scope xs = true → PSs X xs (rdS L W (run P orc s))
end
section
variable {T : Tb} {L : Lk} {P : Prog} {orc : Orc} {k : Nat}
theorem ss_skip : SsOk T L P orc k .skip := by
  intro X W c xs h
  unfold ckS at h
  split at h
  · exact pss_nil.imp fun D σ H ⟨F, φ, ρ, hh, hr, er, g⟩ => g φ H σ (.refl _ _) hr er
  · cases h
theorem ss_seq {s t : S} (hs : StOk T L P orc k s) (ht : SsOk T L P orc k t) : SsOk T L P orc k (.seq s t) := by
  intro X W c xs h
  unfold ckS at h
  split at h
  · obtain ⟨h1, h⟩ := and_ h
    obtain ⟨h2, h3⟩ := and_ h
    refine (pss_cons (hs X W c _ h1 h2) (ht X W c _ h3)).imp fun D σ H ⟨F, φ, ρ, hh, hr, er, g⟩ => ⟨F, φ, ρ, hh, hr, er, ?_⟩
    have g : GS L F φ H W (match run P orc s ρ hh with
      | .nx ρ1 h1 => run P orc t ρ1 h1
      | z => z) D := g
    cases e : run P orc s ρ hh with
    | nx ρ1 h1 =>
      rw [e] at g
      exact fun φ' H' σ' tt hr' er' => ⟨F, φ', ρ1, h1, hr', er', GS.mono tt g⟩
    | _ =>
      rw [e] at g
      exact g
  · cases h
theorem basic_one {N : List Str} {s : S} {sc : Scope} {xs : List Stmt} (hb : s.basic = true) (h : ckS T N s sc xs = true) : ∃ x, xs = [x] := by
  cases s <;> first | (cases hb; done) | (unfold ckS at h; split at h <;> first | exact ⟨_, rfl⟩ | cases h)
theorem ss_one {s : S} (hb : s.basic = true) (hs : StOk T L P orc k s) : SsOk T L P orc k s := by
  intro X W c xs h
  obtain ⟨x, rfl⟩ := basic_one hb h
  exact pss_one (hs X W c x hb h)
theorem st_ex {e : E} : StOk T L P orc k (.ex e) := by
  intro X W c x hb h
  unfold ckS at h
  split at h
  · rename_i x' y p e0
    cases e0
    obtain ⟨h1, h2⟩ := and_ h
    refine (ps_expr ((exprOk e).ev X W c.toCX1 _ h2) (ncSw _ _ _ _ h1)).imp fun D σ H ⟨F, φ, ρ, hh, hr, er, g⟩ => ⟨F, φ, ρ, hh, hr, er, ?_⟩
    exact GS.st (Rl := fun φ H d v => Rel L F φ H d v) (show GS L F φ H W ((ev P orc e ρ hh).st ρ fun _ h1 => .nx ρ h1) D from g) er fun a h1 φ1 H1 b _ t hr1 _ g1 => g1 φ1 H1 σ (.refl _ _) hr1 (er.mono t)
  · cases h
theorem st_ret {e : E} : StOk T L P orc k (.ret e) := by
  intro X W c x hb h
  unfold ckS at h
  split at h
  · rename_i x' y p e0
    cases e0
    refine (ps_ret ((exprOk e).ev X W c.toCX1 _ h)).imp fun D σ H ⟨F, φ, ρ, hh, hr, er, g⟩ => ⟨F, φ, ρ, hh, hr, er, ?_⟩
    exact GS.st (Rl := fun φ H d v => Rel L F φ H d v) (show GS L F φ H W ((ev P orc e ρ hh).st ρ fun d h1 => .rt d h1) D from g) er fun a h1 φ1 H1 b _ t hr1 rx g1 => g1 φ1 H1 b (.refl _ _) hr1 rx
  · cases h
theorem st_retN : StOk T L P orc k .retN := by
  intro X W c x hb h
  unfold ckS at h
  split at h
  · rename_i x' p e0
    cases e0
    exact ps_retN.imp fun D σ H ⟨F, φ, ρ, hh, hr, er, g⟩ => g φ H _ (.refl _ _) hr .non
  · cases h
theorem st_brk : StOk T L P orc k .brk := by
  intro X W c x hb h
  unfold ckS at h
  split at h
  · rename_i x' p e0
    cases e0
    exact ps_break.imp fun D σ H ⟨F, φ, ρ, hh, hr, er, g⟩ => g φ H _ (.refl _ _) hr er
  · cases h
theorem st_cnt : StOk T L P orc k .cnt := by
  intro X W c x hb h
  unfold ckS at h
  split at h
  · rename_i x' p e0
    cases e0
    exact ps_continue.imp fun D σ H ⟨F, φ, ρ, hh, hr, er, g⟩ => g φ H _ (.refl _ _) hr er
  · cases h
theorem st_pass : StOk T L P orc k .pass := by
  intro X W c x hb h
  unfold ckS at h
  split at h
  · rename_i x' p e0
    cases e0
    exact ps_pass.imp fun D σ H ⟨F, φ, ρ, hh, hr, er, g⟩ => g φ H _ (.refl _ _) hr er
  · cases h
theorem st_rais {n : Nat} {es : E} : StOk T L P orc k (.rais n es) := fun X W c x hb h => ⟨fun pins s σ H D I ⟨F, φ, ρ, hh, hr, er, g⟩ => g.elim⟩
theorem st_ite {c : E} {s t : S} (hs : SsOk T L P orc k s) (ht : SsOk T L P orc k t) : StOk T L P orc k (.ite c s t) := by
  intro X W cx x hb h
  unfold ckS at h
  split at h
  · rename_i x' z a b p e0
    cases e0
    obtain ⟨h1, h⟩ := and_ h
    obtain ⟨h2, h3⟩ := and_ h
    refine (ps_if ((exprOk c).ts X W cx.toCX1 _ h1) (hs X W cx _ h2) (ht X W cx _ h3)).imp fun D σ H ⟨F, φ, ρ, hh, hr, er, g⟩ => ⟨F, φ, ρ, hh, hr, er, ?_⟩
    refine GS.st (Rl := fun _ _ a b => a = b) (show GS L F φ H W ((tst P orc c ρ hh).st ρ fun k h1 => match k with
      | true => run P orc s ρ h1
      | false => run P orc t ρ h1) D from g) er fun a h1 φ1 H1 b _ tt hr1 rx g1 => ?_
    subst rx
    cases a with
    | true =>
      rw [if_pos rfl]
      exact ⟨F, φ1, ρ, h1, hr1, er.mono tt, g1⟩
    | false =>
      rw [if_neg Bool.false_ne_true]
      exact ⟨F, φ1, ρ, h1, hr1, er.mono tt, g1⟩
  · cases h
end
end MV

set_option maxRecDepth 100000
set_option maxHeartbeats 1000000
/-! VM: stores, loops; all statements. -/
namespace MV
open PySem PySem.Spec PyProof.Rows L2
section
variable {T : Tb} {L : Lk} {P : Prog} {orc : Orc} {k : Nat}
theorem ns_tg {t : E} {N : List Str} {fn : Str → Bool} {sc : Scope} {x : Expr} (h : ckG T N t fn sc x = true) : nsB x = true := by
  cases x <;> first | rfl | (cases t <;> first | (unfold ckG at h; cases h; done) | cases h)
/-- target = value -/
theorem asg_gen {X : Cx} {W : WX} (c : CX2 T L P orc k X W) {t e : E} {x y : Expr} {p : Pos} (h : (ncB y && (ssB X.env.scope x y && (ckG T X.N t (fun _ => true) X.env.scope x && ck T X.N e X.env.scope y))) = true) : PS X (.Assign [x] y p) (rdS L W (run P orc (.asg t e))) := by
  obtain ⟨h1, h⟩ := and_ h
  obtain ⟨h2, h⟩ := and_ h
  obtain ⟨h3, h4⟩ := and_ h
  have hg : PG X x (rdG L (tgSlots t) (asg P orc t)) := (exprOk t).tg X W c.toCX1 x (by rw [c.fn]; exact h3)
  refine (ps_asg ((exprOk e).ev X W c.toCX1 _ h4) hg (ncSw _ _ _ _ h1) (ssNone c.kind h2) ?_).imp fun D σ H ⟨F, φ, ρ, hh, hr, er, g⟩ => ?_
  · rw [aEach x [] X.env (ns_tg h3)]
    rfl
  · refine ⟨F, φ, ρ, hh, hr, er, ?_⟩
    refine GS.st (Rl := fun φ H d v => Rel L F φ H d v) (show GS L F φ H W ((ev P orc e ρ hh).st ρ fun d h1 => (asg P orc t d ρ h1).pur.st ρ fun ρ1 h2 => .nx ρ1 h2) D from g) er fun a h1 φ1 H1 b _ tt hr1 rx g1 => ?_
    refine ⟨F, φ1, ρ, h1, a, hr1, er.mono tt, rx, ?_⟩
    cases ea : asg P orc t a ρ h1 with
    | ok ρ1 h2 =>
      rw [ea] at g1
      exact fun φ' H' σ' t2 hr2 er2 _ => g1 φ' H' σ' t2 hr2 er2
    | exc _ _ _ _ =>
      rw [ea] at g1
      exact (show False from g1).elim
    | no =>
      rw [ea] at g1
      exact (show False from g1).elim
theorem name_run {Dn : Ends} {W : WX} {F : Fm} {φ φ1 : List Addr} {H H1 : Hp} {ρ : Env} {σ : L2.St} {h1 : HH} {i : Nat} {a : D} {b : V} (er : ER L F φ H ρ σ) (tt : XT φ H φ1 H1) (hr1 : HR L F φ1 h1 H1) (rx : Rel L F φ1 H1 a b) (g1 : GS L F φ1 H1 W ((asg P orc (.t_n i) a ρ h1).pur.st ρ fun ρ1 h2 => .nx ρ1 h2) Dn) : Dn.nx (σ.set i (some b)) H1 := by
  rw [q_t_n] at g1
  exact g1 φ1 H1 _ (.refl _ _) hr1 ((er.mono tt).set rx)
/-- name = value -/
theorem asg_name {X : Cx} {W : WX} (c : CX2 T L P orc k X W) {i : Nat} {e : E} {n : Str} {q p : Pos} {y : Expr} (h1 : X.N[i]? = some n) (h2 : stoB X.env.scope n = true) (h3 : ck T X.N e X.env.scope y = true) (h4 : nswB X.env.scope n q y = true) : PS X (.Assign [.Name n q] y p) (rdS L W (run P orc (.asg (.t_n i) e))) :=
  (ps_set c.nd h1 (stoB_ h2) ((exprOk e).ev X W c.toCX1 _ h3) (nswB_ok h4) (.inl (by rw [c.fn]))).imp fun D σ H ⟨F, φ, ρ, hh, hr, er, g⟩ =>
    ⟨F, φ, ρ, hh, hr, er, GS.st (Rl := fun φ H d v => Rel L F φ H d v) (show GS L F φ H W ((ev P orc e ρ hh).st ρ fun d h1 => (asg P orc (.t_n i) d ρ h1).pur.st ρ fun ρ1 h2 => .nx ρ1 h2) D from g) er fun a h1 φ1 H1 b _ tt hr1 rx g1 => name_run er tt hr1 rx g1⟩
/-- name = [..] on one line -/
theorem asg_lc {X : Cx} {W : WX} (c : CX2 T L P orc k X W) {i : Nat} {e : E} {n : Str} {q p : Pos} {y : Expr} (h1 : X.N[i]? = some n) (h3 : ck T X.N e X.env.scope y = true) (h4 : swB X.env.scope n q y = true) : PS X (.Assign [.Name n q] y p) (rdS L W (run P orc (.asg (.t_n i) e))) := by
  unfold swB at h4
  split at h4
  · rename_i elt gs scope lp
    obtain ⟨z, z3⟩ := and_ h4
    obtain ⟨z1, z2⟩ := and_ z
    cases e <;> first | (unfold ck at h3; cases h3; done) | skip
    rename_i m own tg it ifs el
    unfold ck at h3
    split at h3
    · rename_i elt' t' i' cs' scope' p' e0
      cases e0
      obtain ⟨p1, p2, p3, p4, p5, p6, p7⟩ := lc_parts c.toCX1 (exprOk tg).tg (exprOk it).it (exprOk ifs).fs (exprOk el).ev h3
      refine (ps_setLc c.calm c.nd h1 (locB_ z1) (sw_true c.kind (locB_ z1) z2 (by simpa using z3)) p1 p2 p3 p4 p5 p6).imp fun D σ H ⟨F, φ, ρ, hh, hr, er, g⟩ => ?_
      refine lc_read (m := m) (P := P) (orc := orc) (el := el) p7 σ H _ ⟨F, φ, ρ, hh, hr, er, ?_⟩
      exact GS.st (Rl := fun φ H d v => Rel L F φ H d v) (show GS L F φ H W ((ev P orc (.comp m own tg it ifs el) ρ hh).st ρ fun d h1 => (asg P orc (.t_n i) d ρ h1).pur.st ρ fun ρ1 h2 => .nx ρ1 h2) D from g) er fun a h1 φ1 H1 b _ tt hr1 rx g1 => name_run er tt hr1 rx g1
    · cases h3
  · cases h4
theorem putF_ok {nm : Nat → Str} (inj : ∀ i j, nm i = nm j → i = j) {F : Fm} {φ : List Addr} {H : Hp} {k : Nat} {d : D} {v : V} (rd : Rel L F φ H d v) : ∀ {fs : List (Str × V)} {ks : List Nat} {ds : List D}, fs.map (·.1) = ks.map nm → Rels L F φ H ds (fs.map (·.2)) →
    (L2.putF (nm k) v fs).map (·.1) = (MV.putF ks ds k d).1.map nm ∧ Rels L F φ H (MV.putF ks ds k d).2 ((L2.putF (nm k) v fs).map (·.2))
  | [], ks, ds, e, r => by
    cases ks with
    | nil =>
      cases r
      exact ⟨rfl, .cons rd .nil⟩
    | cons _ _ => cases e
  | (g, x) :: fs, ks, ds, e, r => by
    cases ks with
    | nil => cases e
    | cons k' ks =>
      cases r with
      | @cons d' _ ds' _ r1 r2 =>
        have e1 : g = nm k' := (List.cons.inj e).1
        have e2 : fs.map (·.1) = ks.map nm := (List.cons.inj e).2
        obtain ⟨a, b⟩ := putF_ok inj rd e2 r2
        by_cases hk : k' = k
        · subst hk
          have q1 : L2.putF (nm k') v ((g, x) :: fs) = (g, v) :: fs := by
            show (if g = nm k' then _ else _) = _
            rw [if_pos e1]
          have q2 : MV.putF (k' :: ks) (d' :: ds') k' d = (k' :: ks, d :: ds') := by
            show (if (k' == k') = true then _ else _) = _
            rw [if_pos (beq_self_eq_true k')]
          rw [q1, q2]
          exact ⟨e, .cons rd r2⟩
        · have n1 : g ≠ nm k := fun z => hk (inj _ _ (e1.symm.trans z))
          have q1 : L2.putF (nm k) v ((g, x) :: fs) = (g, x) :: L2.putF (nm k) v fs := by
            show (if g = nm k then _ else _) = _
            rw [if_neg n1]
          have q2 : MV.putF (k' :: ks) (d' :: ds') k d = (k' :: (MV.putF ks ds' k d).1, d' :: (MV.putF ks ds' k d).2) := by
            show (if (k' == k) = true then _ else _) = _
            rw [if_neg (by simpa using hk)]
          rw [q1, q2]
          refine ⟨?_, .cons r1 b⟩
          rw [List.map_cons, List.map_cons, a, e1]
/-- o.f = value -/
theorem asg_fld {X : Cx} {W : WX} (c : CX2 T L P orc k X W) {i : Nat} {o e : E} {f : Str} {q p : Pos} {y z : Expr} (hnm : T.nm[i]? = some f) (h2 : ncB y = true) (h3 : ck T X.N o X.env.scope z = true) (h4 : ck T X.N e X.env.scope y = true) : PS X (.Assign [.Attribute z f q] y p) (rdS L W (run P orc (.asg (.t_a o i) e))) := by
  refine (ps_fld ((exprOk o).ev X W c.toCX1 _ h3) ((exprOk e).ev X W c.toCX1 _ h4) (ncSw _ _ _ _ h2)).imp fun D σ H ⟨F, φ, ρ, hh, hr, er, g⟩ => ?_
  refine ⟨F, φ, ρ, hh, hr, er, ?_⟩
  refine GS.st (Rl := fun φ H d v => Rel L F φ H d v) (show GS L F φ H W ((ev P orc e ρ hh).st ρ fun d h1 => (asg P orc (.t_a o i) d ρ h1).pur.st ρ fun ρ1 h2 => .nx ρ1 h2) D from g) er fun a h1 φ1 H1 b _ tt hr1 rx g1 => ?_
  refine ⟨F, φ1, ρ, h1, hr1, er.mono tt, ?_⟩
  rw [q_t_a] at g1
  cases eo : ev P orc o ρ h1 with
  | exc _ _ _ _ =>
    rw [eo] at g1
    exact (show False from g1).elim
  | no =>
    rw [eo] at g1
    exact (show False from g1).elim
  | ok x h2 =>
    rw [eo] at g1
    intro φ2 H2 u t2 hr2 ru
    have g1 : GS L F φ1 H1 W ((match setF P.fld x i a h2 with
      | some h3 => R.ok ρ h3
      | none => R.no).pur.st ρ fun ρ1 h2 => .nx ρ1 h2) D := g1
    unfold setF at g1
    split at g1
    · rename_i hh2 es
      split at es
      · rename_i n
        cases ru with
        | @ref _ ad eφ =>
          obtain ⟨w, e1, ro⟩ := hr2.ro eφ
          rw [e1] at es
          cases ro with
          | @ins dx fs c' ks ds q1 q2 q3 =>
            dsimp only at es
            split at es
            · rename_i hc
              cases es
              obtain ⟨hc1, hc2⟩ := and_ hc
              have hl := Nat.le_of_ble_eq_true hc2
              obtain ⟨k1, k2⟩ := c.fa.fld c' i hc1
              have en := c.fa.nm i f hnm
              have hw : XT φ2 H2 φ2 (upd H2 ad (.ins (L.cl c') dx (L2.putF f b fs))) := XT.write hr2 (List.mem_of_getElem? eφ)
              obtain ⟨p1, p2⟩ := putF_ok c.fa.inj ((rx.mono t2).mono hw) q2 (q3.mono hw) (k := i)
              rw [en] at p1 p2 k2
              refine ⟨ad, L.cl c', dx, fs, rfl, q1, k1, k2, ?_, ?_⟩
              · have := congrArg List.length q2
                rw [List.length_map, List.length_map] at this
                omega
              · exact g1 φ2 _ σ (t2.trans hw) (HR.write hr2 eφ (.ins upd_same p1 p2)) (((er.mono tt).mono t2).mono hw)
            · cases es
          | _ => cases es
      · cases es
    · exact (show False from g1).elim
theorem st_asg {t e : E} : StOk T L P orc k (.asg t e) := by
  intro X W c x hb h
  unfold ckS at h
  split at h
  · rename_i x' x y p e0
    cases e0
    split at h
    · obtain ⟨h1, h⟩ := and_ h
      obtain ⟨h2, h⟩ := and_ h
      obtain ⟨h3, h4⟩ := and_ h
      rcases Bool.or_eq_true_iff.mp h4 with z | z
      · exact asg_name c (of_decide_eq_true h1) h2 h3 z
      · exact asg_lc c (of_decide_eq_true h1) h3 z
    · obtain ⟨h1, h⟩ := and_ h
      obtain ⟨h2, h⟩ := and_ h
      obtain ⟨h3, h4⟩ := and_ h
      exact asg_fld c (of_decide_eq_true h1) h2 h3 h4
    · exact asg_gen c h
  · cases h
end
end MV

set_option maxRecDepth 100000
set_option maxHeartbeats 1000000
/-! VN: stores in a row, loops; all statements. -/
namespace MV
open PySem PySem.Spec PyProof.Rows L2
section
variable {T : Tb} {L : Lk} {P : Prog} {orc : Orc} {k : Nat}
/-! ### a, b = x, y -/
theorem ckPar_nil {N : List Str} {sc : Scope} {ts : List Expr} {l : Nat} (h : ckPar N sc [] ts l = true) : ts = [] := by
  cases ts with
  | nil => rfl
  | cons _ _ => cases h
theorem ckPar_cons {N : List Str} {sc : Scope} {i : Nat} {is : List Nat} {ts : List Expr} {l : Nat} (h : ckPar N sc (i :: is) ts l = true) : ∃ x p r, ts = .Name x p :: r ∧ N[i]? = some x ∧ locB sc x = true ∧ (p.line == l) = true ∧ ckPar N sc is r l = true := by
  cases ts with
  | nil => cases h
  | cons t r =>
    cases t <;> first | (cases h; done) | skip
    rename_i x p
    have h : (decide (N[i]? = some x) && (locB sc x && ((p.line == l) && ckPar N sc is r l))) = true := h
    obtain ⟨h1, h⟩ := and_ h
    obtain ⟨h2, h⟩ := and_ h
    obtain ⟨h3, h4⟩ := and_ h
    exact ⟨x, p, r, rfl, of_decide_eq_true h1, h2, h3, h4⟩
theorem nsAny : ∀ {vs : List Expr}, nsAll vs = true → (vs.any fun | .Starred .. => true | _ => false) = false
  | [], _ => rfl
  | v :: vs, h => by
    obtain ⟨h1, h2⟩ := and_ (show (nsB v && nsAll vs) = true from h)
    rw [List.any_cons, nsAny h2, Bool.or_false]
    cases v <;> first | rfl | cases h1
theorem kindLoc {env : PySem.Env} {x : Str} (h : locB env.scope x = true) : (env.kindOf x == some .local) = true := by
  have : env.kindOf x = some .local := locB_ h
  rw [this]
  rfl
theorem ssSome {env : PySem.Env} {ts vs : List Expr} {k1 k2 : Nat} {p1 p2 : Pos} {ns : List Str} (hk : env.scope.kind = .function) (hl : ((ts.length == 2 || ts.length == 3) && vs.length == ts.length) = true) (hs : nsAll vs = true)
    (hn : (ts.filterMap fun
      | .Name id pos => if env.kindOf id == some .local && pos.line == (ts.head?.map (·.pos.line)).getD 0 then some id else none
      | _ => none) = ns) (hnl : ns.length = ts.length) (hnd : ns.eraseDups.length = ns.length) (c1 : (vs.all (foldedForSure 8)) = false) (c2 : (vs.all (constantsAlone 8)) = false) :
    swappedStores [.Tuple ts k1 p1] (.Tuple vs k2 p2) env = pure (some ns) := by
  obtain ⟨l1, l2⟩ := and_ hl
  unfold swappedStores
  simp only [pure_bind, blockFn hk]
  refine (if_neg ?_).trans ?_
  · rw [l1, show (vs.length != ts.length) = false by simpa using l2]
    simp
  refine (if_neg (fun q => Bool.noConfusion ((nsAny hs).symm.trans q))).trans ?_
  have hn' : (ts.filterMap fun
      | .Name id pos => if env.kindOf id == some .local && pos.line == (ts.head?.map (·.pos.line)).getD 0 then some id else none
      | _ => none) = ns := hn
  refine (if_neg (fun q => ?_)).trans ?_
  · have e1 : (ns.length != ts.length || ns.eraseDups.length != ns.length) = true := by
      rw [← hn']
      exact q
    rw [hnl, hnd, hnl] at e1
    simp at e1
  refine (if_neg (by rw [c1]; simp)).trans ?_
  refine (if_neg (by rw [c2]; simp)).trans ?_
  exact congrArg (fun z => pure (some z)) hn'
theorem dup2 {x y : Str} (h : x ≠ y) : ([x, y] : List Str).eraseDups.length = 2 := by
  have e : (y == x) = false := by simpa using Ne.symm h
  simp [List.eraseDups_cons, e]
theorem dup3 {x y z : Str} (h1 : x ≠ y) (h2 : x ≠ z) (h3 : y ≠ z) : ([x, y, z] : List Str).eraseDups.length = 3 := by
  have e1 : (y == x) = false := by simpa using Ne.symm h1
  have e2 : (z == x) = false := by simpa using Ne.symm h2
  have e3 : (z == y) = false := by simpa using Ne.symm h3
  simp [List.eraseDups_cons, e1, e2, e3]
theorem fm2 {f : Expr → Option Str} {a b : Expr} {x y : Str} (h1 : f a = some x) (h2 : f b = some y) : [a, b].filterMap f = [x, y] := by
  rw [List.filterMap_cons_some h1, List.filterMap_cons_some h2, List.filterMap_nil]
theorem fm3 {f : Expr → Option Str} {a b c : Expr} {x y z : Str} (h1 : f a = some x) (h2 : f b = some y) (h3 : f c = some z) : [a, b, c].filterMap f = [x, y, z] := by
  rw [List.filterMap_cons_some h1, List.filterMap_cons_some h2, List.filterMap_cons_some h3, List.filterMap_nil]
theorem nne {N : List Str} {i j : Nat} {x y : Str} (nd : N.Nodup) (hi : N[i]? = some x) (hj : N[j]? = some y) (h : i ≠ j) : x ≠ y := fun z => by
  subst z
  exact h ((List.getElem?_inj (List.getElem?_eq_some_iff.mp hi).1 nd).mp (hi.trans hj.symm))
theorem par_read {Dn : Ends} {W : WX} {ns : List Nat} {es : E} {σ : L2.St} {H : Hp} (q : rdS L W (run P orc (.par ns es)) Dn σ H) : rdA L W (evs P orc es) σ H fun vs H1 => ∃ (F : Fm) (φ1 : List Addr) (ρ : Env) (h1 : HH) (ds : List D), HR L F φ1 h1 H1 ∧ ER L F φ1 H1 ρ σ ∧ Rels L F φ1 H1 ds vs ∧ ds.length = ns.length ∧ GS L F φ1 H1 W (.nx (setAll ns ds ρ) h1) Dn := by
  obtain ⟨F, φ, ρ, hh, hr, er, g⟩ := q
  refine ⟨F, φ, ρ, hh, hr, er, ?_⟩
  refine GS.st (Rl := fun φ H d v => Rels L F φ H d v) (show GS L F φ H W ((evs P orc es ρ hh).st ρ fun ds h1 => match ds.length == ns.length with
    | true => .nx (setAll ns ds ρ) h1
    | false => .no) Dn from g) er fun a h1 φ1 H1 b _ tt hr1 rx g1 => ?_
  split at g1
  · rename_i e
    exact ⟨F, φ1, ρ, h1, a, hr1, er.mono tt, rx, beq_iff_eq.mp e, g1⟩
  · exact g1.elim
theorem st_par {ns : List Nat} {es : E} : StOk T L P orc k (.par ns es) := by
  intro X W c x hb h
  unfold ckS at h
  split at h
  · rename_i x' ts k1 p1 vs k2 p2 p e0
    cases e0
    obtain ⟨h1, h⟩ := and_ h
    obtain ⟨h2, h⟩ := and_ h
    obtain ⟨h3, h⟩ := and_ h
    obtain ⟨h4, h⟩ := and_ h
    obtain ⟨h5, h⟩ := and_ h
    obtain ⟨h6, h⟩ := and_ h
    obtain ⟨h7, h8⟩ := and_ h
    have h4 := of_decide_eq_true h4
    have h7 := of_decide_eq_true h7
    have h5 : vs.all (constantsAlone 8) = false := by simpa using h5
    have h6 : vs.all (foldedForSure 8) = false := by simpa using h6
    match ns, h1, h7, h8, h4 with
    | [i, j], h1, h7, h8, h4 =>
      obtain ⟨x1, q1, r1, rfl, n1, l1, e1, h1⟩ := ckPar_cons h1
      obtain ⟨x2, q2, r2, rfl, n2, l2, e2, h1⟩ := ckPar_cons h1
      cases ckPar_nil h1
      have ij : i ≠ j := fun z => by simp [z] at h7
      have hv : vs.length = 2 := h4
      obtain ⟨a, b, rfl⟩ : ∃ a b, vs = [a, b] := by
        match vs, hv with
        | [a, b], _ => exact ⟨a, b, rfl⟩
      refine (ps_par c.calm c.nd n1 n2 ij (locB_ l1) (locB_ l2) ((exprOk es).es X W c.toCX1 _ h2) (ssSome c.kind rfl h3 ?_ rfl (dup2 (nne c.nd n1 n2 ij)) h6 h5)).imp fun D σ H q => ?_
      · refine fm2 (if_pos ?_) (if_pos ?_)
        · show (X.env.kindOf x1 == some .local && q1.line == q1.line) = true
          rw [kindLoc l1]
          simp
        · show (X.env.kindOf x2 == some .local && q2.line == q1.line) = true
          rw [kindLoc l2, show (q2.line == q1.line) = true from e2]
          rfl
      · obtain ⟨F, φ, ρ, hh, hr, er, g⟩ := par_read q
        refine ⟨F, φ, ρ, hh, hr, er, G.imp g fun vs H1 ⟨F, φ1, ρ, h1, ds, hr1, er1, rs, hl, g1⟩ => ?_⟩
        match ds, hl, rs with
        | [d1, d2], _, .cons r1 (.cons r2 .nil) => exact ⟨_, _, rfl, g1 φ1 H1 _ (.refl _ _) hr1 ((er1.set r1).set r2)⟩
    | [i, j, l], h1, h7, h8, h4 =>
      obtain ⟨x1, q1, r1, rfl, n1, l1, e1, h1⟩ := ckPar_cons h1
      obtain ⟨x2, q2, r2, rfl, n2, l2, e2, h1⟩ := ckPar_cons h1
      obtain ⟨x3, q3, r3, rfl, n3, l3, e3, h1⟩ := ckPar_cons h1
      cases ckPar_nil h1
      have ij : i ≠ j := fun z => by simp [z] at h7
      have il : i ≠ l := fun z => by simp [z] at h7
      have jl : j ≠ l := fun z => by simp [z] at h7
      have hv : vs.length = 3 := h4
      obtain ⟨a, b, d, rfl⟩ : ∃ a b d, vs = [a, b, d] := by
        match vs, hv with
        | [a, b, d], _ => exact ⟨a, b, d, rfl⟩
      refine (ps_par3 c.calm c.nd n1 n2 n3 ij il jl (locB_ l1) (locB_ l2) (locB_ l3) ((exprOk es).es X W c.toCX1 _ h2) (ssSome c.kind rfl h3 ?_ rfl (dup3 (nne c.nd n1 n2 ij) (nne c.nd n1 n3 il) (nne c.nd n2 n3 jl)) h6 h5)).imp fun D σ H q => ?_
      · refine fm3 (if_pos ?_) (if_pos ?_) (if_pos ?_)
        · show (X.env.kindOf x1 == some .local && q1.line == q1.line) = true
          rw [kindLoc l1]
          simp
        · show (X.env.kindOf x2 == some .local && q2.line == q1.line) = true
          rw [kindLoc l2, show (q2.line == q1.line) = true from e2]
          rfl
        · show (X.env.kindOf x3 == some .local && q3.line == q1.line) = true
          rw [kindLoc l3, show (q3.line == q1.line) = true from e3]
          rfl
      · obtain ⟨F, φ, ρ, hh, hr, er, g⟩ := par_read q
        refine ⟨F, φ, ρ, hh, hr, er, G.imp g fun vs H1 ⟨F, φ1, ρ, h1, ds, hr1, er1, rs, hl, g1⟩ => ?_⟩
        match ds, hl, rs with
        | [d1, d2, d3], _, .cons r1 (.cons r2 (.cons r3 .nil)) => exact ⟨_, _, _, rfl, g1 φ1 H1 _ (.refl _ _) hr1 (((er1.set r1).set r2).set r3)⟩
    | [], _, _, h8, _ => cases h8
    | [_], _, _, h8, _ => cases h8
    | _ :: _ :: _ :: _ :: _, _, _, h8, _ => simp at h8
  · cases h
/-! ### name op= e -/
theorem ip_mul {X : Cx} : PIp X .Mult (fun x y H Q => ∃ i j, x = .int i ∧ y = .int j ∧ mulOk i j = true ∧ Q (.int (i * j)) H) := by
  intro pins s σ H x y v u Q I r1 r2 h
  obtain ⟨i, j, e1, e2, hm, q⟩ := h
  subst e1; subst e2
  obtain ⟨t, rfl⟩ := r1
  obtain ⟨t', rfl⟩ := r2
  exact PySem.AutoIntOps.imul_0 (show (Made.int (i * j)).post _ s from ⟨V.int _, H, I.tok _, ⟨_, rfl⟩, q⟩) (mulOk_ok hm)
def binI (op : Operator) (a b : Int) : Option Int := match op with
  | .Add => some (a + b)
  | .Sub => some (a - b)
  | .Mult => if mulOk a b then some (a * b) else none
  | .FloorDiv => if divOk b then some (a.fdiv b) else none
  | .Mod => if b != 0 then some (a.fmod b) else none
  | .Pow => if powOk a b then some (a ^ b.toNat) else none
  | _ => none
theorem binI_eq (op : Operator) (m : Bool) (a b : Int) (h : HH) : binD op m (.int a) (.int b) h = R.of ((binI op a b).map D.int) h := by
  cases op <;> first | rfl | skip
  · simp only [binD, mulD, binI]
    cases mulOk a b <;> rfl
  · simp only [binD, modD, binI]
    cases (b != 0) <;> rfl
  · simp only [binD, powD, binI]
    cases powOk a b <;> rfl
  · simp only [binD, divD, binI]
    cases divOk b <;> rfl
theorem bin_same {op : Operator} {a b m m' : Int} {h1 h2 : HH} (e : binD op false (.int a) (.int b) h1 = .ok (.int m) h1) (e' : binD op false (.int a) (.int b) h2 = .ok (.int m') h2) : m = m' := by
  rw [binI_eq] at e e'
  cases h : binI op a b with
  | none =>
    rw [h] at e
    cases e
  | some z =>
    rw [h] at e e'
    cases e
    cases e'
    rfl
theorem aug_read {D : Ends} {W : WX} {i : Nat} {op : Operator} {e : E} {σ : L2.St} {H : Hp} {ti : TIp} (q : rdS L W (run P orc (.aug i op e)) D σ H)
    (ht : ∀ (a b : Int) (H1 : Hp) (Q : VK), (∀ (h1 : HH) (m : Int), binD op false (.int a) (.int b) h1 = .ok (.int m) h1 → True) → (∀ h1, ∃ m, binD op false (.int a) (.int b) h1 = .ok (.int m) h1) → (∀ h1 m, binD op false (.int a) (.int b) h1 = .ok (.int m) h1 → Q (.int m) H1) → ti (.int a) (.int b) H1 Q) 
    (hu : ∀ (a b : Int) (h1 : HH), binD op false (.int a) (.int b) h1 ≠ .no → ∀ h2, ∃ m, binD op false (.int a) (.int b) h2 = .ok (.int m) h2) : tAug i (rdE L W (ev P orc e)) ti D σ H := by
  obtain ⟨F, φ, ρ, hh, hr, er, g⟩ := q
  have g : GS L F φ H W (match ρ[i]? with
    | some (some x) => (ev P orc e ρ hh).st ρ fun y h1 => (match x, y with
      | .int _, .int _ => (binD op false x y h1).st ρ fun z h2 => .nx (ρ.set i (some z)) h2
      | _, _ => .no)
    | _ => .no) D := g
  split at g
  · rename_i x e1
    obtain ⟨v, e2, rv⟩ := er.at_ i x e1
    refine ⟨v, e2, F, φ, ρ, hh, hr, er, ?_⟩
    refine GS.st (Rl := fun φ H d v => Rel L F φ H d v) g er fun a h1 φ1 H1 b _ tt hr1 rx g1 => ?_
    split at g1
    · rename_i n1 n2 _
      cases rv
      cases rx
      have hn : binD op false (.int n1) (.int n2) h1 ≠ .no := fun z => by
        rw [z] at g1
        exact g1.elim
      refine ht _ _ _ _ (fun _ _ _ => trivial) (hu _ _ _ hn) fun h2 m em => ?_
      obtain ⟨m', em'⟩ := hu _ _ _ hn h1
      have hm : m = m' := bin_same em em'
      subst hm
      rw [em'] at g1
      exact g1 φ1 H1 _ (.refl _ _) hr1 ((er.mono tt).set (.int m))
    · exact g1.elim
  · exact g.elim
theorem st_aug {i : Nat} {op : Operator} {e : E} : StOk T L P orc k (.aug i op e) := by
  intro X W c x hb h
  unfold ckS at h
  split at h
  · rename_i x' n q o y p e0
    cases e0
    obtain ⟨h1, h⟩ := and_ h
    obtain ⟨h2, h⟩ := and_ h
    obtain ⟨h3, h⟩ := and_ h
    obtain ⟨h4, h5⟩ := and_ h
    have h4 := of_decide_eq_true h4
    subst h4
    have fnx : X.fn n = true ∨ X.env.scope.names.lookup n = some .local := .inl (by rw [c.fn])
    have hy := (exprOk e).ev X W c.toCX1 _ h5
    have h1 := of_decide_eq_true h1
    cases o <;> first | (cases h3; done) | skip
    · refine (ps_aug c.nd h1 (stoB_ h2) hy ip_add fnx).imp fun D σ H q => aug_read q (fun a b H1 Q _ _ hq => ⟨a, b, rfl, rfl, hq [] _ rfl⟩) fun a b h1 _ h2 => ⟨_, rfl⟩
    · refine (ps_aug c.nd h1 (stoB_ h2) hy ip_sub fnx).imp fun D σ H q => aug_read q (fun a b H1 Q _ _ hq => ⟨a, b, rfl, rfl, hq [] _ rfl⟩) fun a b h1 _ h2 => ⟨_, rfl⟩
    · have key : ∀ (a b : Int) (h1 : HH), binD .Mult false (.int a) (.int b) h1 = (match mulOk a b with
        | true => R.ok (.int (a * b)) h1
        | false => .no) := fun _ _ _ => rfl
      refine (ps_aug c.nd h1 (stoB_ h2) hy ip_mul fnx).imp fun D σ H q => aug_read q (fun a b H1 Q _ he hq => ?_) fun a b h1 hn h2 => ?_
      · obtain ⟨m, em⟩ := he []
        rw [key] at em
        cases hm : mulOk a b with
        | false =>
          rw [hm] at em
          cases em
        | true => exact ⟨a, b, rfl, rfl, hm, hq [] _ (by rw [key, hm])⟩
      · rw [key] at hn ⊢
        cases hm : mulOk a b with
        | false =>
          rw [hm] at hn
          exact absurd rfl hn
        | true => exact ⟨_, rfl⟩
  · cases h
/-! ### loops -/
def loopAt (f : D → Env → HH → RS) (I : Itr) (m i : Nat) (ρ : Env) (h : HH) : RS := match I with
  | .items l => (match m == l.length - i with
    | true => loopL f (l.drop i) ρ h
    | false => .no)
  | .live n => loopLive f n m i ρ h
theorem loop_step {f : D → Env → HH → RS} {I : Itr} {m i : Nat} {ρ : Env} {h : HH} {r : RS} (e : loopAt f I m i ρ h = r) (hn : r ≠ .no) :
    (itGet I i h = some none ∧ r = .nx ρ h) ∨ ∃ m' x, m = m' + 1 ∧ itGet I i h = some (some x) ∧ r = (match f x ρ h with
      | .nx ρ1 h1 => loopAt f I m' (i + 1) ρ1 h1
      | .ct ρ1 h1 => loopAt f I m' (i + 1) ρ1 h1
      | .bk ρ1 h1 => .nx ρ1 h1
      | z => z) := by
  cases I with
  | items l =>
    unfold loopAt at e
    dsimp only at e
    split at e
    · rename_i em
      have em := beq_iff_eq.mp em
      cases hd : l.drop i with
      | nil =>
        rw [hd] at e
        refine .inl ⟨?_, e.symm⟩
        show some l[i]? = some none
        rw [List.getElem?_eq_none (List.drop_eq_nil_iff.mp hd)]
      | cons x rest =>
        rw [hd] at e
        have hi : i < l.length := Nat.lt_of_not_le fun z => by
          rw [List.drop_eq_nil_iff.mpr z] at hd
          cases hd
        have hx : l[i]? = some x := by
          have : (l.drop i)[0]? = some x := by rw [hd] <;> rfl
          rw [List.getElem?_drop, Nat.add_zero] at this
          exact this
        have hr : l.drop (i + 1) = rest := by
          rw [← List.drop_drop, hd] <;> rfl
        have hb : (l.length - (i + 1) == l.length - (i + 1)) = true := beq_self_eq_true _
        refine .inr ⟨l.length - (i + 1), x, by omega, congrArg some hx, ?_⟩
        rw [← e]
        have la : ∀ ρ1 h1, loopAt f (.items l) (l.length - (i + 1)) (i + 1) ρ1 h1 = loopL f rest ρ1 h1 := fun ρ1 h1 => by
          unfold loopAt
          dsimp only
          rw [hb, hr]
        show (match f x ρ h with
          | .nx ρ1 h1 => loopL f rest ρ1 h1
          | .ct ρ1 h1 => loopL f rest ρ1 h1
          | .bk ρ1 h1 => .nx ρ1 h1
          | z => z) = _
        cases f x ρ h <;> first | rfl | (dsimp only; rw [la])
    · exact absurd e.symm hn
  | live n =>
    have e : loopLive f n m i ρ h = r := e
    cases m with
    | zero => exact absurd e.symm hn
    | succ m =>
      unfold loopLive at e
      split at e
      · rename_i l el
        split at e
        · rename_i x ex
          refine .inr ⟨m, x, rfl, ?_, e.symm⟩
          unfold itGet
          dsimp only
          rw [el, ← ex]
        · rename_i ex
          refine .inl ⟨?_, e.symm⟩
          unfold itGet
          dsimp only
          rw [el, ← ex]
      · exact absurd e.symm hn
theorem loopI_at (f : D → Env → HH → RS) (I : Itr) (ρ : Env) (h : HH) : ∃ m, loopI f I ρ h = loopAt f I m 0 ρ h := by
  cases I with
  | items l =>
    refine ⟨l.length, ?_⟩
    unfold loopAt
    dsimp only
    rw [show (l.length == l.length - 0) = true by simp]
    rfl
  | live n => exact ⟨fuel, rfl⟩
theorem gs_ne {F : Fm} {φ : List Addr} {H : Hp} {W : WX} {r : RS} {D : Ends} (g : GS L F φ H W r D) : r ≠ .no := fun z => by
  rw [z] at g
  exact g
theorem st_loop {t it : E} {b : S} (hb : SsOk T L P orc k b) : StOk T L P orc k (.loop t it b) := by
  intro X W c x hbs h
  unfold ckS at h
  split at h
  · rename_i x' tg y body p e0
    cases e0
    obtain ⟨h1, h⟩ := and_ h
    obtain ⟨h2, h⟩ := and_ h
    obtain ⟨h3, h4⟩ := and_ h
    have hg : PG X tg (rdG L (tgSlots t) (asg P orc t)) := (exprOk t).tg X W c.toCX1 tg (by rw [c.fn]; exact h2)
    refine (ps_for c.own c.calm ((exprOk it).it X W c.toCX1 tg y h3) hg (hb X W c body h4) (sdIt _ _ h1)).imp fun D σ H ⟨F, φ, ρ, hh, hr, er, g⟩ => ?_
    refine ⟨F, φ, ρ, hh, hr, er, ?_⟩
    refine GS.st (Rl := fun φ H I J => ItOk L F φ H J I) (show GS L F φ H W ((itm P orc it ρ hh).st ρ fun I h1 => loopI (fun x ρ1 h2 => (asg P orc t x ρ1 h2).pur.st ρ1 fun ρ2 h3 => run P orc b ρ2 h3) I ρ h1) D from g) er fun I h1 φ1 H1 J _ tt hr1 io g1 => ?_
    generalize hf : (fun x ρ1 h2 => (asg P orc t x ρ1 h2).pur.st ρ1 fun ρ2 h3 => run P orc b ρ2 h3) = f at g1
    obtain ⟨m0, e0⟩ := loopI_at f I ρ h1
    rw [e0] at g1
    refine ⟨fun i m σ' H' => ∃ (φ' : List Addr) (ρ' : Env) (h' : HH), XT φ1 H1 φ' H' ∧ HR L F φ' h' H' ∧ ER L F φ' H' ρ' σ' ∧ GS L F φ' H' W (loopAt f I m i ρ' h') D, ⟨m0, φ1, ρ, h1, .refl _ _, hr1, er.mono tt, g1⟩, ?_⟩
    rintro i m σ' H' ⟨φ', ρ', h', t', hr', er', g'⟩
    obtain ⟨io1, io2⟩ := io F (fun _ _ _ z => z) (fun _ z => z) i φ' H' h' t' hr'
    rcases loop_step rfl (gs_ne g') with ⟨e1, e2⟩ | ⟨m', x, rfl, e1, e2⟩
    · rw [e2] at g'
      exact .inl ⟨io2 e1, g' φ' H' σ' (.refl _ _) hr' er'⟩
    · rw [e2] at g'
      obtain ⟨go, yl⟩ := io1 x e1
      refine .inr ⟨go, fun σ2 H2 => ∃ m2, m2 < m' + 1 ∧ ∃ (φ' : List Addr) (ρ' : Env) (h' : HH), XT φ1 H1 φ' H2 ∧ HR L F φ' h' H2 ∧ ER L F φ' H2 ρ' σ2 ∧ GS L F φ' H2 W (loopAt f I m2 (i + 1) ρ' h') D, fun _ _ q => q, fun v H2 y => ?_⟩
      obtain ⟨ty, hry, rx⟩ := yl v H2 y
      refine ⟨F, φ', ρ', h', x, hry, er'.mono ty, rx, ?_⟩
      rw [← hf] at g'
      dsimp only at g'
      cases ea : asg P orc t x ρ' h' with
      | exc _ _ _ _ =>
        rw [ea] at g'
        exact (show False from g').elim
      | no =>
        rw [ea] at g'
        exact (show False from g').elim
      | ok ρ2 h3 =>
        rw [ea] at g'
        rw [hf] at g'
        intro φ3 H3 σ3 t3 hr3 er3 _
        refine ⟨F, φ3, ρ2, h3, hr3, er3, ?_⟩
        have g' : GS L F φ' H' W (match run P orc b ρ2 h3 with
          | .nx ρ1 h1 => loopAt f I m' (i + 1) ρ1 h1
          | .ct ρ1 h1 => loopAt f I m' (i + 1) ρ1 h1
          | .bk ρ1 h1 => .nx ρ1 h1
          | z => z) D := g'
        have t13 := (t'.trans ty).trans t3
        have g3 := GS.mono (ty.trans t3) g'
        cases er : run P orc b ρ2 h3 with
        | nx ρ4 h4 =>
          rw [er] at g3
          exact fun φ5 H5 σ5 t5 hr5 er5 => ⟨m', Nat.lt_succ_self _, φ5, ρ4, h4, t13.trans t5, hr5, er5, GS.mono t5 g3⟩
        | ct ρ4 h4 =>
          rw [er] at g3
          exact fun φ5 H5 σ5 t5 hr5 er5 => ⟨m', Nat.lt_succ_self _, φ5, ρ4, h4, t13.trans t5, hr5, er5, GS.mono t5 g3⟩
        | bk ρ4 h4 =>
          rw [er] at g3
          exact g3
        | rt d h4 =>
          rw [er] at g3
          exact g3
        | exc _ _ _ _ _ =>
          rw [er] at g3
          exact g3
        | no =>
          rw [er] at g3
          exact g3
  · cases h
theorem st_whil {e : E} {b : S} (hb : SsOk T L P orc k b) : StOk T L P orc k (.whil e b) := by
  intro X W c x hbs h
  unfold ckS at h
  split at h
  · rename_i x' y body p e0
    cases e0
    obtain ⟨h1, h2⟩ := and_ h
    refine (ps_while c.own ((exprOk e).ts X W c.toCX1 _ h1) (hb X W c body h2)).imp fun D σ H ⟨F, φ, ρ, hh, hr, er, g⟩ => ?_
    refine ⟨fun m σ' H' => ∃ (φ' : List Addr) (ρ' : Env) (h' : HH), XT φ H φ' H' ∧ HR L F φ' h' H' ∧ ER L F φ' H' ρ' σ' ∧ GS L F φ' H' W (whileL (tst P orc e) (run P orc b) m ρ' h') D, ⟨fuel, φ, ρ, hh, .refl _ _, hr, er, g⟩, ?_⟩
    rintro m σ' H' ⟨φ', ρ', h', t', hr', er', g'⟩
    cases m with
    | zero => exact g'.elim
    | succ m =>
      refine ⟨F, φ', ρ', h', hr', er', ?_⟩
      refine GS.st (Rl := fun _ _ a b => a = b) (show GS L F φ' H' W ((tst P orc e ρ' h').st ρ' fun b1 h1 => match b1 with
        | true => (match run P orc b ρ' h1 with
          | .nx ρ1 h1 => whileL (tst P orc e) (run P orc b) m ρ1 h1
          | .ct ρ1 h1 => whileL (tst P orc e) (run P orc b) m ρ1 h1
          | .bk ρ1 h1 => .nx ρ1 h1
          | z => z)
        | false => .nx ρ' h1) D from g') er' fun a h1 φ1 H1 b1 _ tt hr1 rx g1 => ?_
      subst rx
      cases a with
      | false =>
        rw [if_neg Bool.false_ne_true]
        exact g1 φ1 H1 _ (.refl _ _) hr1 (er'.mono tt)
      | true =>
        rw [if_pos rfl]
        refine ⟨fun σ2 H2 => ∃ m2, m2 < m + 1 ∧ ∃ (φ' : List Addr) (ρ' : Env) (h' : HH), XT φ H φ' H2 ∧ HR L F φ' h' H2 ∧ ER L F φ' H2 ρ' σ2 ∧ GS L F φ' H2 W (whileL (tst P orc e) (run P orc b) m2 ρ' h') D, fun _ _ q => q, F, φ1, ρ', h1, hr1, er'.mono tt, ?_⟩
        have t13 := t'.trans tt
        dsimp only at g1
        cases er : run P orc b ρ' h1 with
        | nx ρ4 h4 =>
          rw [er] at g1
          exact fun φ5 H5 σ5 t5 hr5 er5 => ⟨m, Nat.lt_succ_self _, φ5, ρ4, h4, t13.trans t5, hr5, er5, GS.mono t5 g1⟩
        | ct ρ4 h4 =>
          rw [er] at g1
          exact fun φ5 H5 σ5 t5 hr5 er5 => ⟨m, Nat.lt_succ_self _, φ5, ρ4, h4, t13.trans t5, hr5, er5, GS.mono t5 g1⟩
        | bk ρ4 h4 =>
          rw [er] at g1
          exact g1
        | rt d h4 =>
          rw [er] at g1
          exact g1
        | exc _ _ _ _ _ =>
          rw [er] at g1
          exact g1
        | no =>
          rw [er] at g1
          exact g1
  · cases h
/-! ### all -/
theorem stmtOk : ∀ s : S, StOk T L P orc k s ∧ SsOk T L P orc k s
  | .skip => ⟨fun X W c x hb => (nomatch hb), ss_skip⟩
  | .seq s t => ⟨fun X W c x hb => (nomatch hb), ss_seq (stmtOk s).1 (stmtOk t).2⟩
  | .ex e => ⟨st_ex, ss_one rfl st_ex⟩
  | .asg t e => ⟨st_asg, ss_one rfl st_asg⟩
  | .par ns es => ⟨st_par, ss_one rfl st_par⟩
  | .aug i op e => ⟨st_aug, ss_one rfl st_aug⟩
  | .ite c s t => ⟨st_ite (stmtOk s).2 (stmtOk t).2, ss_one rfl (st_ite (stmtOk s).2 (stmtOk t).2)⟩
  | .loop t it b => ⟨st_loop (stmtOk b).2, ss_one rfl (st_loop (stmtOk b).2)⟩
  | .whil c b => ⟨st_whil (stmtOk b).2, ss_one rfl (st_whil (stmtOk b).2)⟩
  | .ret e => ⟨st_ret, ss_one rfl st_ret⟩
  | .retN => ⟨st_retN, ss_one rfl st_retN⟩
  | .brk => ⟨st_brk, ss_one rfl st_brk⟩
  | .cnt => ⟨st_cnt, ss_one rfl st_cnt⟩
  | .pass => ⟨st_pass, ss_one rfl st_pass⟩
  | .rais n es => ⟨st_rais, ss_one rfl st_rais⟩
end
end MV

set_option maxRecDepth 100000
set_option maxHeartbeats 1000000
/-! VO: defs keep the promise of their run; all levels. -/
namespace MV
open PySem PySem.Spec PyProof.Rows L2
/-! ### a def -/
theorem fn_sound {T : Tb} {L : Lk} {P : Prog} {orc : Orc} {k : Nat} {pg : Program} {w : World} {K : PySem.W.Frag} {mg : Str → Option Value} {base : Heap} {x qual : Str} {params : Arguments} {bd : List Stmt} {scope : Scope} {dvs : List V} {kws : List (Str × V)} {a : Addr} {fd : FuncData} {N ps : List Str} {f : Fn}
    (fa : Facts T L P orc k pg w K mg base) (D : FunD K x qual params bd scope dvs kws a fd) (S : FnScope N ps scope) (hp : f.np = ps.length) (hl : f.nl = N.length) (hc : ckS T N f.body scope bd = true) :
    FnOk pg w K mg base (L2.CX pg w) (k + 1) a fd ps (spB L P orc f) := by
  refine D.ok S (fun vs H Q E h => (spB_len h).trans hp) fun cdv A outer s H vs Q E hr hsp => ?_
  have c : CX2 T L P orc k (cxOf (L2.CX pg w) pg w K mg base N qual scope a cdv A outer s H E) (fun cls d _ H => E cls d H) :=
    { fa := fa, calm := rfl, nd := S.nd, room := hr, tk := takes_of rfl rfl rfl rfl, fn := rfl, kind := S.kind, own := passes_of rfl }
  refine ⟨_, (stmtOk f.body).2 _ _ c bd hc, ?_⟩
  have hln := (spB_len hsp).trans hp
  obtain ⟨F, φ, h, ds, x, r, g⟩ := hsp
  unfold body at g
  split at g
  · rename_i hd
    have hd := beq_iff_eq.mp hd
    refine ⟨F, φ, startE f.nl ds, h, x, ?_, ?_⟩
    · refine ⟨?_, fun i d q => ?_⟩
      · have := S.nd
        have hle : ps.length ≤ N.length := by
          have := congrArg List.length S.pre
          rw [List.length_take] at this
          omega
        have e1 : (L2.start N vs).length = N.length := by
          unfold L2.start
          rw [List.length_append, List.length_map, List.length_replicate]
          omega
        rw [e1]
        unfold startE
        rw [List.length_append, List.length_map, List.length_replicate]
        omega
      · unfold startE at q
        have hi : i < ds.length := Nat.lt_of_not_le fun z => by
          rw [List.getElem?_append_right (by simpa using z), List.getElem?_replicate] at q
          split at q <;> cases q
        rw [List.getElem?_append_left (by simpa using hi), List.getElem?_map] at q
        cases e : ds[i]? with
        | none =>
          rw [e] at q
          cases q
        | some d' =>
          rw [e] at q
          cases q
          obtain ⟨v, e1, rv⟩ := r.get e
          refine ⟨v, ?_, rv⟩
          unfold L2.start
          rw [List.getElem?_append_left (by rw [List.length_map]; exact (List.getElem?_eq_some_iff.mp e1).1), List.getElem?_map, e1]
          rfl
    · cases er : run P orc f.body (startE f.nl ds) h with
      | nx ρ h1 =>
        rw [er] at g
        exact fun φ' H' σ' t hr _ => g φ' H' .non t hr .non
      | rt d h1 =>
        rw [er] at g
        exact g
      | exc c ks vs _ h1 =>
        rw [er] at g
        exact fun φ' H' σ' cls dd t hr _ xr => g φ' H' cls dd t hr xr
      | bk ρ h1 =>
        rw [er] at g
        exact g.elim
      | ct ρ h1 =>
        rw [er] at g
        exact g.elim
      | no =>
        rw [er] at g
        exact g.elim
  · exact (G.no_ g).elim
/-! ### the text's links -/
/-- the def at fa is the i-th of P -/
def FnFact (T : Tb) (P : Prog) (K : PySem.W.Frag) (i : Nat) (fa : Addr) (fd : FuncData) (ps : List Str) : Prop :=
  ∃ (x qual : Str) (params : Arguments) (bd : List Stmt) (scope : Scope) (dvs : List V) (kws : List (Str × V)) (N : List Str) (f : Fn),
    P.fns[i]? = some f ∧ FunD K x qual params bd scope dvs kws fa fd ∧ FnScope N ps scope ∧ f.np = ps.length ∧ f.nl = N.length ∧ ckS T N f.body scope bd = true
/-- what is called at a, in the shape j -/
def CallF (T : Tb) (L : Lk) (P : Prog) (K : PySem.W.Frag) (a : Addr) (n : Nat) (ks : List Str) (j : Nat) : Prop :=
  ∃ (s : Shape) (f : Fn) (fa : Addr) (fd : FuncData) (ps : List Str) (g : List Value → List Value → List Value) (gV : List V → List V → List V),
    P.sh[j]? = some s ∧ P.fns[s.fn]? = some f ∧ FnFact T P K s.fn fa fd ps ∧
      ((∃ b, f.kind = .fn b ∧ a = fa ∧ KBn K fd ps n ks g gV ∧ FillOk L s n ks gV) ∨
        ∃ (c : Nat) (b : Bool) (gW : List V → List V → List V), f.kind = .ctor c b ∧ L.cl c = a ∧ Mk K a fa ∧ KBn K fd ps (n + 1) ks g gV ∧ (∀ p vs zs, gV (.ref p :: vs) zs = .ref p :: gW vs zs) ∧ FillOk L s n ks gW)
def PropF (T : Tb) (L : Lk) (P : Prog) (K : PySem.W.Frag) (c : Nat) (m : Str) (j : Nat) : Prop :=
  ∃ (s : Shape) (f : Fn) (p fa : Addr) (fd : FuncData) (ps : List Str) (b : Bool), P.sh[j]? = some s ∧ P.fns[s.fn]? = some f ∧ f.kind = .fn b ∧ FnFact T P K s.fn fa fd ps ∧ Cls K (L.cl c) ∧ PropOf K (L.cl c) m p fa ∧ Binds K fd ps [] ∧ s.n = 1 ∧ s.sel = [.a 0]
structure Links (T : Tb) (L : Lk) (P : Prog) (K : PySem.W.Frag) (mg : Str → Option Value) : Prop where
  call : ∀ (j : Nat) (g : Str) (n : Nat) (ks : List Str), T.sn[j]? = some (.glob, g, n, ks) → ∃ a, mg g = some (.ref a) ∧ PySem.W.keepIn K (.ref a) = true ∧ CallF T L P K a n ks j
  meth : ∀ (j c : Nat) (m : Str) (n : Nat) (ks : List Str), T.sn[j]? = some (.meth c, m, n, ks) → Cls K (L.cl c) ∧ ∃ a, Meth K (L.cl c) m a ∧ CallF T L P K a n ks j
  prop : ∀ (j c : Nat) (m : Str), T.sn[j]? = some (.prop c, m, 1, []) → PropF T L P K c m j
structure Stat (T : Tb) (L : Lk) (P : Prog) (pg : Program) (w : World) (K : PySem.W.Frag) (mg : Str → Option Value) (base : Heap) : Prop where
  hK : K = L.K
  gl : ∀ (i : Nat) (x : Str) (d : D), T.gn[i]? = some x → P.gl[i]? = some d → ∃ v u, mg x = some u ∧ RelV v u ∧ ∀ F φ H, Rel L F φ H d v
  bf : ∀ x ∈ bNames, mg x = none
  wd : ∀ X : Cx, X.K = K → WdOk X L P.wd
  inj : ∀ i j, L.nm i = L.nm j → i = j
  nm : ∀ (i : Nat) (x : Str), T.nm[i]? = some x → L.nm i = x
  fld : ∀ c i, P.fld.contains (c, i) = true → Cls K (L.cl c) ∧ NoAttr K (L.cl c) (L.nm i)
  ncl : ∀ (c : Nat) (x : Str), T.cn[c]? = some x → mg x = some (.ref (L.cl c))
  isc : ∀ c, c < P.nc → IsiC K (L.cl c)
  kit : ∀ (t : TyV) (u : Ty), (∀ c, t = .own c → c < P.nc) → (∀ c, u = .cls c → ∃ x, T.cn[c]? = some x) → PySem.W.kitOne K (tvV L t) (tyV' L u) = some (tyIs t u)
section
variable {T : Tb} {L : Lk} {P : Prog} {pg : Program} {w : World} {K : PySem.W.Frag} {mg : Str → Option Value} {base : Heap}
theorem fnFact_ok {orc : Orc} {k i : Nat} {a : Addr} {fd : FuncData} {ps : List Str} {f : Fn} (fa : Facts T L P orc k pg w K mg base) (h : FnFact T P K i a fd ps) (e : P.fns[i]? = some f) : FnOk pg w K mg base (L2.CX pg w) (k + 1) a fd ps (spB L P orc f) := by
  obtain ⟨x, qual, params, bd, scope, dvs, kws, N, f', h1, h2, h3, h4, h5, h6⟩ := h
  rw [e] at h1
  cases h1
  exact fn_sound fa h2 h3 h4 h5 h6
theorem callJ_no {ad : Bool} {j : Nat} {ds : List D} {h : HH} : callJ P (callN P 0) ad j ds h = .no := by
  unfold callJ
  split
  · split <;> rfl
  · rfl
theorem callV_call {k m n j : Nat} {ks : List Str} {a : Addr} {X : Cx} {W : WX} (sm : Same pg w K mg base (k + 2) X) (tk : Takes X W) (fa : Facts T L P (callN P m) k pg w K mg base) (h : CallF T L P K a n ks j) : CallV L P (callN P (m + 1)) X W a n ks j := by
  obtain ⟨s, f, fa', fd, ps, g, gV, h1, h2, h3, h4⟩ := h
  have Fk := fnFact_ok fa h3 h2
  rw [← sm.p, ← sm.w, ← sm.K, ← sm.m, ← sm.b] at Fk
  rcases h4 with ⟨b, e1, e2, e3, e4⟩ | ⟨c, b, gW, e1, e2, e3, e4, e5, e6⟩
  · subst e2
    rw [← sm.K] at e3
    exact callV_fn h1 h2 e1 Fk (sm.r.mono (by omega)) tk e3 e4
  · rw [← sm.K] at e3 e4
    exact callV_mk h1 h2 e2 e1 e3 Fk sm.r tk e4 e5 e6
theorem facts_all (st : Stat T L P pg w K mg base) (lk : Links T L P K mg) : ∀ m : Nat, Facts T L P (callN P m) (2 * m) pg w K mg base
  | 0 => { hK := st.hK, gl := st.gl, bf := st.bf, wd := fun X s => st.wd X s.K, inj := st.inj, nm := st.nm, fld := st.fld, ncl := st.ncl, isc := st.isc, kit := st.kit
           call := fun X W _ _ j g n ks e => by
             obtain ⟨a, h1, h2, _⟩ := lk.call j g n ks e
             refine ⟨a, h1, h2, fun ad pins s σ H vs zs us ws Q F φ h ds _ _ _ _ _ _ _ q => ?_⟩
             rw [callJ_no] at q
             exact (G.no_ q).elim
           meth := fun X W _ _ j c m n ks e => by
             obtain ⟨h0, a, h1, _⟩ := lk.meth j c m n ks e
             refine ⟨h0, a, h1, fun ad pins s σ H vs zs us ws Q F φ h ds _ _ _ _ _ _ _ q => ?_⟩
             rw [callJ_no] at q
             exact (G.no_ q).elim
           prop := fun X _ j c m e pins s σ H a dx fs Q F φ h d E _ _ _ _ q => by
             rw [callJ_no] at q
             exact (G.no_ q).elim }
  | m + 1 => by
    have ih := facts_all st lk m
    exact
    { hK := st.hK, gl := st.gl, bf := st.bf, wd := fun X s => st.wd X s.K, inj := st.inj, nm := st.nm, fld := st.fld, ncl := st.ncl, isc := st.isc, kit := st.kit
      call := fun X W sm tk j g n ks e => by
        obtain ⟨a, h1, h2, h3⟩ := lk.call j g n ks e
        exact ⟨a, h1, h2, callV_call sm tk ih h3⟩
      meth := fun X W sm tk j c mm n ks e => by
        obtain ⟨h0, a, h1, h3⟩ := lk.meth j c mm n ks e
        exact ⟨h0, a, h1, callV_call sm tk ih h3⟩
      prop := fun X sm j c mm e pins s σ H a dx fs Q F φ h d E I ea hr rd q => by
        obtain ⟨s', f, p, fa', fd, ps, b, h1, h2, h3, h4, h5, h6, h7, h8, h9⟩ := lk.prop j c mm e
        have Fk := fnFact_ok ih h4 h2
        rw [← sm.p, ← sm.w, ← sm.K, ← sm.m, ← sm.b] at Fk
        have hlen : s'.fill [d] = some [d] := by
          unfold Shape.fill
          rw [h8, h9]
          rfl
        have cj : ∀ orc : Orc, callJ P orc false j [d] h = (orc s'.fn [d] h).bind fun r h1 => retD false r h1 := fun orc => by
          unfold callJ
          rw [h1]
          dsimp only
          rw [hlen]
        have q' : GE L F φ H (callJ P (callN P (m + 1)) false j [d] h) Q (fun _ _ _ => False) := by
          cases ec : callJ P (callN P (m + 1)) false j [d] h with
          | ok x h1 =>
            rw [ec] at q
            exact q
          | exc _ _ _ _ =>
            rw [ec] at q
            exact (G.no_ q).elim
          | no =>
            rw [ec] at q
            exact (G.no_ q).elim
        rw [cj, orc_succ h2, h3] at q'
        have sp : spB L P (callN P m) f (V.ref a :: []) H Q (fun _ _ _ => False) := by
          cases b with
          | true => exact pureGE hr (.cons rd .nil) q'
          | false => exact bodyGE hr (.cons rd .nil) q'
        rw [← sm.K] at h5 h6 h7
        exact getprop_ok I ea h5 h6 Fk (sm.r.mono (by omega)) h7 .nil passL sp }
end
end MV

set_option maxRecDepth 100000
set_option maxHeartbeats 1000000
/-! VP: what stands in the modules, by one Bool. -/
namespace MV
open PySem PySem.Spec PyProof.Rows L2
/-! ### the text's tables -/
structure Tx extends Tb where
  /-- the names of the written dicts -/
  wn : List Str
def far (i : Nat) : Str := ⟨(List.replicate (1000 + i) 35).toArray⟩
def nmOf (l : List Str) (i : Nat) : Str := l.getD i (far i)
def shortB (l : List Str) : Bool := decide l.Nodup && l.all fun x => Nat.blt x.cps.size 1000
theorem far_size (i : Nat) : (far i).cps.size = 1000 + i := by
  unfold far
  simp
theorem nmOf_inj {l : List Str} (h : shortB l = true) (i j : Nat) (e : nmOf l i = nmOf l j) : i = j := by
  obtain ⟨h1, h2⟩ := and_ h
  have h1 : l.Nodup := of_decide_eq_true h1
  have sz : ∀ i, i < l.length → (nmOf l i).cps.size < 1000 := fun i hi => by
    unfold nmOf
    rw [List.getD_eq_getElem?_getD, List.getElem?_eq_getElem hi]
    exact Nat.le_of_ble_eq_true (List.all_eq_true.mp h2 _ (List.getElem_mem hi))
  have sf : ∀ i, ¬ i < l.length → (nmOf l i).cps.size = 1000 + i := fun i hi => by
    unfold nmOf
    rw [List.getD_eq_getElem?_getD, List.getElem?_eq_none (Nat.le_of_not_lt hi)]
    exact far_size i
  by_cases hi : i < l.length
  · by_cases hj : j < l.length
    · unfold nmOf at e
      rw [List.getD_eq_getElem?_getD, List.getElem?_eq_getElem hi, List.getD_eq_getElem?_getD, List.getElem?_eq_getElem hj] at e
      exact (List.getElem_inj h1).mp e
    · have a := sz i hi
      rw [e, sf j hj] at a
      omega
  · by_cases hj : j < l.length
    · have a := sz j hj
      rw [← e, sf i hi] at a
      omega
    · have a := sf i hi
      rw [e, sf j hj] at a
      omega
def lkOf (T : Tx) (K : PySem.W.Frag) : Lk := { K := K, nm := nmOf T.nm, cl := fun c => He.ga K (T.cn.getD c ""), wa := fun k => He.ga K (T.wn.getD k ""), xc := fun c => He.ga K (T.cn.getD c "") }
/-! ### written data -/
mutual
def relK (L : Lk) : D → Value → Bool
  | .non, u => (match u with
    | .none => true
    | _ => false)
  | .bl b, u => (match u with
    | .bool c => b == c
    | _ => false)
  | .int i, u => (match u with
    | .int j _ => decide (i = j)
    | _ => false)
  | .str x, u => (match u with
    | .str y _ => decide (x = y)
    | _ => false)
  | .cls c, u => (match u with
    | .ref a => decide (L.cl c = a)
    | _ => false)
  | .wd c, u => (match u with
    | .ref a => decide (L.wa c = a)
    | _ => false)
  | .wtup l, u => (match u with
    | .ref a => (match L.K.lookup a with
      | some ⟨.type c, none, .seq its _, _⟩ => decide (c = "tuple") && (Nat.ble its.size line && relKs L l its.toList)
      | _ => false)
    | _ => false)
  | _, _ => false
def relKs (L : Lk) : List D → List Value → Bool
  | [], us => (match us with
    | [] => true
    | _ => false)
  | d :: ds, us => (match us with
    | u :: us => relK L d u && relKs L ds us
    | _ => false)
end
def tv : Value → V
  | .none => .non
  | .bool b => .bl b
  | .int i _ => .int i
  | .str x _ => .str x
  | .ref a => .ref a
  | _ => .non
mutual
theorem relK_ok {L : Lk} : ∀ {d : D} {u : Value}, relK L d u = true → RelV (tv u) u ∧ ∀ F φ H, Rel L F φ H d (tv u)
  | .non, u, h => by
    cases u <;> first | (cases h; done) | skip
    exact ⟨rfl, fun _ _ _ => .non⟩
  | .bl b, u, h => by
    cases u <;> first | (cases h; done) | skip
    rename_i c
    have e : b = c := by simpa [relK] using h
    subst e
    exact ⟨rfl, fun _ _ _ => .bl _⟩
  | .int i, u, h => by
    cases u <;> first | (cases h; done) | skip
    have e := of_decide_eq_true (by simpa only [relK] using h)
    subst e
    exact ⟨⟨_, rfl⟩, fun _ _ _ => .int _⟩
  | .str i, u, h => by
    cases u <;> first | (cases h; done) | skip
    have e := of_decide_eq_true (by simpa only [relK] using h)
    subst e
    exact ⟨⟨_, rfl⟩, fun _ _ _ => .str _⟩
  | .cls c, u, h => by
    cases u <;> first | (cases h; done) | skip
    have e := of_decide_eq_true (by simpa only [relK] using h)
    subst e
    exact ⟨rfl, fun _ _ _ => .cls _⟩
  | .wd c, u, h => by
    cases u <;> first | (cases h; done) | skip
    have e := of_decide_eq_true (by simpa only [relK] using h)
    subst e
    exact ⟨rfl, fun _ _ _ => .wd _⟩
  | .wtup l, u, h => by
    cases u <;> first | (cases h; done) | skip
    rename_i a
    have h : (match L.K.lookup a with
      | some ⟨.type c, none, .seq its _, _⟩ => decide (c = "tuple") && (Nat.ble its.size line && relKs L l its.toList)
      | _ => false) = true := by simpa only [relK] using h
    split at h
    · rename_i c its n sl e
      obtain ⟨h1, h⟩ := and_ h
      obtain ⟨h2, h3⟩ := and_ h
      obtain ⟨k1, k2⟩ := relKs_ok h3
      exact ⟨rfl, fun F φ H => .wtup e (congrArg Value.type (of_decide_eq_true h1)) rfl rfl (ble_line h2) k1 (k2 F φ H)⟩
    · cases h
  | .tup _, u, h => by cases u <;> cases h
  | .lst _, u, h => by cases u <;> cases h
  | .bor _, u, h => by cases u <;> cases h
  | .dct _ _, u, h => by cases u <;> cases h
  | .obj _ _ _, u, h => by cases u <;> cases h
  | .ref _, u, h => by cases u <;> cases h
theorem relKs_ok {L : Lk} : ∀ {ds : List D} {us : List Value}, relKs L ds us = true → Vals (us.map tv) us ∧ ∀ F φ H, Rels L F φ H ds (us.map tv)
  | [], [], _ => ⟨.nil, fun _ _ _ => .nil⟩
  | [], _ :: _, h => by cases h
  | _ :: _, [], h => by cases h
  | d :: ds, u :: us, h => by
    obtain ⟨h1, h2⟩ := and_ (by simpa only [relKs] using h)
    obtain ⟨a1, a2⟩ := relK_ok h1
    obtain ⟨b1, b2⟩ := relKs_ok h2
    exact ⟨.cons a1 b1, fun F φ H => .cons (a2 F φ H) (b2 F φ H)⟩
end
/-! ### written dicts, int keys -/
def wdGo (L : Lk) : List DictEntry → List Key → List D → Bool
  | [], [], [] => true
  | e :: es, .inl i :: ks, d :: ds => ((match e.key with
    | .int j _ => decide (i = j)
    | _ => false) && (decide (e.hash = hashInt i) && relK L d e.val)) && wdGo L es ks ds
  | _, _, _ => false
def wdB (L : Lk) (a : Addr) (w : List Key × List D) : Bool := match L.K.lookup a with
  | some ⟨.type c, none, .dict es _, sl⟩ => decide (c = "dict") && (sl.isEmpty && wdGo L es.toList w.1 w.2)
  | _ => false
theorem wdGo_ok {L : Lk} : ∀ {es : List DictEntry} {ks : List Key} {ds : List D}, wdGo L es ks ds = true → (∀ e ∈ es, ∃ i t, e.key = .int i t ∧ e.hash = hashInt i) ∧
    ∀ q d, findK ks ds q = some d → ∃ e, (es.find? fun e => keyIs q e.key) = some e ∧ relK L d e.val = true
  | [], [], [], _ => ⟨fun e h => (by cases h), fun q d h => (by cases h)⟩
  | e :: es, .inl i :: ks, d :: ds, h => by
    obtain ⟨h1, h2⟩ := and_ (by simpa only [wdGo] using h)
    obtain ⟨h3, h4⟩ := and_ h1
    obtain ⟨h5, h6⟩ := and_ h4
    obtain ⟨ih1, ih2⟩ := wdGo_ok h2
    obtain ⟨t, ek⟩ : ∃ t, e.key = .int i t := by
      cases hk : e.key <;> rw [hk] at h3 <;> first | (cases h3; done) | skip
      rename_i j t
      have e := of_decide_eq_true h3
      subst e
      exact ⟨t, rfl⟩
    refine ⟨fun z hz => ?_, fun q d' hq => ?_⟩
    · rcases List.mem_cons.mp hz with z1 | z1
      · subst z1
        exact ⟨i, t, ek, of_decide_eq_true h5⟩
      · exact ih1 z z1
    · have hq : (if decide ((Sum.inl i : Key) = q) = true then some d else findK ks ds q) = some d' := hq
      by_cases hi : (Sum.inl i : Key) = q
      · subst hi
        rw [if_pos (decide_eq_true rfl)] at hq
        cases hq
        refine ⟨e, List.find?_cons_of_pos ?_, h6⟩
        rw [ek]
        exact keyIs_int i t
      · rw [if_neg (by simpa using hi)] at hq
        obtain ⟨z, z1, z2⟩ := ih2 q d' hq
        refine ⟨z, ?_, z2⟩
        rw [List.find?_cons_of_neg]
        · exact z1
        · rw [ek]
          cases q with
          | inl j =>
            have : j ≠ i := fun z => hi (by rw [z])
            simpa [keyIs, Value.isInt] using fun z => this z.symm
          | inr x => simp [keyIs, Value.isStrOf]
  | [], _ :: _, _, h => by simp [wdGo] at h
  | [], [], _ :: _, h => by simp [wdGo] at h
  | _ :: _, [], _, h => by simp [wdGo] at h
  | _ :: _, .inr _ :: _, _, h => by simp [wdGo] at h
  | _ :: _, .inl _ :: _, [], h => by simp [wdGo] at h
theorem wdOk_of {L : Lk} {W : Wds} (h : ∀ k w, W[k]? = some w → wdB L (L.wa k) w = true) (X : Cx) (hK : X.K = L.K) : WdOk X L W := by
  intro value slice pins s σ H x y v u Q I rx ry ⟨k, w, q, d, e1, e2, e3, e4, hQ⟩ hs
  have hb := h k w e2
  unfold wdB at hb
  subst e1 e3
  obtain rfl : v = Value.ref (L.wa k) := rx
  split at hb
  · rename_i c es n sl hl
    obtain ⟨h1, hb⟩ := and_ hb
    obtain ⟨h2, h3⟩ := and_ hb
    have h1 := of_decide_eq_true h1
    subst h1
    obtain ⟨k1, k2⟩ := wdGo_ok h3
    obtain ⟨e, f1, f2⟩ := k2 q d e4
    rw [← hK] at hl
    have hm : s.heap.MapOf (mixKind X.prog X.w) (L.wa k) (fun q => findBy keyIs es q) :=
      ⟨_, es, n, I.kIn _ _ hl, ⟨rfl, rfl, Array.isEmpty_iff.mp h2⟩, rfl, fun e he => by
        obtain ⟨i, t, g1, g2⟩ := k1 e (Array.mem_toList_iff.mpr he)
        exact ⟨Sum.inl i, by rw [g1]; exact mixKind_int X.prog X.w i t, g2⟩, fun _ => rfl⟩
    have hf : findBy keyIs es q = some e.val := by
      obtain ⟨l⟩ := es
      unfold findBy
      rw [List.find?_toArray]
      rw [show (l.find? fun e => keyIs q e.key) = some e from f1]
      rfl
    obtain ⟨r1, r2⟩ := relK_ok f2
    have hq : keyIs q u = true := by
      cases q with
      | inl i =>
        obtain ⟨t, rfl⟩ := (show ∃ t, u = Value.int i t from ry)
        exact keyIs_int i t
      | inr z =>
        obtain ⟨t, rfl⟩ := (show ∃ t, u = Value.str z t from ry)
        exact keyIs_str z t
    exact tail_any hm.typeIs slot_dict_getitem.lookup (wpAny_getItem_of (knd := mixKind X.prog X.w) (k := q) hq hm hf ⟨tv e.val, H, I.tok _, r1, hQ _ r2⟩) hs
  · cases hb
/-! ### the Bool -/
def glB1 (T : Tx) (K : PySem.W.Frag) : List Str → List D → Bool
  | x :: xs, d :: ds => (match PySem.W.nsIn K mainGlobals x with
    | some (some u) => relK (lkOf T K) d u
    | _ => false) && glB1 T K xs ds
  | _, _ => true
theorem glB1_ok {T : Tx} {K : PySem.W.Frag} {h : Heap} {mg : Str → Option Value} (X : K.In h) (G : h.Ns mainGlobals mg) : ∀ {xs : List Str} {ds : List D}, glB1 T K xs ds = true → ∀ (i : Nat) (x : Str) (d : D), xs[i]? = some x → ds[i]? = some d →
    ∃ v u, mg x = some u ∧ RelV v u ∧ ∀ F φ H, Rel (lkOf T K) F φ H d v
  | [], _, _, i, x, d, e, _ => by simp at e
  | _ :: _, [], _, i, x, d, _, e => by simp at e
  | x :: xs, d :: ds, h, i, y, c, e1, e2 => by
    obtain ⟨h1, h2⟩ := and_ (by simpa only [glB1] using h)
    cases i with
    | succ i => exact glB1_ok X G h2 i y c (by simpa using e1) (by simpa using e2)
    | zero =>
      simp at e1 e2
      subst e1 e2
      split at h1
      · rename_i u hu
        obtain ⟨r1, r2⟩ := relK_ok h1
        exact ⟨tv u, u, PySem.W.mg_of X G hu, r1, r2⟩
      · cases h1
def wdAll (L : Lk) : Nat → Wds → Bool
  | _, [] => true
  | k, w :: ws => wdB L (L.wa k) w && wdAll L (k + 1) ws
theorem wdAll_ok {L : Lk} : ∀ {ws : Wds} {k : Nat}, wdAll L k ws = true → ∀ i w, ws[i]? = some w → wdB L (L.wa (k + i)) w = true
  | [], _, _, i, w, e => by simp at e
  | v :: ws, k, h, i, w, e => by
    obtain ⟨h1, h2⟩ := and_ (by simpa only [wdAll] using h)
    cases i with
    | zero =>
      simp at e
      subst e
      exact h1
    | succ i =>
      have := wdAll_ok h2 i w (by simpa using e)
      rwa [show k + 1 + i = k + (i + 1) by omega] at this
def iscB (K : PySem.W.Frag) (x : Str) : Bool := (He.Fa.cls x).ok K && (He.eqO (PySem.W.findIn K (.ref (He.ga K x)) "__class__") (some (some (.builtin "object.__class__"))) && (He.eqO (PySem.W.specialIn K (.builtin "object.__class__") "__get__") (some (some (.builtin "getset_descriptor.__get__"))) &&
  (decide (PySem.W.takesIn K (.builtin "object.__class__") = some true) && decide (PySem.W.mroIn K (He.ga K x) (.type "object") = some true))))
theorem iscB_ok {K : PySem.W.Frag} {x : Str} (h : iscB K x = true) : IsiC K (He.ga K x) := by
  obtain ⟨h1, h⟩ := and_ h
  obtain ⟨h2, h⟩ := and_ h
  obtain ⟨h3, h⟩ := and_ h
  obtain ⟨h4, h5⟩ := and_ h
  exact ⟨He.cls_ok h1, He.eqO_ok h2, He.eqO_ok h3, of_decide_eq_true h4, of_decide_eq_true h5⟩
def tvs (nc : Nat) : List TyV := [.non, .bl, .int, .str, .lst, .tup, .dct] ++ (List.range nc).map .own
def tys (n : Nat) : List Ty := [.int, .bool, .str, .list, .tuple, .dict] ++ (List.range n).map .cls
def kitB (T : Tx) (K : PySem.W.Frag) (nc : Nat) : Bool := (tvs nc).all fun t => (tys T.cn.length).all fun u => decide (PySem.W.kitOne K (tvV (lkOf T K) t) (tyV' (lkOf T K) u) = some (tyIs t u))
def statB (T : Tx) (P : Prog) (K : PySem.W.Frag) : Bool := glB1 T K T.gn P.gl && (bNames.all (fun x => He.eqO (PySem.W.nsIn K mainGlobals x) (some none)) && (wdAll (lkOf T K) 0 P.wd && (shortB T.nm &&
  ((P.fld.all fun p => (He.Fa.cls (T.cn.getD p.1 "")).ok K && (He.Fa.noat (T.cn.getD p.1 "") (nmOf T.nm p.2)).ok K) && ((T.cn.all fun x => (He.Fa.glo x).ok K) && (((List.range P.nc).all fun c => iscB K (T.cn.getD c "")) && kitB T K P.nc))))))
theorem stat_ok {T : Tx} {P : Prog} {pg : Program} {w : World} {K : PySem.W.Frag} {h : Heap} {mg : Str → Option Value} {base : Heap} (X : K.In h) (G : h.Ns mainGlobals mg) (s : statB T P K = true) : Stat T.toTb (lkOf T K) P pg w K mg base := by
  obtain ⟨h1, s⟩ := and_ s
  obtain ⟨h2, s⟩ := and_ s
  obtain ⟨h3, s⟩ := and_ s
  obtain ⟨h4, s⟩ := and_ s
  obtain ⟨h5, s⟩ := and_ s
  obtain ⟨h6, s⟩ := and_ s
  obtain ⟨h7, h8⟩ := and_ s
  refine ⟨rfl, glB1_ok X G h1, fun x hx => PySem.W.mg_none_of X G (He.eqO_ok (List.all_eq_true.mp h2 x hx)), fun X e => wdOk_of (fun k w e => by
      have := wdAll_ok h3 k w e
      rwa [Nat.zero_add] at this) X e, nmOf_inj h4, fun i x e => ?_, fun c i e => ?_, fun c x e => ?_, fun c hc => ?_, fun t u ht hu => ?_⟩
  · show nmOf T.nm i = x
    unfold nmOf
    rw [List.getD_eq_getElem?_getD, e]
    rfl
  · have z := List.all_eq_true.mp h5 (c, i) (by simpa using e)
    obtain ⟨z1, z2⟩ := and_ z
    exact ⟨He.cls_ok z1, He.noat_ok z2⟩
  · have z := He.glo_ok X G (List.all_eq_true.mp h6 x (List.mem_of_getElem? e))
    show mg x = some (.ref (He.ga K (T.cn.getD c "")))
    rw [List.getD_eq_getElem?_getD, e]
    exact z
  · exact iscB_ok (List.all_eq_true.mp h7 c (List.mem_range.mpr hc))
  · have m1 : t ∈ tvs P.nc := by
      unfold tvs
      cases t with
      | own c => exact List.mem_append_right _ (List.mem_map.mpr ⟨c, List.mem_range.mpr (ht c rfl), rfl⟩)
      | _ => exact List.mem_append_left _ (by simp)
    have m2 : u ∈ tys T.cn.length := by
      unfold tys
      cases u with
      | cls c =>
        obtain ⟨x, e⟩ := hu c rfl
        exact List.mem_append_right _ (List.mem_map.mpr ⟨c, List.mem_range.mpr (List.getElem?_eq_some_iff.mp e).1, rfl⟩)
      | _ => exact List.mem_append_left _ (by simp)
    exact of_decide_eq_true (List.all_eq_true.mp (List.all_eq_true.mp h8 t m1) u m2)
end MV

set_option maxRecDepth 100000
set_option maxHeartbeats 1000000
/-! VQ: entries, shapes, the head's hook, the end. -/
namespace MV
open PySem PySem.Spec PyProof.Rows L2
/-! ### a def as it stands in the text -/
structure FnE where
  adr : PySem.W.Frag → Addr
  name : Str
  qual : Str
  params : Arguments
  bd : List Stmt
  scope : Scope
  dfl : List D := []
  kwd : List (Str × D) := []
  N : List Str
  ps : List Str
  f : Fn
abbrev FnW : Type := Option (Str × Str × Arguments × FuncBody × Scope × Addr × List (Str × Addr) × Addr)
def FnE.ob (K : PySem.W.Frag) (e : FnE) : FnW := match K.lookup (e.adr K) with
  | some ⟨_, _, .func fd, _⟩ => some (fd.name, fd.qualname, fd.params, fd.body, fd.scope, fd.globals, fd.closure, fd.builtins)
  | _ => none
def FnE.val (e : FnE) : FnW := some (e.name, e.qual, e.params, .stmts e.bd, e.scope, mainGlobals, [], builtinsNs)
def dflB (L : Lk) (dV : Value) : List D → Bool
  | [] => (match dV with
    | .none => true
    | _ => false)
  | d :: ds => (match dV with
    | .ref T => (match L.K.lookup T with
      | some ⟨_, _, .seq its _, _⟩ => relKs L (d :: ds) its.toList
      | _ => false)
    | _ => false)
def nsV (K : PySem.W.Frag) (D : Addr) (x : Str) : Value := match PySem.W.nsIn K D x with
  | some (some u) => u
  | _ => .none
def kwdB (L : Lk) (kV : Value) : List (Str × D) → Bool
  | [] => true
  | q :: qs => (match kV with
    | .ref D => (q :: qs).all fun q => He.eqO (PySem.W.nsIn L.K D q.1) (some (some (nsV L.K D q.1))) && relK L q.2 (nsV L.K D q.1)
    | _ => false)
def FnE.okB (L : Lk) (e : FnE) : Bool := PySem.W.keepIn L.K (.ref (e.adr L.K)) && (match L.K.lookup (e.adr L.K) with
  | some ⟨_, _, .func fd, _⟩ => PySem.W.codeIn L.K fd.code e.qual && (dflB L fd.defaults e.dfl && kwdB L fd.kwdefaults e.kwd)
  | _ => false)
def scB (N ps : List Str) (sc : Scope) : Bool := decide (sc.kind = .function) && (!sc.isCoroutine && (!sc.isGenerator && (decide N.Nodup && (decide (N.take ps.length = ps) && ((ps.all fun x => stoB sc x) && (sc.names.all fun y => !decide (y.2 = .free)))))))
theorem scB_ok {N ps : List Str} {sc : Scope} (h : scB N ps sc = true) : FnScope N ps sc := by
  obtain ⟨h1, h⟩ := and_ h
  obtain ⟨h2, h⟩ := and_ h
  obtain ⟨h3, h⟩ := and_ h
  obtain ⟨h4, h⟩ := and_ h
  obtain ⟨h5, h⟩ := and_ h
  obtain ⟨h6, h7⟩ := and_ h
  exact ⟨of_decide_eq_true h1, by simpa using h2, by simpa using h3, of_decide_eq_true h4, of_decide_eq_true h5, fun x hx => stoB_ (List.all_eq_true.mp h6 x hx), fun y hy => by simpa using List.all_eq_true.mp h7 y hy⟩
def FnE.ckB (T : Tb) (e : FnE) : Bool := scB e.N e.ps e.scope && ((e.f.np == e.ps.length) && ((e.f.nl == e.N.length) && ckS T e.N e.f.body e.scope e.bd))
/-- what the head tells of a def -/
structure EntOk (L : Lk) (e : FnE) (fd : FuncData) (dvs : List V) (kws : List (Str × V)) : Prop where
  D : FunD L.K e.name e.qual e.params e.bd e.scope dvs kws (e.adr L.K) fd
  dl : dvs.length = e.dfl.length
  dr : ∀ F φ H, Rels L F φ H e.dfl dvs
  kn : kws.map (·.1) = e.kwd.map (·.1)
  kr : ∀ F φ H, Rels L F φ H (e.kwd.map (·.2)) (kws.map (·.2))
theorem dflB_ok {L : Lk} {dV : Value} : ∀ {ds : List D}, dflB L dV ds = true → ∃ dvs, DflV L.K dV dvs ∧ dvs.length = ds.length ∧ ∀ F φ H, Rels L F φ H ds dvs
  | [], h => by
    cases dV with
    | none => exact ⟨[], .inl ⟨rfl, rfl⟩, rfl, fun _ _ _ => .nil⟩
    | _ => cases h
  | d :: ds, h => by
    cases dV with
    | ref T =>
      have h1 : (match L.K.lookup T with
        | some ⟨_, _, .seq its _, _⟩ => relKs L (d :: ds) its.toList
        | _ => false) = true := h
      split at h1
      · rename_i its n sl e
        obtain ⟨r1, r2⟩ := relKs_ok h1
        have hl := (r2 ⟨fun _ => False, fun _ => False⟩ [] (fun _ => none)).length
        refine ⟨its.toList.map tv, .inr ⟨fun z => (by rw [z] at hl; cases hl), T, _, its.toList, n, rfl, e, by simp, r1⟩, hl.symm, r2⟩
      · cases h1
    | _ => cases h
theorem kwdB_ok {L : Lk} {kV : Value} {qs : List (Str × D)} (h : kwdB L kV qs = true) : ∃ kws, KwdV L.K kV kws ∧ kws.map (·.1) = qs.map (·.1) ∧ ∀ F φ H, Rels L F φ H (qs.map (·.2)) (kws.map (·.2)) := by
  cases qs with
  | nil => exact ⟨[], .inl rfl, rfl, fun _ _ _ => .nil⟩
  | cons q qs =>
    cases kV with
    | ref D =>
      have h1 : ((q :: qs).all fun q => He.eqO (PySem.W.nsIn L.K D q.1) (some (some (nsV L.K D q.1))) && relK L q.2 (nsV L.K D q.1)) = true := h
      have h2 := fun z hz => and_ (List.all_eq_true.mp h1 z hz)
      clear h h1
      generalize q :: qs = l at h2
      refine ⟨l.map fun q => (q.1, tv (nsV L.K D q.1)), .inr ⟨D, rfl, fun p hp => ?_⟩, by simp, fun F φ H => ?_⟩
      · obtain ⟨q, hq, e⟩ := List.mem_map.mp hp
        subst e
        exact ⟨_, He.eqO_ok (h2 q hq).1, (relK_ok (h2 q hq).2).1⟩
      · rw [List.map_map]
        induction l with
        | nil => exact .nil
        | cons z zs ih => exact .cons ((relK_ok (h2 z (List.mem_cons_self ..)).2).2 F φ H) (ih fun y hy => h2 y (List.mem_cons_of_mem _ hy))
    | _ => cases h
theorem FnE.ent {L : Lk} {e : FnE} (h1 : e.ob L.K = e.val) (h2 : e.okB L = true) : ∃ fd dvs kws, EntOk L e fd dvs kws := by
  obtain ⟨kp, c2⟩ := and_ h2
  unfold FnE.ob at h1
  cases q : L.K.lookup (e.adr L.K) with
  | none =>
    rw [q] at c2
    cases c2
  | some o =>
    obtain ⟨oc, od, dt, osl⟩ := o
    rw [q] at c2 h1
    cases dt with
    | func fd =>
      obtain ⟨n1, n2, n3, n4, n5, n6, n7, n8, n9, n10, n11, n12, n13, n14, n15⟩ := fd
      have e2 : (some (n1, n2, n3, n4, n5, n6, n7, n15) : FnW) = some (e.name, e.qual, e.params, .stmts e.bd, e.scope, mainGlobals, [], builtinsNs) := h1
      simp only [Option.some.injEq, Prod.mk.injEq] at e2
      obtain ⟨g1, g2, g3, g4, g5, g6, g7, g8⟩ := e2
      subst g1 g2 g3 g4 g5 g6 g7 g8
      have c3 : (PySem.W.codeIn L.K n13 e.qual && (dflB L n8 e.dfl && kwdB L n9 e.kwd)) = true := c2
      obtain ⟨k1, k2⟩ := and_ c3
      obtain ⟨k3, k4⟩ := and_ k2
      obtain ⟨dvs, a1, a2, a3⟩ := dflB_ok k3
      obtain ⟨kws, b1, b2, b3⟩ := kwdB_ok k4
      exact ⟨_, dvs, kws, ⟨⟨oc, od, n8, n9, n10, n11, n12, n13, n14, osl, rfl, q, k1, a1, b1⟩, kp⟩, a2, a3, b2, b3⟩
    | _ => cases c2
/-! ### how parameters are filled -/
inductive Src where
  | a (i : Nat) | df (i : Nat) | kd (i : Nat)
def pick {α : Type} (l its mv : List α) : List Src → List α
  | [] => []
  | .a i :: r => (match l[i]? with
    | some x => x :: pick l its mv r
    | none => pick l its mv r)
  | .df i :: r => (match its[i]? with
    | some x => x :: pick l its mv r
    | none => pick l its mv r)
  | .kd i :: r => (match mv[i]? with
    | some x => x :: pick l its mv r
    | none => pick l its mv r)
theorem Vals.get : ∀ {vs : List V} {us : List Value} (i : Nat), Vals vs us → (vs[i]? = none ∧ us[i]? = none) ∨ ∃ v u, vs[i]? = some v ∧ us[i]? = some u ∧ RelV v u
  | _, _, i, .nil => .inl ⟨rfl, rfl⟩
  | _, _, 0, .cons r _ => .inr ⟨_, _, rfl, rfl, r⟩
  | _, _, i + 1, .cons _ t => Vals.get i t
theorem pick_rel {vs ds mz : List V} {us its mv : List Value} (r1 : Vals vs us) (r2 : Vals ds its) (r3 : Vals mz mv) : ∀ src : List Src, Vals (pick vs ds mz src) (pick us its mv src)
  | [] => .nil
  | .a i :: r => by
    unfold pick
    rcases Vals.get i r1 with ⟨e1, e2⟩ | ⟨v, u, e1, e2, q⟩
    · rw [e1, e2]
      exact pick_rel r1 r2 r3 r
    · rw [e1, e2]
      exact .cons q (pick_rel r1 r2 r3 r)
  | .df i :: r => by
    unfold pick
    rcases Vals.get i r2 with ⟨e1, e2⟩ | ⟨v, u, e1, e2, q⟩
    · rw [e1, e2]
      exact pick_rel r1 r2 r3 r
    · rw [e1, e2]
      exact .cons q (pick_rel r1 r2 r3 r)
  | .kd i :: r => by
    unfold pick
    rcases Vals.get i r3 with ⟨e1, e2⟩ | ⟨v, u, e1, e2, q⟩
    · rw [e1, e2]
      exact pick_rel r1 r2 r3 r
    · rw [e1, e2]
      exact .cons q (pick_rel r1 r2 r3 r)
def toSel (e : FnE) : Src → Sel
  | .a i => .a i
  | .df i => .d (e.dfl.getD i .non)
  | .kd i => .d ((e.kwd.map (·.2)).getD i .non)
def srcB (e : FnE) : List Src → Bool := fun l => l.all fun
  | .a _ => true
  | .df i => Nat.blt i e.dfl.length
  | .kd i => Nat.blt i e.kwd.length
theorem fill_rel {L : Lk} {e : FnE} {F : Fm} {φ : List Addr} {H : Hp} {ds : List D} {l dvs mz : List V} (r1 : Rels L F φ H ds l) (r2 : Rels L F φ H e.dfl dvs) (r3 : Rels L F φ H (e.kwd.map (·.2)) mz) : ∀ {src : List Src} {qs : List D}, srcB e src = true → selD ds (src.map (toSel e)) = some qs → Rels L F φ H qs (pick l dvs mz src)
  | [], qs, _, h => by
    cases h
    exact .nil
  | .a i :: r, qs, hb, h => by
    have hb := (and_ (show ((true : Bool) && srcB e r) = true from hb)).2
    have h : (match ds[i]?, selD ds (r.map (toSel e)) with
      | some d, some l => some (d :: l)
      | _, _ => none) = some qs := h
    split at h
    · rename_i d l' e1 e2
      cases h
      obtain ⟨v, f1, f2⟩ := r1.get e1
      unfold pick
      rw [f1]
      exact .cons f2 (fill_rel r1 r2 r3 hb e2)
    · cases h
  | .df i :: r, qs, hb, h => by
    obtain ⟨hi, hb⟩ := and_ (show (Nat.blt i e.dfl.length && srcB e r) = true from hb)
    have hi : i < e.dfl.length := Nat.le_of_ble_eq_true hi
    have h : (match selD ds (r.map (toSel e)) with
      | some l => some (e.dfl.getD i .non :: l)
      | none => none) = some qs := h
    split at h
    · rename_i l' e2
      cases h
      have e1 : e.dfl[i]? = some (e.dfl.getD i .non) := by
        rw [List.getD_eq_getElem?_getD, List.getElem?_eq_getElem hi]
        rfl
      obtain ⟨v, f1, f2⟩ := r2.get e1
      unfold pick
      rw [f1]
      exact .cons f2 (fill_rel r1 r2 r3 hb e2)
    · cases h
  | .kd i :: r, qs, hb, h => by
    obtain ⟨hi, hb⟩ := and_ (show (Nat.blt i e.kwd.length && srcB e r) = true from hb)
    have hi : i < (e.kwd.map (·.2)).length := by
      rw [List.length_map]
      exact Nat.le_of_ble_eq_true hi
    have h : (match selD ds (r.map (toSel e)) with
      | some l => some ((e.kwd.map (·.2)).getD i .non :: l)
      | none => none) = some qs := h
    split at h
    · rename_i l' e2
      cases h
      have e1 : (e.kwd.map (·.2))[i]? = some ((e.kwd.map (·.2)).getD i .non) := by
        rw [List.getD_eq_getElem?_getD, List.getElem?_eq_getElem hi]
        rfl
      obtain ⟨v, f1, f2⟩ := r3.get e1
      unfold pick
      rw [f1]
      exact .cons f2 (fill_rel r1 r2 r3 hb e2)
    · cases h
/-- the binding of a shape's arguments -/
def BindP (e : FnE) (n : Nat) (ks : List Str) (src : List Src) : Prop :=
  ∀ (L : Lk) (fd : FuncData) (dvs : List V) (kws : List (Str × V)), EntOk L e fd dvs kws → ∃ its mv : List Value, KBn L.K fd e.ps n ks (fun us ws => pick (us ++ ws) its mv src) (fun vs zs => pick (vs ++ zs) dvs (kws.map (·.2)) src)
section
variable {e : FnE} {n : Nat} {ks : List Str} {src : List Src}
theorem bind_0 (hd : e.dfl = []) (hk : e.kwd = [])
    (h : ∀ (kV doc pm : Value) (an : Option Addr) (cdv ct : Value) (us ws : List Value), us.length = n → ws.length = ks.length → bindArgs (PySem.W.fnOf e.name e.qual e.params e.bd e.scope .none kV doc pm an cdv ct) ⟨us, ks.zip ws⟩ = pure (e.ps.zip (pick (us ++ ws) [] [] src))) : BindP e n ks src := by
  intro L fd dvs kws E
  have h1 : dvs = [] := List.length_eq_zero_iff.mp (by rw [E.dl, hd]; rfl)
  have h2 : kws = [] := by
    have := E.kn
    rw [hk] at this
    simpa using this
  subst h1 h2
  obtain ⟨oc, od, dV, kV, doc, pm, an, cdv, ct, osl, rfl, lk, hcd, hD, hK⟩ := E.D.ex
  rcases hD with ⟨_, rfl⟩ | ⟨z, _⟩
  · exact ⟨[], [], ⟨fun s us ws X l1 l2 => .of_eq (h kV doc pm an cdv ct us ws l1 l2), fun r1 r2 => pick_rel (r1.append r2) .nil .nil src⟩⟩
  · exact absurd rfl z
theorem bind_1 (hd : e.dfl ≠ []) (hk : e.kwd = [])
    (h : ∀ (T : Addr) (kV doc pm : Value) (an : Option Addr) (cdv ct : Value) (us its ws : List Value), us.length = n → its.length = e.dfl.length → ws.length = ks.length →
      ∃ k, bindArgs (PySem.W.fnOf e.name e.qual e.params e.bd e.scope (.ref T) kV doc pm an cdv ct) ⟨us, ks.zip ws⟩ = seqItems? (.ref T) >>= k ∧ k (some its.toArray) = pure (e.ps.zip (pick (us ++ ws) its [] src))) : BindP e n ks src := by
  intro L fd dvs kws E
  have h2 : kws = [] := by
    have := E.kn
    rw [hk] at this
    simpa using this
  subst h2
  obtain ⟨oc, od, dV, kV, doc, pm, an, cdv, ct, osl, rfl, lk, hcd, hD, hK⟩ := E.D.ex
  rcases hD with ⟨z, _⟩ | ⟨_, T, o, its, m, rfl, lT, oT, rT⟩
  · exact absurd (List.length_eq_zero_iff.mp (by rw [← E.dl, z]; rfl)) hd
  · refine ⟨its, [], ⟨fun s us ws X l1 l2 => ?_, fun r1 r2 => pick_rel (r1.append r2) rT .nil src⟩⟩
    obtain ⟨k, e1, e2⟩ := h T kV doc pm an cdv ct us its ws l1 (by rw [← rT.length, E.dl]) l2
    refine BindsTo.of_looks fun M => ?_
    rw [e1]
    exact looks_items X lT oT (.of_pure e2)
/-- the keyword-only ones all lack -/
theorem bind_2 (hd : e.dfl ≠ []) (hk : e.kwd ≠ [])
    (h : ∀ (T D : Addr) (doc pm : Value) (an : Option Addr) (cdv ct : Value) (us its mv ws : List Value), us.length = n → its.length = e.dfl.length → mv.length = e.kwd.length → ws.length = ks.length →
      ∃ k, bindArgs (PySem.W.fnOf e.name e.qual e.params e.bd e.scope (.ref T) (.ref D) doc pm an cdv ct) ⟨us, ks.zip ws⟩ = seqItems? (.ref T) >>= k ∧ KwChain D ((e.kwd.map (·.1)).zip mv) (k (some its.toArray)) (e.ps.zip (pick (us ++ ws) its mv src))) : BindP e n ks src := by
  intro L fd dvs kws E
  obtain ⟨oc, od, dV, kV, doc, pm, an, cdv, ct, osl, rfl, lk, hcd, hD, hK⟩ := E.D.ex
  have hkl : kws.length = e.kwd.length := by
    have := congrArg List.length E.kn
    simpa using this
  rcases hD with ⟨z, _⟩ | ⟨_, T, o, its, m, rfl, lT, oT, rT⟩
  · exact absurd (List.length_eq_zero_iff.mp (by rw [← E.dl, z]; rfl)) hd
  · rcases hK with z | ⟨D, rfl, hq⟩
    · exact absurd (List.length_eq_zero_iff.mp (by rw [← hkl, z]; rfl)) hk
    · obtain ⟨mv, hl, rk, hks⟩ := kwd_vals (ms := kws) hq
      refine ⟨its, mv, ⟨fun s us ws X l1 l2 => ?_, fun r1 r2 => pick_rel (r1.append r2) rT rk src⟩⟩
      obtain ⟨k, e1, e2⟩ := h T D doc pm an cdv ct us its mv ws l1 (by rw [← rT.length, E.dl]) (hl.trans hkl) l2
      refine BindsTo.of_looks fun M => ?_
      rw [e1]
      rw [E.kn] at hks
      exact looks_items X lT oT (KwChain.looks X hks e2)
/-- none of the keyword-only ones lacks -/
theorem bind_3 (hd : e.dfl ≠ []) (hs : src.all (fun | .kd _ => false | _ => true) = true)
    (h : ∀ (T : Addr) (kV doc pm : Value) (an : Option Addr) (cdv ct : Value) (us its ws : List Value), us.length = n → its.length = e.dfl.length → ws.length = ks.length →
      ∃ k, bindArgs (PySem.W.fnOf e.name e.qual e.params e.bd e.scope (.ref T) kV doc pm an cdv ct) ⟨us, ks.zip ws⟩ = seqItems? (.ref T) >>= k ∧ k (some its.toArray) = pure (e.ps.zip (pick (us ++ ws) its [] src))) : BindP e n ks src := by
  intro L fd dvs kws E
  obtain ⟨oc, od, dV, kV, doc, pm, an, cdv, ct, osl, rfl, lk, hcd, hD, hK⟩ := E.D.ex
  have pk : ∀ {α : Type} (l its mv : List α), pick l its mv src = pick l its [] src := fun {α} l its mv => by
    clear h
    induction src with
    | nil => rfl
    | cons x r ih =>
      rw [List.all_cons] at hs
      obtain ⟨h1, h2⟩ := and_ hs
      cases x with
      | a i =>
        unfold pick
        rw [ih h2]
      | df i =>
        unfold pick
        rw [ih h2]
      | kd i => cases h1
  rcases hD with ⟨z, _⟩ | ⟨_, T, o, its, m, rfl, lT, oT, rT⟩
  · exact absurd (List.length_eq_zero_iff.mp (by rw [← E.dl, z]; rfl)) hd
  · refine ⟨its, [], ⟨fun s us ws X l1 l2 => ?_, fun r1 r2 => ?_⟩⟩
    · obtain ⟨k, e1, e2⟩ := h T kV doc pm an cdv ct us its ws l1 (by rw [← rT.length, E.dl]) l2
      refine BindsTo.of_looks fun M => ?_
      rw [e1]
      exact looks_items X lT oT (.of_pure e2)
    · rw [pk _ _ (kws.map (·.2))]
      exact pick_rel (r1.append r2) rT .nil src
/-- only keyword-only defaults, all lack -/
theorem bind_4 (hd : e.dfl = []) (hk : e.kwd ≠ [])
    (h : ∀ (D : Addr) (doc pm : Value) (an : Option Addr) (cdv ct : Value) (us mv ws : List Value), us.length = n → mv.length = e.kwd.length → ws.length = ks.length →
      KwChain D ((e.kwd.map (·.1)).zip mv) (bindArgs (PySem.W.fnOf e.name e.qual e.params e.bd e.scope .none (.ref D) doc pm an cdv ct) ⟨us, ks.zip ws⟩) (e.ps.zip (pick (us ++ ws) [] mv src))) : BindP e n ks src := by
  intro L fd dvs kws E
  obtain ⟨oc, od, dV, kV, doc, pm, an, cdv, ct, osl, rfl, lk, hcd, hD, hK⟩ := E.D.ex
  have h1 : dvs = [] := List.length_eq_zero_iff.mp (by rw [E.dl, hd]; rfl)
  subst h1
  have hkl : kws.length = e.kwd.length := by
    have := congrArg List.length E.kn
    simpa using this
  rcases hD with ⟨_, rfl⟩ | ⟨z, _⟩
  · rcases hK with z | ⟨D, rfl, hq⟩
    · exact absurd (List.length_eq_zero_iff.mp (by rw [← hkl, z]; rfl)) hk
    · obtain ⟨mv, hl, rk, hks⟩ := kwd_vals (ms := kws) hq
      refine ⟨[], mv, ⟨fun s us ws X l1 l2 => ?_, fun r1 r2 => pick_rel (r1.append r2) .nil rk src⟩⟩
      refine BindsTo.of_looks fun M => ?_
      rw [E.kn] at hks
      exact KwChain.looks X hks (h D doc pm an cdv ct us mv ws l1 (hl.trans hkl) l2)
  · exact absurd rfl z
end
end MV

set_option maxRecDepth 100000
set_option maxHeartbeats 1000000
/-! VR: shapes, the head's hook, the end. -/
namespace MV
open PySem PySem.Spec PyProof.Rows L2
structure ShE where
  sk : SK
  nm : Str
  n : Nat
  ks : List Str
  fn : Nat
  src : List Src
def shift : Src → Src
  | .a i => .a (i + 1)
  | s => s
def ShE.sh (es : List FnE) (s : ShE) : Shape := ⟨s.fn, s.n + s.ks.length, match es[s.fn]? with
  | some e => s.src.map (toSel e)
  | none => []⟩
def propB (K : PySem.W.Frag) (C : Addr) (m : Str) (g : Addr) : Bool := (match PySem.W.findIn K (.ref C) m with
  | some (some (.ref p)) => He.eqO (PySem.W.specialIn K (.ref p) "__get__") (some (some (.builtin "property.__get__"))) && (decide (PySem.W.takesIn K (.ref p) = some true) && (match PySem.W.recIn K p "property" with
    | some (.ref a :: _) => decide (a = g)
    | _ => false))
  | _ => false)
theorem propB_ok {K : PySem.W.Frag} {C : Addr} {m : Str} {g : Addr} (h : propB K C m g = true) : ∃ p, PropOf K C m p g := by
  unfold propB at h
  split at h
  · rename_i p e
    obtain ⟨h1, h⟩ := and_ h
    obtain ⟨h2, h3⟩ := and_ h
    split at h3
    · rename_i a r e2
      have h3 := of_decide_eq_true h3
      subst h3
      exact ⟨p, e, He.eqO_ok h1, of_decide_eq_true h2, r, e2⟩
    · cases h3
  · cases h
def isFnK : Kind → Bool
  | .fn _ => true
  | _ => false
def ShE.okB (T : Tx) (K : PySem.W.Frag) (es : List FnE) (s : ShE) : Bool := match es[s.fn]? with
  | none => false
  | some e => srcB e s.src && (match s.sk with
    | .glob => (He.Fa.glo s.nm).ok K && (match e.f.kind with
      | .fn _ => decide (e.adr K = He.ga K s.nm)
      | .ctor c _ => decide (T.cn[c]? = some s.nm) && ((He.Fa.mkr s.nm).ok K && decide (e.adr K = He.ma K (He.ga K s.nm) "__init__")))
    | .meth c => (He.Fa.cls (T.cn.getD c "")).ok K && ((He.Fa.meth (T.cn.getD c "") s.nm).ok K && (isFnK e.f.kind && decide (e.adr K = He.ma K (He.ga K (T.cn.getD c "")) s.nm)))
    | .prop c => (He.Fa.cls (T.cn.getD c "")).ok K && (propB K (He.ga K (T.cn.getD c "")) s.nm (e.adr K) && (isFnK e.f.kind && (decide (e.ps.length = 1) && (match s.src with
      | [.a 0] => decide (s.n = 1) && s.ks.isEmpty
      | _ => false)))))
def ShE.bind (es : List FnE) (s : ShE) : Prop := match es[s.fn]? with
  | none => True
  | some e => (match e.f.kind with
    | .fn _ => BindP e s.n s.ks s.src
    | .ctor _ _ => BindP e (s.n + 1) s.ks (.a 0 :: s.src.map shift))
def BindAll (es : List FnE) : List ShE → Prop
  | [] => True
  | s :: r => s.bind es ∧ BindAll es r
theorem bindAll_get {es : List FnE} : ∀ {l : List ShE}, BindAll es l → ∀ {i : Nat} {s : ShE}, l[i]? = some s → s.bind es
  | [], _, i, s, e => by simp at e
  | x :: r, h, 0, s, e => by
    simp at e
    subst e
    exact h.1
  | x :: r, h, i + 1, s, e => bindAll_get h.2 (by simpa using e)
/-- the text's tables fit -/
structure Fits (T : Tx) (P : Prog) (es : List FnE) (ss : List ShE) : Prop where
  fns : P.fns = es.map (·.f)
  sh : P.sh = ss.map (·.sh es)
  sn : T.sn = ss.map fun s => (s.sk, s.nm, s.n, s.ks)
  ck : es.all (·.ckB T.toTb) = true
  bd : BindAll es ss
/-- what the head tells -/
structure Told (T : Tx) (P : Prog) (es : List FnE) (ss : List ShE) (K : PySem.W.Frag) : Prop where
  st : statB T P K = true
  ob : (es.map fun e => e.ob K) = es.map FnE.val
  ok : es.all (·.okB (lkOf T K)) = true
  sh : ss.all (·.okB T K es) = true
section
variable {T : Tx} {P : Prog} {es : List FnE} {ss : List ShE} {K : PySem.W.Frag}
theorem Told.ent (t : Told T P es ss K) {i : Nat} {e : FnE} (h : es[i]? = some e) : ∃ fd dvs kws, EntOk (lkOf T K) e fd dvs kws := by
  have e1 : (es.map fun e => e.ob K)[i]? = (es.map FnE.val)[i]? := by rw [t.ob]
  rw [List.getElem?_map, List.getElem?_map, h] at e1
  exact FnE.ent (L := lkOf T K) (Option.some.inj e1) (List.all_eq_true.mp t.ok e (List.mem_of_getElem? h))
theorem fact_of (f : Fits T P es ss) {i : Nat} {e : FnE} (h : es[i]? = some e) {fd : FuncData} {dvs : List V} {kws : List (Str × V)} (E : EntOk (lkOf T K) e fd dvs kws) : FnFact T.toTb P K i (e.adr K) fd e.ps := by
  obtain ⟨h1, h2⟩ := and_ (List.all_eq_true.mp f.ck e (List.mem_of_getElem? h))
  obtain ⟨h2, h3⟩ := and_ h2
  obtain ⟨h3, h4⟩ := and_ h3
  exact ⟨e.name, e.qual, e.params, e.bd, e.scope, dvs, kws, e.N, e.f, by rw [f.fns, List.getElem?_map, h]; rfl, E.D, scB_ok h1, beq_iff_eq.mp h2, beq_iff_eq.mp h3, h4⟩
theorem pick_shift {α : Type} (p : α) (l its mv : List α) : ∀ src : List Src, pick (p :: l) its mv (src.map shift) = pick l its mv src
  | [] => rfl
  | .a i :: r => by
    show (match (p :: l)[i + 1]? with
      | some x => x :: pick (p :: l) its mv (r.map shift)
      | none => pick (p :: l) its mv (r.map shift)) = _
    rw [pick_shift p l its mv r, List.getElem?_cons_succ]
    rfl
  | .df i :: r => by
    show (match its[i]? with
      | some x => x :: pick (p :: l) its mv (r.map shift)
      | none => pick (p :: l) its mv (r.map shift)) = _
    rw [pick_shift p l its mv r]
    rfl
  | .kd i :: r => by
    show (match mv[i]? with
      | some x => x :: pick (p :: l) its mv (r.map shift)
      | none => pick (p :: l) its mv (r.map shift)) = _
    rw [pick_shift p l its mv r]
    rfl
theorem fillOk_of {e : FnE} {s : ShE} (he : es[s.fn]? = some e) (hb : srcB e s.src = true) {fd : FuncData} {dvs : List V} {kws : List (Str × V)} (E : EntOk (lkOf T K) e fd dvs kws) : FillOk (lkOf T K) (s.sh es) s.n s.ks (fun vs zs => pick (vs ++ zs) dvs (kws.map (·.2)) s.src) := by
  intro F φ H ds vs zs qs l1 l2 r h
  unfold Shape.fill at h
  split at h
  · have h : selD ds (match es[s.fn]? with
      | some e => s.src.map (toSel e)
      | none => []) = some qs := h
    rw [he] at h
    exact fill_rel r (E.dr F φ H) (E.kr F φ H) hb h
  · cases h
theorem sh_at (f : Fits T P es ss) {j : Nat} {s : ShE} (h : ss[j]? = some s) : P.sh[j]? = some (s.sh es) := by
  rw [f.sh, List.getElem?_map, h]
  rfl
theorem sn_at (f : Fits T P es ss) {j : Nat} {x : SK × Str × Nat × List Str} (h : T.sn[j]? = some x) : ∃ s, ss[j]? = some s ∧ x = (s.sk, s.nm, s.n, s.ks) := by
  rw [f.sn, List.getElem?_map] at h
  cases e : ss[j]? with
  | none =>
    rw [e] at h
    cases h
  | some s =>
    rw [e] at h
    exact ⟨s, rfl, (Option.some.inj h).symm⟩
theorem links_of (f : Fits T P es ss) (t : Told T P es ss K) {h : Heap} {mg : Str → Option Value} (X : K.In h) (G : h.Ns mainGlobals mg) : Links T.toTb (lkOf T K) P K mg := by
  refine ⟨fun j g n ks e => ?_, fun j c m n ks e => ?_, fun j c m e => ?_⟩
  · obtain ⟨s, hs, e1⟩ := sn_at f e
    obtain ⟨a1, a2, a3, a4⟩ : SK.glob = s.sk ∧ g = s.nm ∧ n = s.n ∧ ks = s.ks := by
      injection e1 with a e1
      injection e1 with b e1
      injection e1 with c d
      exact ⟨a, b, c, d⟩
    subst a2 a3 a4
    have hb := List.all_eq_true.mp t.sh s (List.mem_of_getElem? hs)
    unfold ShE.okB at hb
    cases he : es[s.fn]? with
    | none =>
      rw [he] at hb
      cases hb
    | some en =>
      rw [he] at hb
      obtain ⟨hb1, hb2⟩ := and_ hb
      rw [← a1] at hb2
      obtain ⟨hb3, hb4⟩ := and_ hb2
      obtain ⟨fd, dvs, kws, E⟩ := t.ent he
      have hbd := bindAll_get f.bd hs
      unfold ShE.bind at hbd
      rw [he] at hbd
      dsimp only at hbd
      have hfn : P.fns[s.fn]? = some en.f := by
        rw [f.fns, List.getElem?_map, he]
        rfl
      have fill := fillOk_of (T := T) (K := K) he hb1 E
      have ff := fact_of f he E
      cases hk : en.f.kind with
      | fn b =>
        rw [hk] at hb4 hbd
        have hb4 := of_decide_eq_true hb4
        obtain ⟨its, mv, kb⟩ := hbd _ fd dvs kws E
        refine ⟨He.ga K s.nm, He.glo_ok X G hb3, ?_, s.sh es, en.f, en.adr K, fd, en.ps, _, _, sh_at f hs, hfn, ff, .inl ⟨b, hk, hb4.symm, kb, fill⟩⟩
        rw [← hb4]
        exact E.D.kp
      | ctor c b =>
        rw [hk] at hb4 hbd
        obtain ⟨c1, c2⟩ := and_ hb4
        obtain ⟨c2, c3⟩ := and_ c2
        have c1 := of_decide_eq_true c1
        have c3 := of_decide_eq_true c3
        have mk := He.mkr_ok c2
        obtain ⟨its, mv, kb⟩ := hbd _ fd dvs kws E
        have ecl : (lkOf T K).cl c = He.ga K s.nm := by
          show He.ga K (T.cn.getD c "") = _
          rw [List.getD_eq_getElem?_getD, c1]
          rfl
        refine ⟨He.ga K s.nm, He.glo_ok X G hb3, mk.kp, s.sh es, en.f, en.adr K, fd, en.ps, _, _, sh_at f hs, hfn, ff, .inr ⟨c, b, fun vs zs => pick (vs ++ zs) dvs (kws.map (·.2)) s.src, hk, ecl, by rw [c3]; exact mk, kb, fun p vs zs => ?_, fill⟩⟩
        show (match ((V.ref p :: vs) ++ zs)[0]? with
          | some x => x :: pick ((V.ref p :: vs) ++ zs) dvs (kws.map (fun (z : Str × V) => z.2)) (s.src.map shift)
          | none => pick ((V.ref p :: vs) ++ zs) dvs (kws.map (fun (z : Str × V) => z.2)) (s.src.map shift)) = _
        rw [List.cons_append, List.getElem?_cons_zero]
        show V.ref p :: pick (V.ref p :: (vs ++ zs)) dvs (kws.map (fun (z : Str × V) => z.2)) (s.src.map shift) = _
        rw [pick_shift]
  · obtain ⟨s, hs, e1⟩ := sn_at f e
    obtain ⟨a1, a2, a3, a4⟩ : SK.meth c = s.sk ∧ m = s.nm ∧ n = s.n ∧ ks = s.ks := by
      injection e1 with a e1
      injection e1 with b e1
      injection e1 with c d
      exact ⟨a, b, c, d⟩
    subst a2 a3 a4
    have hb := List.all_eq_true.mp t.sh s (List.mem_of_getElem? hs)
    unfold ShE.okB at hb
    cases he : es[s.fn]? with
    | none =>
      rw [he] at hb
      cases hb
    | some en =>
      rw [he] at hb
      obtain ⟨hb1, hb2⟩ := and_ hb
      rw [← a1] at hb2
      obtain ⟨hb3, hb4⟩ := and_ hb2
      obtain ⟨hb4, hb5⟩ := and_ hb4
      obtain ⟨hb5, hb6⟩ := and_ hb5
      have hb6 := of_decide_eq_true hb6
      obtain ⟨fd, dvs, kws, E⟩ := t.ent he
      have hbd := bindAll_get f.bd hs
      unfold ShE.bind at hbd
      rw [he] at hbd
      dsimp only at hbd
      have hfn : P.fns[s.fn]? = some en.f := by
        rw [f.fns, List.getElem?_map, he]
        rfl
      have fill := fillOk_of (T := T) (K := K) he hb1 E
      have ff := fact_of f he E
      cases hk : en.f.kind with
      | fn b =>
        rw [hk] at hbd
        obtain ⟨its, mv, kb⟩ := hbd _ fd dvs kws E
        exact ⟨He.cls_ok hb3, He.ma K (He.ga K (T.cn.getD c "")) s.nm, He.meth_ok hb4, s.sh es, en.f, en.adr K, fd, en.ps, _, _, sh_at f hs, hfn, ff, .inl ⟨b, hk, hb6.symm, kb, fill⟩⟩
      | ctor _ _ =>
        rw [hk] at hb5
        cases hb5
  · obtain ⟨s, hs, e1⟩ := sn_at f e
    obtain ⟨a1, a2, a3, a4⟩ : SK.prop c = s.sk ∧ m = s.nm ∧ 1 = s.n ∧ [] = s.ks := by
      injection e1 with a e1
      injection e1 with b e1
      injection e1 with c d
      exact ⟨a, b, c, d⟩
    subst a2
    have hb := List.all_eq_true.mp t.sh s (List.mem_of_getElem? hs)
    unfold ShE.okB at hb
    cases he : es[s.fn]? with
    | none =>
      rw [he] at hb
      cases hb
    | some en =>
      rw [he] at hb
      obtain ⟨hb1, hb2⟩ := and_ hb
      rw [← a1] at hb2
      obtain ⟨hb3, hb4⟩ := and_ hb2
      obtain ⟨hb4, hb5⟩ := and_ hb4
      obtain ⟨hb5, hb6⟩ := and_ hb5
      obtain ⟨hb6, hb7⟩ := and_ hb6
      obtain ⟨fd, dvs, kws, E⟩ := t.ent he
      have hbd := bindAll_get f.bd hs
      unfold ShE.bind at hbd
      rw [he] at hbd
      dsimp only at hbd
      have hfn : P.fns[s.fn]? = some en.f := by
        rw [f.fns, List.getElem?_map, he]
        rfl
      have ff := fact_of f he E
      obtain ⟨p, hp⟩ := propB_ok hb4
      cases hk : en.f.kind with
      | fn b =>
        rw [hk, ← a3, ← a4] at hbd
        obtain ⟨its, mv, kb⟩ := hbd _ fd dvs kws E
        split at hb7
        · rename_i hsrc
          rw [hsrc] at kb
          have hshn : (s.sh es).n = 1 := by
            show s.n + s.ks.length = 1
            rw [← a3, ← a4]
            rfl
          have hsel : (s.sh es).sel = [.a 0] := by
            show (match es[s.fn]? with
              | some e => s.src.map (toSel e)
              | none => []) = _
            rw [he, hsrc]
            rfl
          refine ⟨s.sh es, en.f, p, en.adr K, fd, en.ps, b, sh_at f hs, hfn, hk, ff, He.cls_ok hb3, hp, fun z us hz hl => ?_, hshn, hsel⟩
          have h1 := kb.to z us [] hz
          have hp1 := of_decide_eq_true hb6
          rw [List.append_nil] at hl ⊢
          rw [hp1] at hl
          match us, hl with
          | [u], _ => exact h1 rfl rfl
        · cases hb7
      | ctor _ _ =>
        rw [hk] at hb5
        cases hb5
end
end MV

set_option maxRecDepth 100000
set_option maxHeartbeats 1000000
/-! VS: the end. -/
namespace MV
open PySem PySem.Spec PyProof.Rows L2
/-! ### the Hook -/
/-- what an object names, as far as the end looks -/
def refsM (o : Obj) : List Addr := match o.data with
  | .seq its _ => its.toList.flatMap He.refV
  | .dict es _ => es.toList.flatMap fun e => He.refV e.val
  | .func fd => He.refV fd.code ++ (He.refV fd.defaults ++ He.refV fd.kwdefaults)
  | .cls cd => [cd.ns]
  | .fields vs => (match o.cls with
    | .type c => (match decide (c = "property") with
      | true => vs.toList.flatMap He.refV
      | false => [])
    | _ => [])
  | _ => []
def levM (g : Addr → Option Obj) : Nat → List Addr → List Addr
  | 0, as => as
  | n + 1, as => as ++ levM g n (as.flatMap fun a => match g a with
    | some o => refsM o
    | none => [])
def asM (g : Addr → Option Obj) (n : Nat) : List Addr := levM g n [mainGlobals]
abbrev AlM : Type := Bool × List FnW
def obsM (T : Tx) (P : Prog) (es : List FnE) (ss : List ShE) (K : PySem.W.Frag) : AlM := (statB T P K && (es.all (·.okB (lkOf T K)) && ss.all (·.okB T K es)), es.map fun e => e.ob K)
def valM (es : List FnE) : AlM := (true, es.map FnE.val)
def obsMG (n : Nat) (T : Tx) (P : Prog) (es : List FnE) (ss : List ShE) (g : Addr → Option Obj) : AlM := obsM T P es ss (He.frG g (asM g n))
def hookM (n : Nat) (T : Tx) (P : Prog) (es : List FnE) (ss : List ShE) : PySem.W.Hook where
  α := AlM
  obs := fun s => obsMG n T P es ss s.heap.get?
  val := fun _ => valM es
  says := fun _ h => ∃ K : PySem.W.Frag, K.In h ∧ obsM T P es ss K = valM es
  of := fun _ _ e => ⟨_, He.frG_in, e⟩
  keeps := fun _ _ _ ⟨K, hK, c⟩ k => ⟨K, PySem.W.Frag.In.keeps hK k, c⟩
theorem obsMG_eq {n : Nat} {T : Tx} {P : Prog} {es : List FnE} {ss : List ShE} {g : Addr → Option Obj} {s : Shared} (h : ∀ a, g a = s.heap.get? a) : obsMG n T P es ss g = (hookM n T P es ss).obs s := by
  have e : g = s.heap.get? := funext h
  rw [e] <;> rfl
theorem told_of {T : Tx} {P : Prog} {es : List FnE} {ss : List ShE} {K : PySem.W.Frag} (c : obsM T P es ss K = valM es) : Told T P es ss K := by
  have h1 : (statB T P K && (es.all (·.okB (lkOf T K)) && ss.all (·.okB T K es))) = true := congrArg (fun z : AlM => z.1) c
  have h2 : (es.map fun e => e.ob K) = es.map FnE.val := congrArg (fun z : AlM => z.2) c
  obtain ⟨a1, a2⟩ := and_ h1
  obtain ⟨a2, a3⟩ := and_ a2
  exact ⟨a1, h2, a2, a3⟩
/-! ### the end of a law -/
theorem walk_ofW {l : PySem.W.OpenLaw} {n k : Nat} {q : Program} {loose : List Str} {XP : (Str → Option Value) → Heap → Prop} {YP : World → Heap → Prop} {d : DefRec} {CX : World → CXT} {x : Str}
    (hn : l.most = some n) (hn2 : n ≤ sizeLine) (hdf : d.params.defaults = []) (hr : Room k callerA)
    (F : ∀ (w : World) (mg : Str → Option Value) (fa : Addr) (h : Heap), YP w h → h.Ns mainGlobals mg → mg d.name = some (.ref fa) →
      ∃ (K : PySem.W.Frag) (fd : FuncData) (sp : Sp), K.In h ∧ (∀ (s : Shared) (u : Value), BindsTo s fd ⟨[u], []⟩ [(x, u)]) ∧
        (∀ (H : Hp) (a : Addr) (ns : List Int), ns.length ≤ n → Only H → SqL K H a (ns.map V.int) → sp [.ref a] H (fun v _ => v = .bl true) fun _ _ _ => False) ∧
        ∀ base : Heap, K.In base → base.Ns mainGlobals mg → FnOk l.prog w K mg base (CX w) k fa fd [x] sp)
    (hCX : ∀ (w : World) (H : Hp) (s : Shared) (e : Value) (s' : Shared), CX w [] H s (fun _ _ _ => False) e s' → False) :
    PySem.W.WalkO q loose XP YP l.row.toRowW d [] (fun f vs => PySem.call f vs) := by
  refine Att.attach_call hn hdf fun w s₀ s₁ mg mb fa o pm cd doc a vs ns G Y ho hd hcd hmg hobj hints hlen hg => ?_
  obtain ⟨K, fd, sp, KX, hb, hsp, hF⟩ := F w mg fa _ Y G.T.g hmg
  exact law_call KX G.T.g G.T.b G.T.builtins G.T.nolimit hg hobj hints (Nat.le_trans hlen hn2) hr hF hb (fun H hO hS => hsp H a ns hlen hO hS) fun H e s' => hCX w H s₁ e s'
theorem Rels.ofIntsB {L : Lk} {F : Fm} {φ : List Addr} {H : Hp} (ns : List Int) : Rels L F φ H (ns.map D.int) (ns.map V.int) := Rels.ofInts ns
/-- the law's def, its script lent -/
theorem law_sp {L : Lk} {P : Prog} {orc : Orc} {f : Fn} {H : Hp} {a : Addr} {ns : List Int} {h' : HH} (hS : SqL L.K H a (ns.map V.int)) (e : body P orc f [.bor (ns.map D.int)] [] = .ok (.bl true) h') :
    spB L P orc f [.ref a] H (fun v _ => v = .bl true) (fun _ _ _ => False) := by
  have fin : ∀ F : Fm, GE L F [] H (body P orc f [.bor (ns.map D.int)] []) (fun v _ => v = .bl true) (fun _ _ _ => False) := fun F => by
    rw [e]
    intro φ' H' b _ _ r
    cases r
    rfl
  rcases hS with r | ⟨o, its, n, e1, e2, e3, e4, e5, e6⟩
  · refine ⟨⟨fun b => b = a, fun b => b = a⟩, [], [], _, ⟨rfl, .nil, fun n a o q => by simp at q, fun a m => by simp at m, fun b m => ?_, fun b m => m⟩, .cons (.bor r (by simp) rfl (Rels.ofIntsB ns)) .nil, fin _⟩
    have m : b = a := m
    rw [m]
    rcases r with q | ⟨o, q⟩
    · exact ⟨_, q⟩
    · exact ⟨_, q⟩
  · exact ⟨⟨fun _ => False, fun _ => False⟩, [], [], _, ⟨rfl, .nil, fun n a o q => by simp at q, fun a m => by simp at m, fun b m => m.elim, fun b m => m⟩, .cons (.borK e1 e2 e3 e4 e5 e6 (Rels.ofIntsB ns)) .nil, fin _⟩
/-- what walk_ofW asks -/
theorem law_F {T : Tx} {P : Prog} {es : List FnE} {ss : List ShE} {K : PySem.W.Frag} {pg : Program} {w : World} {mg : Str → Option Value} {fa : Addr} {h : Heap} {x lw : Str} {e : FnE} {il m n : Nat}
    (fit : Fits T P es ss) (t : Told T P es ss K) (X : K.In h) (G : h.Ns mainGlobals mg) (hmg : mg lw = some (.ref fa)) (hsl : (⟨.glob, lw, 1, [], il, [.a 0]⟩ : ShE) ∈ ss) (he : es[il]? = some e) (hk : isFnK e.f.kind = true) (hd : e.dfl = []) (hp : e.ps = [x])
    (hb : ∀ (kV doc pm : Value) (an : Option Addr) (cdv ct : Value) (u : Value), bindArgs (PySem.W.fnOf e.name e.qual e.params e.bd e.scope .none kV doc pm an cdv ct) ⟨[u], []⟩ = pure [(x, u)])
    (main : ∀ ns : List Int, ns.length ≤ n → ∃ h', body P (callN P m) e.f [.bor (ns.map D.int)] [] = .ok (.bl true) h') :
    ∃ (fd : FuncData) (sp : Sp), (∀ (s : Shared) (u : Value), BindsTo s fd ⟨[u], []⟩ [(x, u)]) ∧
      (∀ (H : Hp) (a : Addr) (ns : List Int), ns.length ≤ n → Only H → SqL K H a (ns.map V.int) → sp [.ref a] H (fun v _ => v = .bl true) fun _ _ _ => False) ∧
      ∀ base : Heap, K.In base → base.Ns mainGlobals mg → FnOk pg w K mg base (L2.CX pg w) (2 * m + 1) fa fd [x] sp := by
  obtain ⟨fd, dvs, kws, E⟩ := t.ent he
  have hb1 := List.all_eq_true.mp t.sh _ hsl
  unfold ShE.okB at hb1
  rw [show es[(⟨.glob, lw, 1, [], il, [.a 0]⟩ : ShE).fn]? = some e from he] at hb1
  obtain ⟨_, hb2⟩ := and_ hb1
  obtain ⟨hb3, hb4⟩ := and_ hb2
  have ea : e.adr K = fa := by
    have z := (He.glo_ok X G hb3).symm.trans hmg
    cases hkk : e.f.kind with
    | fn b =>
      rw [hkk] at hb4
      rw [of_decide_eq_true hb4]
      cases z
      rfl
    | ctor _ _ =>
      rw [hkk] at hk
      cases hk
  have hdv : dvs = [] := List.length_eq_zero_iff.mp (by rw [E.dl, hd]; rfl)
  subst hdv
  refine ⟨fd, spB (lkOf T K) P (callN P m) e.f, fun s u => ?_, fun H a ns hl _ hS => ?_, fun base hB hG => ?_⟩
  · exact FunD.bindsA (ps := [x]) E.D (fun kV doc pm an cdv ct us hl => match us, hl with | [u], _ => hb kV doc pm an cdv ct u) s [u] rfl
  · obtain ⟨h', e1⟩ := main ns hl
    exact law_sp hS e1
  · have r := fnFact_ok (facts_all (pg := pg) (w := w) (base := base) (stat_ok X G t.st) (links_of fit t X G) m) (fact_of fit he E) (show P.fns[il]? = some e.f by
      rw [fit.fns, List.getElem?_map, he]
      rfl)
    rw [ea, hp] at r
    exact r
end MV

set_option maxRecDepth 100000
set_option maxHeartbeats 1000000
/-! VT: more fuel gives no other answer. -/
namespace MV
open PySem (Str Operator)
def R.le {α : Type} (a b : R α) : Prop := a = .no ∨ a = b
def RS.le (a b : RS) : Prop := a = .no ∨ a = b
theorem R.le.rfl' {α : Type} (a : R α) : a.le a := .inr rfl
theorem RS.le.rfl' (a : RS) : a.le a := .inr rfl
theorem R.le.no {α : Type} (a : R α) : R.le .no a := .inl rfl
theorem bind_le {α β : Type} {r r' : R α} {f f' : α → HH → R β} (h : r.le r') (hf : ∀ a h, (f a h).le (f' a h)) : (r.bind f).le (r'.bind f') := by
  rcases h with h | h
  · subst h
    exact .inl rfl
  · subst h
    cases r with
    | ok a h => exact hf a h
    | exc _ _ _ _ => exact .inr rfl
    | no => exact .inl rfl
theorem pur_le {α : Type} {r r' : R α} (h : r.le r') : r.pur.le r'.pur := by
  rcases h with h | h
  · subst h
    exact .inl rfl
  · subst h
    exact .inr rfl
theorem st_le {α : Type} {r r' : R α} {ρ : Env} {f f' : α → HH → RS} (h : r.le r') (hf : ∀ a h, (f a h).le (f' a h)) : (r.st ρ f).le (r'.st ρ f') := by
  rcases h with h | h
  · subst h
    exact .inl rfl
  · subst h
    cases r with
    | ok a h => exact hf a h
    | exc _ _ _ _ => exact .inr rfl
    | no => exact .inl rfl
theorem compL_le {f f' : D → HH → R (Option D)} (hf : ∀ d h, (f d h).le (f' d h)) : ∀ (l : List D) (h : HH), (compL f l h).le (compL f' l h)
  | [], h => .inr rfl
  | x :: r, h => bind_le (hf x h) fun o h1 => bind_le (compL_le hf r h1) fun _ _ => .inr rfl
theorem compLive_le {f f' : D → HH → R (Option D)} (hf : ∀ d h, (f d h).le (f' d h)) (n : Nat) : ∀ (k i : Nat) (h : HH), (compLive f n k i h).le (compLive f' n k i h)
  | 0, i, h => .inr rfl
  | k + 1, i, h => by
    unfold compLive
    split
    · split
      · exact bind_le (hf _ _) fun o h1 => bind_le (compLive_le hf n k _ h1) fun _ _ => .inr rfl
      · exact .inr rfl
    · exact .inr rfl
theorem compI_le {f f' : D → HH → R (Option D)} (hf : ∀ d h, (f d h).le (f' d h)) (I : Itr) (h : HH) : (compI f I h).le (compI f' I h) := by
  cases I with
  | items l => exact compL_le hf l h
  | live n => exact compLive_le hf n _ _ h
def OrcLe (o o' : Orc) : Prop := ∀ k ds h, (o k ds h).le (o' k ds h)
theorem callJ_le {P : Prog} {o o' : Orc} (ho : OrcLe o o') (ad : Bool) (j : Nat) (ds : List D) (h : HH) : (callJ P o ad j ds h).le (callJ P o' ad j ds h) := by
  unfold callJ
  split
  · split
    · exact bind_le (ho _ _ _) fun _ _ => .inr rfl
    · exact .inr rfl
  · exact .inr rfl
structure Sm.le (a b : Sm) : Prop where
  ev : ∀ ρ h, (a.ev ρ h).le (b.ev ρ h)
  es : ∀ ρ h, (a.es ρ h).le (b.es ρ h)
  ts : ∀ ρ h, (a.ts ρ h).le (b.ts ρ h)
  tl : ∀ ρ h, (a.tl ρ h).le (b.tl ρ h)
  it : ∀ ρ h, (a.it ρ h).le (b.it ρ h)
  tg : ∀ d ρ h, (a.tg d ρ h).le (b.tg d ρ h)
  tgs : ∀ d ρ h, (a.tgs d ρ h).le (b.tgs d ρ h)
theorem of_le {f f' : Env → HH → R D} (hf : ∀ ρ h, (f ρ h).le (f' ρ h)) : (Sm.of f).le (Sm.of f') :=
  ⟨hf, fun _ _ => .inr rfl, fun ρ h => bind_le (hf ρ h) fun _ _ => .inr rfl, fun _ _ => .inr rfl, fun _ _ => .inr rfl, fun _ _ _ => .inr rfl, fun _ _ _ => .inr rfl⟩
theorem tw_le {f f' : Env → HH → R D} {g g' : Env → HH → R Bool} (hf : ∀ ρ h, (f ρ h).le (f' ρ h)) (hg : ∀ ρ h, (g ρ h).le (g' ρ h)) : (Sm.tw f g).le (Sm.tw f' g') :=
  ⟨hf, fun _ _ => .inr rfl, hg, fun _ _ => .inr rfl, fun _ _ => .inr rfl, fun _ _ _ => .inr rfl, fun _ _ _ => .inr rfl⟩
theorem li_le {f f' : Env → HH → R (List D)} {g g' : Env → HH → R Bool} {t t' : List D → Env → HH → R Env} (hf : ∀ ρ h, (f ρ h).le (f' ρ h)) (hg : ∀ ρ h, (g ρ h).le (g' ρ h)) (ht : ∀ d ρ h, (t d ρ h).le (t' d ρ h)) : (Sm.li f g t).le (Sm.li f' g' t') :=
  ⟨fun _ _ => .inr rfl, hf, fun _ _ => .inr rfl, hg, fun _ _ => .inr rfl, fun _ _ _ => .inr rfl, ht⟩
theorem itr_le {f f' : Env → HH → R Itr} (hf : ∀ ρ h, (f ρ h).le (f' ρ h)) : (Sm.itr f).le (Sm.itr f') :=
  ⟨fun _ _ => .inr rfl, fun _ _ => .inr rfl, fun _ _ => .inr rfl, fun _ _ => .inr rfl, hf, fun _ _ _ => .inr rfl, fun _ _ _ => .inr rfl⟩
theorem tar_le {f f' : D → Env → HH → R Env} (hf : ∀ d ρ h, (f d ρ h).le (f' d ρ h)) : (Sm.tar f).le (Sm.tar f') :=
  ⟨fun _ _ => .inr rfl, fun _ _ => .inr rfl, fun _ _ => .inr rfl, fun _ _ => .inr rfl, fun _ _ => .inr rfl, hf, fun _ _ _ => .inr rfl⟩
theorem sem_le {P : Prog} {o o' : Orc} (ho : OrcLe o o') : ∀ e : E, (sem P o e).le (sem P o' e)
  | .v i => of_le fun _ _ => .inr rfl
  | .c d => of_le fun _ _ => .inr rfl
  | .g k => of_le fun _ _ => .inr rfl
  | .bin op m a b => of_le fun ρ h => bind_le ((sem_le ho a).ev ρ h) fun x h1 => bind_le ((sem_le ho b).ev ρ h1) fun _ _ => .inr rfl
  | .neg a => of_le fun ρ h => bind_le ((sem_le ho a).ev ρ h) fun x h1 => .inr rfl
  | .cmp op a b => tw_le (fun ρ h => bind_le ((sem_le ho a).ev ρ h) fun x h1 => bind_le ((sem_le ho b).ev ρ h1) fun _ _ => .inr rfl) fun ρ h => bind_le ((sem_le ho a).ev ρ h) fun x h1 => bind_le ((sem_le ho b).ev ρ h1) fun _ _ => .inr rfl
  | .chain q p a b d => tw_le (fun ρ h => bind_le ((sem_le ho a).ev ρ h) fun x h1 => bind_le ((sem_le ho b).ev ρ h1) fun y h2 => by
      split
      · exact bind_le ((sem_le ho d).ev ρ h2) fun _ _ => .inr rfl
      · exact .inr rfl
      · exact .inr rfl) fun ρ h => bind_le ((sem_le ho a).ev ρ h) fun x h1 => bind_le ((sem_le ho b).ev ρ h1) fun y h2 => by
      split
      · exact bind_le ((sem_le ho d).ev ρ h2) fun _ _ => .inr rfl
      · exact .inr rfl
      · exact .inr rfl
  | .band a b => tw_le (fun ρ h => bind_le ((sem_le ho a).ev ρ h) fun x h1 => by
      split
      · exact (sem_le ho b).ev ρ h1
      · exact .inr rfl
      · exact .inr rfl) fun ρ h => bind_le ((sem_le ho a).ts ρ h) fun x h1 => by
      split
      · exact (sem_le ho b).ts ρ h1
      · exact .inr rfl
  | .bor a b => tw_le (fun ρ h => bind_le ((sem_le ho a).ev ρ h) fun x h1 => by
      split
      · exact .inr rfl
      · exact (sem_le ho b).ev ρ h1
      · exact .inr rfl) fun ρ h => bind_le ((sem_le ho a).ts ρ h) fun x h1 => by
      split
      · exact .inr rfl
      · exact (sem_le ho b).ts ρ h1
  | .b1 a => tw_le (fun ρ h => (sem_le ho a).ev ρ h) fun ρ h => (sem_le ho a).ts ρ h
  | .bnot a => tw_le (fun ρ h => bind_le ((sem_le ho a).ev ρ h) fun x h1 => .inr rfl) fun ρ h => bind_le ((sem_le ho a).ts ρ h) fun x h1 => .inr rfl
  | .ife t a b => tw_le (fun ρ h => bind_le ((sem_le ho t).ts ρ h) fun k h1 => by
      split
      · exact (sem_le ho a).ev ρ h1
      · exact (sem_le ho b).ev ρ h1) fun _ _ => .inr rfl
  | .tup es => of_le fun ρ h => bind_le ((sem_le ho es).es ρ h) fun _ _ => .inr rfl
  | .lst m es => of_le fun ρ h => bind_le ((sem_le ho es).es ρ h) fun _ _ => .inr rfl
  | .dct => of_le fun ρ h => .inr rfl
  | .ix a i => of_le fun ρ h => bind_le ((sem_le ho a).ev ρ h) fun x h1 => bind_le ((sem_le ho i).ev ρ h1) fun _ _ => .inr rfl
  | .sl m a lo hi => of_le fun ρ h => bind_le ((sem_le ho a).ev ρ h) fun x h1 => bind_le ((sem_le ho lo).ev ρ h1) fun l h2 => by
      split
      · exact bind_le ((sem_le ho hi).ev ρ h2) fun _ _ => .inr rfl
      · exact .inr rfl
  | .rev m a => of_le fun ρ h => bind_le ((sem_le ho a).ev ρ h) fun x h1 => .inr rfl
  | .call ad j es => of_le fun ρ h => bind_le ((sem_le ho es).es ρ h) fun ds h1 => callJ_le ho ad j ds h1
  | .callk ad j es ks => of_le fun ρ h => bind_le ((sem_le ho es).es ρ h) fun ds h1 => bind_le ((sem_le ho ks).es ρ h1) fun es h2 => callJ_le ho ad j _ h2
  | .meth ad mi q alts es => of_le fun ρ h => bind_le ((sem_le ho q).ev ρ h) fun x h1 => by
      split
      · exact bind_le ((sem_le ho es).es ρ h1) fun ds h2 => callJ_le ho ad _ _ h2
      · exact .inr rfl
  | .att q k alts => of_le fun ρ h => bind_le ((sem_le ho q).ev ρ h) fun x h1 => by
      split
      · exact pur_le (callJ_le ho false _ _ h1)
      · exact .inr rfl
  | .blt m b es => of_le fun ρ h => bind_le ((sem_le ho es).es ρ h) fun _ _ => .inr rfl
  | .isi x ts => of_le fun ρ h => bind_le ((sem_le ho x).ev ρ h) fun _ _ => .inr rfl
  | .bm b q es => of_le fun ρ h => bind_le ((sem_le ho q).ev ρ h) fun x h1 => by
      split
      · exact bind_le ((sem_le ho es).es ρ h1) fun _ _ => .inr rfl
      · exact .inr rfl
  | .comp m own tg it ifs el => of_le fun ρ h => bind_le ((sem_le ho it).it ρ h) fun I h1 => bind_le (pur_le (compI_le (fun x h2 => bind_le ((sem_le ho tg).tg x _ h2) fun ρ2 h3 => bind_le ((sem_le ho ifs).tl ρ2 h3) fun k h4 => by
      split
      · exact bind_le ((sem_le ho el).ev ρ2 h4) fun _ _ => .inr rfl
      · exact .inr rfl) I h1)) fun _ _ => .inr rfl
  | .comp2 _ _ _ _ _ _ _ _ => of_le fun _ _ => .inr rfl
  | .nil => li_le (fun _ _ => .inr rfl) (fun _ _ => .inr rfl) fun _ _ _ => .inr rfl
  | .cons e es => li_le (fun ρ h => bind_le ((sem_le ho e).ev ρ h) fun d h1 => bind_le ((sem_le ho es).es ρ h1) fun _ _ => .inr rfl) (fun ρ h => (sem_le ho e).ts ρ h) fun ds ρ h => by
      split
      · exact bind_le ((sem_le ho e).tg _ ρ h) fun ρ1 h1 => (sem_le ho es).tgs _ ρ1 h1
      · exact .inr rfl
  | .star e es => li_le (fun ρ h => bind_le ((sem_le ho e).ev ρ h) fun d h1 => by
      split
      · exact bind_le ((sem_le ho es).es ρ h1) fun _ _ => .inr rfl
      · exact .inr rfl) (fun _ _ => .inr rfl) fun _ _ _ => .inr rfl
  | .i_e e => itr_le fun ρ h => bind_le ((sem_le ho e).ev ρ h) fun _ _ => .inr rfl
  | .i_r1 a => itr_le fun ρ h => bind_le ((sem_le ho a).ev ρ h) fun _ _ => .inr rfl
  | .i_r2 a b => itr_le fun ρ h => bind_le ((sem_le ho a).ev ρ h) fun x h1 => bind_le ((sem_le ho b).ev ρ h1) fun _ _ => .inr rfl
  | .i_en a => itr_le fun ρ h => bind_le ((sem_le ho a).ev ρ h) fun _ _ => .inr rfl
  | .i_zip a b => itr_le fun ρ h => bind_le ((sem_le ho a).ev ρ h) fun x h1 => bind_le ((sem_le ho b).ev ρ h1) fun _ _ => .inr rfl
  | .t_n i => tar_le fun _ _ _ => .inr rfl
  | .t_t ts => tar_le fun d ρ h => by
      split
      · exact (sem_le ho ts).tgs _ ρ h
      · exact .inr rfl
  | .t_s q i => tar_le fun d ρ h => bind_le ((sem_le ho q).ev ρ h) fun x h1 => bind_le ((sem_le ho i).ev ρ h1) fun _ _ => .inr rfl
  | .t_a q k => tar_le fun d ρ h => bind_le ((sem_le ho q).ev ρ h) fun _ _ => .inr rfl
theorem loopL_le {f f' : D → Env → HH → RS} (hf : ∀ d ρ h, (f d ρ h).le (f' d ρ h)) : ∀ (l : List D) (ρ : Env) (h : HH), (loopL f l ρ h).le (loopL f' l ρ h)
  | [], _, _ => .inr rfl
  | x :: r, ρ, h => by
    unfold loopL
    rcases hf x ρ h with e | e
    · rw [e]
      exact .inl rfl
    · rw [e]
      split
      · exact loopL_le hf r _ _
      · exact loopL_le hf r _ _
      · exact .inr rfl
      · exact .inr rfl
theorem loopLive_le {f f' : D → Env → HH → RS} (hf : ∀ d ρ h, (f d ρ h).le (f' d ρ h)) (n : Nat) : ∀ (k i : Nat) (ρ : Env) (h : HH), (loopLive f n k i ρ h).le (loopLive f' n k i ρ h)
  | 0, _, _, _ => .inr rfl
  | k + 1, i, ρ, h => by
    unfold loopLive
    split
    · split
      · rename_i x _
        rcases hf x ρ h with e | e
        · rw [e]
          exact .inl rfl
        · rw [e]
          split
          · exact loopLive_le hf n k _ _ _
          · exact loopLive_le hf n k _ _ _
          · exact .inr rfl
          · exact .inr rfl
      · exact .inr rfl
    · exact .inr rfl
theorem loopI_le {f f' : D → Env → HH → RS} (hf : ∀ d ρ h, (f d ρ h).le (f' d ρ h)) (I : Itr) (ρ : Env) (h : HH) : (loopI f I ρ h).le (loopI f' I ρ h) := by
  cases I with
  | items l => exact loopL_le hf l ρ h
  | live n => exact loopLive_le hf n _ _ ρ h
theorem whileL_le {c c' : Env → HH → R Bool} {f f' : Env → HH → RS} (hc : ∀ ρ h, (c ρ h).le (c' ρ h)) (hf : ∀ ρ h, (f ρ h).le (f' ρ h)) : ∀ (k : Nat) (ρ : Env) (h : HH), (whileL c f k ρ h).le (whileL c' f' k ρ h)
  | 0, _, _ => .inr rfl
  | k + 1, ρ, h => st_le (hc ρ h) fun b h1 => by
    cases b with
    | false => exact .inr rfl
    | true =>
      dsimp only
      rcases hf ρ h1 with e | e
      · rw [e]
        exact .inl rfl
      · rw [e]
        split
        · exact whileL_le hc hf k _ _
        · exact whileL_le hc hf k _ _
        · exact .inr rfl
        · exact .inr rfl
theorem run_le {P : Prog} {o o' : Orc} (ho : OrcLe o o') : ∀ (s : S) (ρ : Env) (h : HH), (run P o s ρ h).le (run P o' s ρ h)
  | .skip, _, _ => .inr rfl
  | .pass, _, _ => .inr rfl
  | .seq s t, ρ, h => by
    unfold run
    rcases run_le ho s ρ h with e | e
    · rw [e]
      exact .inl rfl
    · rw [e]
      split
      · exact run_le ho t _ _
      · exact .inr rfl
  | .ex e, ρ, h => st_le ((sem_le ho e).ev ρ h) fun _ _ => .inr rfl
  | .asg t e, ρ, h => st_le ((sem_le ho e).ev ρ h) fun d h1 => st_le (pur_le ((sem_le ho t).tg d ρ h1)) fun _ _ => .inr rfl
  | .par ns es, ρ, h => st_le ((sem_le ho es).es ρ h) fun _ _ => .inr rfl
  | .aug i op e, ρ, h => by
    unfold run
    split
    · exact st_le ((sem_le ho e).ev ρ h) fun _ _ => .inr rfl
    · exact .inr rfl
  | .ite c s t, ρ, h => st_le ((sem_le ho c).ts ρ h) fun k h1 => by
    cases k with
    | true => exact run_le ho s ρ h1
    | false => exact run_le ho t ρ h1
  | .loop t it b, ρ, h => st_le ((sem_le ho it).it ρ h) fun I h1 => loopI_le (fun x ρ1 h2 => st_le (pur_le ((sem_le ho t).tg x ρ1 h2)) fun ρ2 h3 => run_le ho b ρ2 h3) I ρ h1
  | .whil c b, ρ, h => whileL_le (fun ρ h => (sem_le ho c).ts ρ h) (fun ρ h => run_le ho b ρ h) fuel ρ h
  | .ret e, ρ, h => st_le ((sem_le ho e).ev ρ h) fun _ _ => .inr rfl
  | .retN, _, _ => .inr rfl
  | .brk, _, _ => .inr rfl
  | .cnt, _, _ => .inr rfl
  | .rais _ _, _, _ => .inr rfl
theorem body_le {P : Prog} {o o' : Orc} (ho : OrcLe o o') (f : Fn) (ds : List D) (h : HH) : (body P o f ds h).le (body P o' f ds h) := by
  unfold body
  split
  · rcases run_le ho f.body (startE f.nl ds) h with e | e
    · rw [e]
      exact .inl rfl
    · rw [e]
      exact .inr rfl
  · exact .inr rfl
theorem pureRun_le {P : Prog} {o o' : Orc} (ho : OrcLe o o') (f : Fn) (ds : List D) (h : HH) : (pureRun P o f ds h).le (pureRun P o' f ds h) := by
  unfold pureRun
  split
  · rename_i es _
    rcases body_le ho f es [] with e | e
    · rw [e]
      exact .inl rfl
    · rw [e]
      exact .inr rfl
  · exact .inr rfl
theorem makeRun_le {P : Prog} {o o' : Orc} (ho : OrcLe o o') (c : Nat) (f : Fn) (ds : List D) (h : HH) : (makeRun P o c f ds h).le (makeRun P o' c f ds h) := by
  unfold makeRun
  split
  · rename_i es _
    rcases body_le ho f (.ref 0 :: es) [.ins c [] []] with e | e
    · rw [e]
      exact .inl rfl
    · rw [e]
      exact .inr rfl
  · exact .inr rfl
theorem callN_le (P : Prog) : ∀ n : Nat, OrcLe (callN P n) (callN P (n + 1))
  | 0 => fun _ _ _ => .inl rfl
  | n + 1 => fun k ds h => by
    have ih := callN_le P n
    unfold callN
    split
    · exact .inr rfl
    · split
      · exact pureRun_le ih _ _ _
      · exact bind_le (body_le ih _ _ _) fun _ _ => .inr rfl
      · exact makeRun_le ih _ _ _ _
      · exact bind_le (body_le ih _ _ _) fun _ _ => .inr rfl
theorem callN_mono {P : Prog} {n m k : Nat} {ds : List D} {h : HH} {r : R Ret} (hn : n ≤ m) (e : callN P n k ds h = r) (hr : r ≠ .no) : callN P m k ds h = r := by
  induction hn with
  | refl => exact e
  | step _ ih =>
    rcases callN_le P _ k ds h with z | z
    · rw [ih] at z
      exact absurd z hr
    · rw [← z]
      exact ih
end MV

set_option maxRecDepth 100000
set_option maxHeartbeats 1000000
/-! VU: rules for reading runs by simp. -/
namespace MV
open PySem (Str Operator)
/-- by a truth value -/
abbrev Dp {α : Sort _} (_ : α) (β : Type) : Type := β
def R.bd {α β : Type} (r : R α) (f : α → HH → R β) : Dp f (R β) := R.bind r f
def R.su {α : Type} (r : R α) (ρ : Env) (f : α → HH → RS) : Dp f RS := R.st r ρ f
def cs {α : Type} (k : Bool) (a b : α) : Dp a (Dp b α) := match k with
  | true => a
  | false => b
@[simp, simp ↓] theorem cs_t {α : Type} {a b : α} : cs true a b = a := (rfl)
@[simp, simp ↓] theorem cs_f {α : Type} {a b : α} : cs false a b = b := (rfl)
/-- one after the other -/
def RS.sq (r : RS) (f : Env → HH → RS) : Dp f RS := match r with
  | .nx ρ h => f ρ h
  | z => z
/-- a turn, then the others -/
def RS.tn (r : RS) (f : Env → HH → RS) : Dp f RS := match r with
  | .nx ρ h => f ρ h
  | .ct ρ h => f ρ h
  | .bk ρ h => .nx ρ h
  | z => z
def oc {α β : Type} (x : Option α) (f : α → β) (b : β) : Dp f (Dp b β) := match x with
  | some a => f a
  | none => b
@[simp, simp ↓] theorem oc_s {α β : Type} {a : α} {f : α → β} {b : β} : oc (some a) f b = f a := (rfl)
@[simp, simp ↓] theorem oc_n {α β : Type} {f : α → β} {b : β} : oc none f b = b := (rfl)
theorem oc_eq {α β : Type} (x : Option α) (f : α → β) (b : β) : oc x f b = (match x with
    | some a => f a
    | none => b) := by cases x <;> rfl
/-- a slot's value -/
def eg : Env → Nat → Option D
  | x :: _, 0 => x
  | _ :: r, n + 1 => eg r n
  | [], _ => none
@[simp] theorem eg_0 {x : Option D} {r : Env} : eg (x :: r) 0 = x := (rfl)
@[simp] theorem eg_s {x : Option D} {r : Env} {n : Nat} : eg (x :: r) (n + 1) = eg r n := (rfl)
theorem eg_eq : ∀ (ρ : Env) (i : Nat), eg ρ i = match ρ[i]? with
    | some (some d) => some d
    | _ => none
  | [], i => by cases i <;> rfl
  | x :: r, 0 => by cases x <;> rfl
  | x :: r, n + 1 => by
    rw [eg_s, eg_eq r n, List.getElem?_cons_succ]
/-- by the list at an own place -/
def ol {β : Type} (x : Option O) (f : List D → β) (b : β) : Dp f (Dp b β) := match x with
  | some (.lst l) => f l
  | _ => b
@[simp, simp ↓] theorem ol_s {β : Type} {l : List D} {f : List D → β} {b : β} : ol (some (.lst l)) f b = f l := (rfl)
theorem ol_eq {β : Type} (x : Option O) (f : List D → β) (b : β) : ol x f b = (match x with
    | some (.lst l) => f l
    | _ => b) := by
  cases x with
  | none => rfl
  | some y => cases y <;> rfl
section
variable {α β : Type} {P : Prog} {o : Orc} {ρ : Env} {h : HH}
@[simp, simp ↓] theorem sq_nx {f : Env → HH → RS} : (RS.nx ρ h).sq f = f ρ h := (rfl)
@[simp, simp ↓] theorem sq_rt {d : D} {f : Env → HH → RS} : (RS.rt d h).sq f = .rt d h := (rfl)
@[simp, simp ↓] theorem sq_bk {f : Env → HH → RS} : (RS.bk ρ h).sq f = .bk ρ h := (rfl)
@[simp, simp ↓] theorem sq_ct {f : Env → HH → RS} : (RS.ct ρ h).sq f = .ct ρ h := (rfl)
@[simp, simp ↓] theorem sq_no {f : Env → HH → RS} : RS.no.sq f = .no := (rfl)
@[simp, simp ↓] theorem tn_nx {f : Env → HH → RS} : (RS.nx ρ h).tn f = f ρ h := (rfl)
@[simp, simp ↓] theorem tn_rt {d : D} {f : Env → HH → RS} : (RS.rt d h).tn f = .rt d h := (rfl)
@[simp, simp ↓] theorem tn_bk {f : Env → HH → RS} : (RS.bk ρ h).tn f = .nx ρ h := (rfl)
@[simp, simp ↓] theorem tn_ct {f : Env → HH → RS} : (RS.ct ρ h).tn f = f ρ h := (rfl)
@[simp, simp ↓] theorem tn_no {f : Env → HH → RS} : RS.no.tn f = .no := (rfl)
@[simp, simp ↓] theorem bind_ok' {a : α} {f : α → HH → R β} : (R.ok a h).bd f = f a h := (rfl)
@[simp, simp ↓] theorem bind_no' {f : α → HH → R β} : (R.no : R α).bd f = .no := (rfl)
@[simp, simp ↓] theorem bind_exc' {c : Nat} {ks : List Nat} {vs : List D} {f : α → HH → R β} : (R.exc c ks vs h : R α).bd f = .exc c ks vs h := (rfl)
@[simp, simp ↓] theorem st_ok' {a : α} {f : α → HH → RS} : (R.ok a h).su ρ f = f a h := (rfl)
@[simp, simp ↓] theorem st_no' {f : α → HH → RS} : (R.no : R α).su ρ f = .no := (rfl)
@[simp, simp ↓] theorem pur_ok' {a : α} : (R.ok a h).pur = .ok a h := (rfl)
@[simp, simp ↓] theorem pur_no' : (R.no : R α).pur = .no := (rfl)
@[simp, simp ↓] theorem of_some' {a : α} : R.of (some a) h = .ok a h := (rfl)
@[simp, simp ↓] theorem of_none' : R.of (none : Option α) h = .no := (rfl)
@[simp, simp ↓] theorem retD_val {ad : Bool} {d : D} : retD ad (.val d) h = .ok d h := (rfl)
@[simp, simp ↓] theorem retD_newt {l : List D} : retD true (.newl l) h = .ok (.ref h.length) (h ++ [.lst l]) := (rfl)
@[simp, simp ↓] theorem retD_newf {l : List D} : retD false (.newl l) h = .ok (.lst l) h := (rfl)
/-! statements -/
@[simp ↓] theorem r_skip : run P o .skip ρ h = .nx ρ h := (rfl)
@[simp ↓] theorem r_pass : run P o .pass ρ h = .nx ρ h := (rfl)
@[simp ↓] theorem r_seq {s t : S} : run P o (.seq s t) ρ h = (run P o s ρ h).sq fun ρ1 h1 => run P o t ρ1 h1 := (rfl)
@[simp ↓] theorem r_ex {e : E} : run P o (.ex e) ρ h = (ev P o e ρ h).su ρ fun _ h1 => .nx ρ h1 := (rfl)
@[simp ↓] theorem r_asg {t e : E} : run P o (.asg t e) ρ h = (ev P o e ρ h).su ρ fun d h1 => (asg P o t d ρ h1).pur.su ρ fun ρ1 h2 => .nx ρ1 h2 := (rfl)
@[simp ↓] theorem r_par {ns : List Nat} {es : E} : run P o (.par ns es) ρ h = (evs P o es ρ h).su ρ fun ds h1 => cs (ds.length == ns.length) (.nx (setAll ns ds ρ) h1) .no := (rfl)
@[simp ↓] theorem r_aug {i : Nat} {op : Operator} {e : E} : run P o (.aug i op e) ρ h = (match ρ[i]? with
    | some (some x) => (ev P o e ρ h).su ρ fun y h1 => (match x, y with
      | .int _, .int _ => (binD op false x y h1).su ρ fun z h2 => .nx (ρ.set i (some z)) h2
      | _, _ => .no)
    | _ => .no) := (rfl)
@[simp ↓] theorem r_ite {c : E} {s t : S} : run P o (.ite c s t) ρ h = (tst P o c ρ h).su ρ fun k h1 => cs k (run P o s ρ h1) (run P o t ρ h1) := (rfl)
/-- a loop's turn -/
def lf (P : Prog) (o : Orc) (t : E) (b : S) : D → Env → HH → RS := fun x ρ1 h2 => (asg P o t x ρ1 h2).pur.su ρ1 fun ρ2 h3 => run P o b ρ2 h3
@[simp ↓] theorem lf_ap {t : E} {b : S} {x : D} : lf P o t b x ρ h = (asg P o t x ρ h).pur.su ρ fun ρ2 h3 => run P o b ρ2 h3 := (rfl)
@[simp ↓] theorem r_loop {t it : E} {b : S} : run P o (.loop t it b) ρ h = (itm P o it ρ h).su ρ fun I h1 => loopI (lf P o t b) I ρ h1 := (rfl)
theorem r_whil {c : E} {b : S} : run P o (.whil c b) ρ h = whileL (tst P o c) (run P o b) fuel ρ h := (rfl)
@[simp ↓] theorem r_ret {e : E} : run P o (.ret e) ρ h = (ev P o e ρ h).su ρ fun d h1 => .rt d h1 := (rfl)
@[simp ↓] theorem r_retN : run P o .retN ρ h = .rt .non h := (rfl)
@[simp ↓] theorem r_brk : run P o .brk ρ h = .bk ρ h := (rfl)
@[simp ↓] theorem r_cnt : run P o .cnt ρ h = .ct ρ h := (rfl)
@[simp] theorem setAll_nil {ds : List D} : setAll [] ds ρ = ρ := (rfl)
@[simp] theorem setAll_cons {i : Nat} {is : List Nat} {d : D} {ds : List D} : setAll (i :: is) (d :: ds) ρ = setAll is ds (ρ.set i (some d)) := (rfl)
@[simp, simp ↓] theorem loopI_items {f : D → Env → HH → RS} {l : List D} : loopI f (.items l) ρ h = loopL f l ρ h := (rfl)
@[simp, simp ↓] theorem loopL_nil {f : D → Env → HH → RS} : loopL f [] ρ h = .nx ρ h := (rfl)
theorem loopL_cons {f : D → Env → HH → RS} {x : D} {r : List D} : loopL f (x :: r) ρ h = (f x ρ h).tn fun ρ1 h1 => loopL f r ρ1 h1 := (rfl)
@[simp, simp ↓] theorem compI_items {f : D → HH → R (Option D)} {l : List D} : compI f (.items l) h = compL f l h := (rfl)
@[simp, simp ↓] theorem compL_nil {f : D → HH → R (Option D)} : compL f [] h = .ok [] h := (rfl)
theorem compL_cons {f : D → HH → R (Option D)} {x : D} {r : List D} : compL f (x :: r) h = (f x h).bd fun o h1 => (compL f r h1).bd fun l h2 => .ok (oc o (· :: l) l) h2 := by
  rw [compL]
  congr; funext o h1; congr; funext l h2
  cases o <;> rfl
/-! expressions -/
@[simp ↓] theorem e_v {i : Nat} : ev P o (.v i) ρ h = R.of (eg ρ i) h := by
  show (match ρ[i]? with
    | some (some d) => R.ok d h
    | _ => .no) = _
  rw [eg_eq]
  cases ρ[i]? with
  | none => rfl
  | some x => cases x <;> rfl
@[simp ↓] theorem e_c {d : D} : ev P o (.c d) ρ h = .ok d h := (rfl)
@[simp ↓] theorem e_g {k : Nat} : ev P o (.g k) ρ h = R.of P.gl[k]? h := (rfl)
@[simp ↓] theorem e_bin {op : Operator} {m : Bool} {a b : E} : ev P o (.bin op m a b) ρ h = (ev P o a ρ h).bd fun x h1 => (ev P o b ρ h1).bd fun y h2 => binD op m x y h2 := (rfl)
@[simp ↓] theorem e_neg {a : E} : ev P o (.neg a) ρ h = (ev P o a ρ h).bd fun x h1 => match x with
    | .int i => .ok (.int (-i)) h1
    | _ => .no := (rfl)
@[simp ↓] theorem e_cmp {op : PySem.CmpOp} {a b : E} : ev P o (.cmp op a b) ρ h = (ev P o a ρ h).bd fun x h1 => (ev P o b ρ h1).bd fun y h2 => R.of ((cmpD op x y h2).map D.bl) h2 := (rfl)
@[simp ↓] theorem t_cmp {op : PySem.CmpOp} {a b : E} : tst P o (.cmp op a b) ρ h = (ev P o a ρ h).bd fun x h1 => (ev P o b ρ h1).bd fun y h2 => R.of (cmpD op x y h2) h2 := (rfl)
@[simp ↓] theorem e_chain {q p : PySem.CmpOp} {a b d : E} : ev P o (.chain q p a b d) ρ h = (ev P o a ρ h).bd fun x h1 => (ev P o b ρ h1).bd fun y h2 => oc (cmpD q x y h2) (fun k => cs k ((ev P o d ρ h2).bd fun z h3 => R.of ((cmpD p y z h3).map D.bl) h3) (.ok (.bl false) h2)) .no := by
  show ((ev P o a ρ h).bd fun x h1 => (ev P o b ρ h1).bd fun y h2 => match cmpD q x y h2 with
      | some true => (ev P o d ρ h2).bd fun z h3 => R.of ((cmpD p y z h3).map D.bl) h3
      | some false => .ok (.bl false) h2
      | none => .no) = _
  congr; funext x h1; congr; funext y h2
  cases cmpD q x y h2 with
  | none => rfl
  | some k => cases k <;> rfl
@[simp ↓] theorem t_chain {q p : PySem.CmpOp} {a b d : E} : tst P o (.chain q p a b d) ρ h = (ev P o a ρ h).bd fun x h1 => (ev P o b ρ h1).bd fun y h2 => oc (cmpD q x y h2) (fun k => cs k ((ev P o d ρ h2).bd fun z h3 => R.of (cmpD p y z h3) h3) (.ok false h2)) .no := by
  show ((ev P o a ρ h).bd fun x h1 => (ev P o b ρ h1).bd fun y h2 => match cmpD q x y h2 with
      | some true => (ev P o d ρ h2).bd fun z h3 => R.of (cmpD p y z h3) h3
      | some false => .ok false h2
      | none => .no) = _
  congr; funext x h1; congr; funext y h2
  cases cmpD q x y h2 with
  | none => rfl
  | some k => cases k <;> rfl
@[simp ↓] theorem e_band {a b : E} : ev P o (.band a b) ρ h = (ev P o a ρ h).bd fun x h1 => oc (truthD x h1) (fun k => cs k (ev P o b ρ h1) (.ok x h1)) .no := by
  show ((ev P o a ρ h).bd fun x h1 => match truthD x h1 with
      | some true => ev P o b ρ h1
      | some false => .ok x h1
      | none => .no) = _
  congr; funext x h1
  cases truthD x h1 with
  | none => rfl
  | some k => cases k <;> rfl
@[simp ↓] theorem t_band {a b : E} : tst P o (.band a b) ρ h = (tst P o a ρ h).bd fun k h1 => cs k (tst P o b ρ h1) (.ok false h1) := (rfl)
@[simp ↓] theorem e_bor {a b : E} : ev P o (.bor a b) ρ h = (ev P o a ρ h).bd fun x h1 => oc (truthD x h1) (fun k => cs k (.ok x h1) (ev P o b ρ h1)) .no := by
  show ((ev P o a ρ h).bd fun x h1 => match truthD x h1 with
      | some true => .ok x h1
      | some false => ev P o b ρ h1
      | none => .no) = _
  congr; funext x h1
  cases truthD x h1 with
  | none => rfl
  | some k => cases k <;> rfl
@[simp ↓] theorem t_bor {a b : E} : tst P o (.bor a b) ρ h = (tst P o a ρ h).bd fun k h1 => cs k (.ok true h1) (tst P o b ρ h1) := (rfl)
@[simp ↓] theorem e_b1 {a : E} : ev P o (.b1 a) ρ h = ev P o a ρ h := (rfl)
@[simp ↓] theorem t_b1 {a : E} : tst P o (.b1 a) ρ h = tst P o a ρ h := (rfl)
@[simp ↓] theorem e_bnot {a : E} : ev P o (.bnot a) ρ h = (ev P o a ρ h).bd fun x h1 => oc (truthD x h1) (fun b => .ok (.bl (!b)) h1) .no := by
  rw [q_bnot]
  congr; funext x h1
  cases truthD x h1 <;> rfl
@[simp ↓] theorem t_bnot {a : E} : tst P o (.bnot a) ρ h = (tst P o a ρ h).bd fun k h1 => .ok (!k) h1 := (rfl)
@[simp ↓] theorem e_ife {t a b : E} : ev P o (.ife t a b) ρ h = (tst P o t ρ h).bd fun k h1 => cs k (ev P o a ρ h1) (ev P o b ρ h1) := (rfl)
@[simp ↓] theorem e_tup {es : E} : ev P o (.tup es) ρ h = (evs P o es ρ h).bd fun ds h1 => mkT ds h1 := (rfl)
@[simp ↓] theorem e_lst {m : Bool} {es : E} : ev P o (.lst m es) ρ h = (evs P o es ρ h).bd fun ds h1 => mkL m ds h1 := (rfl)
@[simp ↓] theorem e_dct : ev P o (.dct) ρ h = .ok (.ref h.length) (h ++ [.dct [] []]) := (rfl)
@[simp ↓] theorem e_ix {a i : E} : ev P o (.ix a i) ρ h = (ev P o a ρ h).bd fun x h1 => (ev P o i ρ h1).bd fun y h2 => R.of (itemD P.wd x y h2) h2 := (rfl)
@[simp ↓] theorem e_sl {m : Bool} {a lo hi : E} : ev P o (.sl m a lo hi) ρ h = (ev P o a ρ h).bd fun x h1 => (ev P o lo ρ h1).bd fun l h2 => oc (partD lo.isNil l) (fun l => (ev P o hi ρ h2).bd fun u h3 => oc (partD hi.isNil u) (fun u => sliceD m x l u h3) .no) .no := by
  rw [q_sl]
  congr; funext x h1; congr; funext l h2
  cases partD lo.isNil l with
  | none => rfl
  | some l =>
    show R.bind _ _ = R.bind _ _
    congr; funext u h3
    cases partD hi.isNil u <;> rfl
@[simp ↓] theorem e_nil : ev P o .nil ρ h = .ok .non h := (rfl)
@[simp ↓] theorem e_rev {m : Bool} {a : E} : ev P o (.rev m a) ρ h = (ev P o a ρ h).bd fun x h1 => revD m x h1 := (rfl)
@[simp ↓] theorem e_call {ad : Bool} {j : Nat} {es : E} : ev P o (.call ad j es) ρ h = (evs P o es ρ h).bd fun ds h1 => callJ P o ad j ds h1 := (rfl)
@[simp ↓] theorem e_callk {ad : Bool} {j : Nat} {es ks : E} : ev P o (.callk ad j es ks) ρ h = (evs P o es ρ h).bd fun ds h1 => (evs P o ks ρ h1).bd fun es h2 => callJ P o ad j (ds ++ es) h2 := (rfl)
@[simp ↓] theorem e_meth {ad : Bool} {mi : Nat} {q es : E} {alts : List (Nat × Nat)} : ev P o (.meth ad mi q alts es) ρ h = (ev P o q ρ h).bd fun x h1 => oc (methJ alts mi (insOf x h1)) (fun j => (evs P o es ρ h1).bd fun ds h2 => callJ P o ad j (x :: ds) h2) .no := by
  rw [q_meth]
  congr; funext x h1
  cases methJ alts mi (insOf x h1) <;> rfl
@[simp ↓] theorem e_att {q : E} {k : Nat} {alts : List (Nat × Nat)} : ev P o (.att q k alts) ρ h = (ev P o q ρ h).bd fun x h1 => oc (propJ alts (insOf x h1)) (fun j => (callJ P o false j [x] h1).pur) (R.of (fieldD P.fld k (insOf x h1)) h1) := by
  rw [q_att]
  congr; funext x h1
  cases propJ alts (insOf x h1) <;> rfl
@[simp ↓] theorem e_blt {m : Bool} {b : Blt} {es : E} : ev P o (.blt m b es) ρ h = (evs P o es ρ h).bd fun ds h1 => bltD m b ds h1 := (rfl)
@[simp ↓] theorem e_isi {x : E} {ts : List Ty} : ev P o (.isi x ts) ρ h = (ev P o x ρ h).bd fun d h1 => R.of ((isiD P.nc d h1 ts).map D.bl) h1 := (rfl)
@[simp ↓] theorem e_bm {b : BM} {q es : E} : ev P o (.bm b q es) ρ h = (ev P o q ρ h).bd fun x h1 => cs (isRcv b x h1) ((evs P o es ρ h1).bd fun ds h2 => bmD b x ds h2) .no := (rfl)
/-- a comprehension's turn -/
def cf (P : Prog) (o : Orc) (tg ifs el : E) (ρ : Env) : D → HH → R (Option D) := fun x h2 => (asg P o tg x ρ h2).bd fun ρ2 h3 => (tsts P o ifs ρ2 h3).bd fun k h4 => cs k ((ev P o el ρ2 h4).bd fun d h5 => .ok (some d) h5) (.ok none h4)
@[simp ↓] theorem cf_ap {tg ifs el : E} {x : D} : cf P o tg ifs el ρ x h = (asg P o tg x ρ h).bd fun ρ2 h3 => (tsts P o ifs ρ2 h3).bd fun k h4 => cs k ((ev P o el ρ2 h4).bd fun d h5 => .ok (some d) h5) (.ok none h4) := (rfl)
@[simp ↓] theorem e_comp {m : Bool} {own : List Nat} {tg it ifs el : E} : ev P o (.comp m own tg it ifs el) ρ h = (itm P o it ρ h).bd fun I h1 => (compI (cf P o tg ifs el (wipeE ρ own)) I h1).pur.bd fun l h2 => mkL m l h2 := (rfl)
theorem ts_def {e : E} (hq : (sem P o e).ts ρ h = ((sem P o e).ev ρ h).bd fun x h1 => R.of (truthD x h1) h1) : tst P o e ρ h = (ev P o e ρ h).bd fun x h1 => R.of (truthD x h1) h1 := hq
@[simp ↓] theorem t_v {i : Nat} : tst P o (.v i) ρ h = (ev P o (.v i) ρ h).bd fun x h1 => R.of (truthD x h1) h1 := (rfl)
@[simp ↓] theorem t_c {d : D} : tst P o (.c d) ρ h = R.of (truthD d h) h := (rfl)
@[simp ↓] theorem t_call {ad : Bool} {j : Nat} {es : E} : tst P o (.call ad j es) ρ h = (ev P o (.call ad j es) ρ h).bd fun x h1 => R.of (truthD x h1) h1 := (rfl)
@[simp ↓] theorem t_callk {ad : Bool} {j : Nat} {es ks : E} : tst P o (.callk ad j es ks) ρ h = (ev P o (.callk ad j es ks) ρ h).bd fun x h1 => R.of (truthD x h1) h1 := (rfl)
@[simp ↓] theorem t_meth {ad : Bool} {mi : Nat} {q es : E} {alts : List (Nat × Nat)} : tst P o (.meth ad mi q alts es) ρ h = (ev P o (.meth ad mi q alts es) ρ h).bd fun x h1 => R.of (truthD x h1) h1 := (rfl)
@[simp ↓] theorem t_att {q : E} {k : Nat} {alts : List (Nat × Nat)} : tst P o (.att q k alts) ρ h = (ev P o (.att q k alts) ρ h).bd fun x h1 => R.of (truthD x h1) h1 := (rfl)
@[simp ↓] theorem t_blt {m : Bool} {b : Blt} {es : E} : tst P o (.blt m b es) ρ h = (ev P o (.blt m b es) ρ h).bd fun x h1 => R.of (truthD x h1) h1 := (rfl)
@[simp ↓] theorem t_isi {x : E} {ts : List Ty} : tst P o (.isi x ts) ρ h = (ev P o (.isi x ts) ρ h).bd fun x h1 => R.of (truthD x h1) h1 := (rfl)
@[simp ↓] theorem t_ix {a i : E} : tst P o (.ix a i) ρ h = (ev P o (.ix a i) ρ h).bd fun x h1 => R.of (truthD x h1) h1 := (rfl)
@[simp ↓] theorem s_nil : evs P o .nil ρ h = .ok [] h := (rfl)
@[simp ↓] theorem l_nil : tsts P o .nil ρ h = .ok true h := (rfl)
@[simp ↓] theorem g_nil : asgs P o .nil [] ρ h = .ok ρ h := (rfl)
@[simp ↓] theorem s_cons {e es : E} : evs P o (.cons e es) ρ h = (ev P o e ρ h).bd fun d h1 => (evs P o es ρ h1).bd fun ds h2 => .ok (d :: ds) h2 := (rfl)
@[simp ↓] theorem l_cons {e es : E} : tsts P o (.cons e es) ρ h = tst P o e ρ h := (rfl)
@[simp ↓] theorem g_cons {e es : E} {d : D} {r : List D} : asgs P o (.cons e es) (d :: r) ρ h = (asg P o e d ρ h).bd fun ρ1 h1 => asgs P o es r ρ1 h1 := (rfl)
@[simp ↓] theorem s_star {e es : E} : evs P o (.star e es) ρ h = (ev P o e ρ h).bd fun d h1 => oc (seqOf d h1) (fun l => (evs P o es ρ h1).bd fun ds h2 => .ok (l ++ ds) h2) .no := by
  rw [q_star]
  congr; funext x h1
  cases seqOf x h1 <;> rfl
@[simp ↓] theorem i_ie {e : E} : itm P o (.i_e e) ρ h = (ev P o e ρ h).bd fun x h1 => match x with
    | .tup l => .ok (.items l) h1
    | .wtup l => .ok (.items l) h1
    | .lst l => .ok (.items l) h1
    | .bor l => .ok (.items l) h1
    | .ref n => (match h1[n]? with
      | some (.lst _) => .ok (.live n) h1
      | _ => .no)
    | _ => .no := (rfl)
def rng1 (x : D) (h : HH) : R Itr := match x with
  | .int j => cs (smallI j) (.ok (.items (rangeL 0 j)) h) .no
  | _ => .no
def rng2 (x y : D) (h : HH) : R Itr := match x, y with
  | .int i, .int j => cs (smallI i && smallI j) (.ok (.items (rangeL i j)) h) .no
  | _, _ => .no
@[simp] theorem rng1_i {j : Int} : rng1 (.int j) h = cs (smallI j) (.ok (.items (rangeL 0 j)) h) .no := by
  first | (cases h <;> rfl)
@[simp] theorem rng2_i {i j : Int} : rng2 (.int i) (.int j) h = cs (smallI i && smallI j) (.ok (.items (rangeL i j)) h) .no := by
  first | (cases h <;> rfl)
@[simp ↓] theorem i_r1' {a : E} : itm P o (.i_r1 a) ρ h = (ev P o a ρ h).bd fun x h1 => rng1 x h1 := by
  rw [q_i_r1]
  rfl
@[simp ↓] theorem i_r2' {a b : E} : itm P o (.i_r2 a b) ρ h = (ev P o a ρ h).bd fun x h1 => (ev P o b ρ h1).bd fun y h2 => rng2 x y h2 := by
  rw [q_i_r2]
  rfl
@[simp ↓] theorem i_en' {e : E} : itm P o (.i_en e) ρ h = (ev P o e ρ h).bd fun x h1 => match x with
    | .lst l => .ok (.items (enumL 0 l)) h1
    | _ => .no := (rfl)
@[simp ↓] theorem i_zip' {a b : E} : itm P o (.i_zip a b) ρ h = (ev P o a ρ h).bd fun x h1 => (ev P o b ρ h1).bd fun y h2 => match x, y with
    | .tup k, .tup l => .ok (.items (pairL k l)) h2
    | .lst k, .lst l => .ok (.items (pairL k l)) h2
    | _, _ => .no := (rfl)
@[simp ↓] theorem a_tn {i : Nat} {d : D} : asg P o (.t_n i) d ρ h = .ok (ρ.set i (some d)) h := (rfl)
@[simp ↓] theorem a_tt {ts : E} {d : D} : asg P o (.t_t ts) d ρ h = oc (seqOf d h) (fun l => asgs P o ts l ρ h) .no := by
  rw [q_t_t]
  cases seqOf d h <;> rfl
@[simp ↓] theorem a_ts {q i : E} {d : D} : asg P o (.t_s q i) d ρ h = (ev P o q ρ h).bd fun x h1 => (ev P o i ρ h1).bd fun y h2 => oc (setD x y d h2) (fun h3 => .ok ρ h3) .no := by
  rw [q_t_s]
  congr; funext x h1; congr; funext y h2
  cases setD x y d h2 <;> rfl
@[simp ↓] theorem a_ta {q : E} {k : Nat} {d : D} : asg P o (.t_a q k) d ρ h = (ev P o q ρ h).bd fun x h1 => oc (setF P.fld x k d h1) (fun h2 => .ok ρ h2) .no := by
  rw [q_t_a]
  congr; funext x h1
  cases setF P.fld x k d h1 <;> rfl
/-! data -/
@[simp] theorem b_add {m : Bool} {x y : D} : binD .Add m x y h = addD m x y h := (rfl)
@[simp] theorem b_sub {m : Bool} {x y : D} : binD .Sub m x y h = subD x y h := (rfl)
@[simp] theorem b_mul {m : Bool} {x y : D} : binD .Mult m x y h = mulD m x y h := (rfl)
@[simp] theorem b_div {m : Bool} {x y : D} : binD .FloorDiv m x y h = divD x y h := (rfl)
@[simp] theorem b_mod {m : Bool} {x y : D} : binD .Mod m x y h = modD x y h := (rfl)
@[simp] theorem b_pow {m : Bool} {x y : D} : binD .Pow m x y h = powD x y h := (rfl)
@[simp] theorem add_ii {m : Bool} {i j : Int} : addD m (.int i) (.int j) h = .ok (.int (i + j)) h := (rfl)
@[simp] theorem add_ll {m : Bool} {a b : List D} : addD m (.lst a) (.lst b) h = mkL m (a ++ b) h := (rfl)
@[simp] theorem add_tt {m : Bool} {a b : List D} : addD m (.tup a) (.tup b) h = mkT (a ++ b) h := (rfl)
@[simp] theorem sub_ii {i j : Int} : subD (.int i) (.int j) h = .ok (.int (i - j)) h := (rfl)
@[simp] theorem mul_ii {m : Bool} {i j : Int} : mulD m (.int i) (.int j) h = cs (mulOk i j) (.ok (.int (i * j)) h) .no := by
  first | (cases h <;> rfl)
@[simp] theorem div_ii {i j : Int} : divD (.int i) (.int j) h = cs (divOk j) (.ok (.int (i.fdiv j)) h) .no := by
  first | (cases h <;> rfl)
@[simp] theorem pow_ii {i j : Int} : powD (.int i) (.int j) h = cs (powOk i j) (.ok (.int (i ^ j.toNat)) h) .no := by
  first | (cases h <;> rfl)
@[simp] theorem mod_ii {i j : Int} : modD (.int i) (.int j) h = cs (j != 0) (.ok (.int (i.fmod j)) h) .no := by
  first | (cases h <;> rfl)
@[simp] theorem seq_tup {l : List D} : seqOf (.tup l) h = some l := (rfl)
@[simp] theorem seq_wtup {l : List D} : seqOf (.wtup l) h = some l := (rfl)
@[simp] theorem seq_lst {l : List D} : seqOf (.lst l) h = some l := (rfl)
@[simp] theorem seq_bor {l : List D} : seqOf (.bor l) h = some l := (rfl)
@[simp] theorem seq_ref {n : Nat} : seqOf (.ref n) h = ol h[n]? some none := by
  show (match h[n]? with
    | some (.lst l) => some l
    | _ => none) = _
  cases h[n]? with
  | none => rfl
  | some y => cases y <;> rfl
@[simp] theorem seq_int {i : Int} : seqOf (.int i) h = none := (rfl)
@[simp] theorem seq_non : seqOf .non h = none := (rfl)
@[simp] theorem seq_bl {i : Bool} : seqOf (.bl i) h = none := (rfl)
@[simp] theorem seq_str {i : Str} : seqOf (.str i) h = none := (rfl)
@[simp] theorem lo_lst {l : List D} : listOf (.lst l) h = some l := (rfl)
@[simp] theorem lo_bor {l : List D} : listOf (.bor l) h = some l := (rfl)
@[simp] theorem lo_ref {n : Nat} : listOf (.ref n) h = ol h[n]? some none := by
  show (match h[n]? with
    | some (.lst l) => some l
    | _ => none) = _
  cases h[n]? with
  | none => rfl
  | some y => cases y <;> rfl
@[simp] theorem lo_tup {l : List D} : listOf (.tup l) h = none := (rfl)
@[simp] theorem lo_wtup {l : List D} : listOf (.wtup l) h = none := (rfl)
@[simp] theorem lo_int {i : Int} : listOf (.int i) h = none := (rfl)
@[simp] theorem lo_non : listOf .non h = none := (rfl)
@[simp] theorem do_dct {ks : List Key} {vs : List D} : dctOf (.dct ks vs) h = some (ks, vs) := (rfl)
@[simp] theorem do_ref {n : Nat} : dctOf (.ref n) h = (match h[n]? with
    | some (.dct ks vs) => some (ks, vs)
    | _ => none) := (rfl)
@[simp] theorem do_tup {l : List D} : dctOf (.tup l) h = none := (rfl)
@[simp] theorem do_wtup {l : List D} : dctOf (.wtup l) h = none := (rfl)
@[simp] theorem do_lst {l : List D} : dctOf (.lst l) h = none := (rfl)
@[simp] theorem do_bor {l : List D} : dctOf (.bor l) h = none := (rfl)
@[simp] theorem do_int {i : Int} : dctOf (.int i) h = none := (rfl)
@[simp] theorem do_str {i : Str} : dctOf (.str i) h = none := (rfl)
theorem it_wd {W : Wds} {k : Nat} {i : D} : itemD W (.wd k) i h = (match W[k]?, keyOf i with
    | some w, some q => findK w.1 w.2 q
    | _, _ => none) := (rfl)
@[simp] theorem it_tup {W : Wds} {l : List D} {i : Int} : itemD W (.tup l) (.int i) h = (ixAt l.length i).bind fun j => l[j]? := (rfl)
@[simp] theorem it_wtup {W : Wds} {l : List D} {i : Int} : itemD W (.wtup l) (.int i) h = (ixAt l.length i).bind fun j => l[j]? := (rfl)
@[simp] theorem it_lst {W : Wds} {l : List D} {i : Int} : itemD W (.lst l) (.int i) h = (ixAt l.length i).bind fun j => l[j]? := (rfl)
@[simp] theorem it_bor {W : Wds} {l : List D} {i : Int} : itemD W (.bor l) (.int i) h = (ixAt l.length i).bind fun j => l[j]? := (rfl)
theorem it_ref {W : Wds} {n : Nat} {l : List D} {i : Int} (e : h[n]? = some (.lst l)) : itemD W (.ref n) (.int i) h = (ixAt l.length i).bind fun j => l[j]? := by
  show (match dctOf (.ref n) h with
    | some w => (match keyOf (.int i) with
      | some q => findK w.1 w.2 q
      | none => none)
    | none => itemL (.ref n) (.int i) h) = _
  rw [do_ref, e]
  show (match seqOf (.ref n) h with
    | some l => (ixAt l.length i).bind fun j => l[j]?
    | none => none) = _
  rw [seq_ref, e]
  rfl
theorem it_refd {W : Wds} {n : Nat} {ks : List Key} {vs : List D} {x : D} {q : Key} (e : h[n]? = some (.dct ks vs)) (hq : keyOf x = some q) : itemD W (.ref n) x h = findK ks vs q := by
  show (match dctOf (.ref n) h with
    | some w => (match keyOf x with
      | some q => findK w.1 w.2 q
      | none => none)
    | none => itemL (.ref n) x h) = _
  rw [do_ref, e]
  simp only
  rw [hq]
@[simp] theorem key_int {i : Int} : keyOf (.int i) = some (.inl i) := (rfl)
theorem ixAt_nat {n k : Nat} (h : k < n) : ixAt n (k : Int) = some k := by
  unfold ixAt
  rw [if_pos (Int.natCast_nonneg k), if_pos (by exact_mod_cast h)]
  simp
theorem ixAt_last {n : Nat} (h : 0 < n) : ixAt n (-1) = some (n - 1) := by
  unfold ixAt
  rw [if_neg (by omega), if_pos (by omega)]
  congr 1
  omega
@[simp] theorem c_eq {x y : D} : cmpD .Eq x y h = eqD x y h := (rfl)
@[simp] theorem c_ne {x y : D} : cmpD .NotEq x y h = (eqD x y h).map (!·) := (rfl)
@[simp] theorem c_lt {i j : Int} : cmpD .Lt (.int i) (.int j) h = some (decide (i < j)) := (rfl)
@[simp] theorem c_le {i j : Int} : cmpD .LtE (.int i) (.int j) h = some (decide (i ≤ j)) := (rfl)
@[simp] theorem c_gt {i j : Int} : cmpD .Gt (.int i) (.int j) h = some (decide (j < i)) := (rfl)
@[simp] theorem c_ge {i j : Int} : cmpD .GtE (.int i) (.int j) h = some (decide (j ≤ i)) := (rfl)
@[simp] theorem c_is {x : D} : cmpD .Is x .non h = some (noneD x) := (rfl)
@[simp] theorem c_isn {x : D} : cmpD .IsNot x .non h = some (!noneD x) := (rfl)
@[simp] theorem c_in {x y : D} : cmpD .In x y h = inD x y h := (rfl)
@[simp] theorem c_nin {x y : D} : cmpD .NotIn x y h = (inD x y h).map (!·) := (rfl)
@[simp] theorem eq_ii {i j : Int} : eqD (.int i) (.int j) h = some (decide (i = j)) := (rfl)
theorem mkT_ok' {l : List D} (hl : l.length ≤ line) : mkT l h = .ok (.tup l) h := by
  unfold mkT
  rw [Nat.ble_eq_true_of_le hl]
theorem mkL_f {l : List D} (hl : l.length ≤ line) : mkL false l h = .ok (.lst l) h := by
  unfold mkL
  rw [Nat.ble_eq_true_of_le hl]
theorem mkL_t {l : List D} (hl : l.length ≤ line) : mkL true l h = .ok (.ref h.length) (h ++ [.lst l]) := by
  unfold mkL
  rw [Nat.ble_eq_true_of_le hl]
@[simp] theorem mkT_0 : mkT [] h = .ok (.tup []) h := (rfl)
@[simp] theorem mkT_1 {a : D} : mkT [a] h = .ok (.tup [a]) h := (rfl)
@[simp] theorem mkT_2 {a b : D} : mkT [a, b] h = .ok (.tup [a, b]) h := (rfl)
@[simp] theorem mkT_3 {a b c : D} : mkT [a, b, c] h = .ok (.tup [a, b, c]) h := (rfl)
@[simp] theorem mkT_4 {a b c d : D} : mkT [a, b, c, d] h = .ok (.tup [a, b, c, d]) h := (rfl)
@[simp] theorem mkT_5 {a b c d e : D} : mkT [a, b, c, d, e] h = .ok (.tup [a, b, c, d, e]) h := (rfl)
@[simp] theorem mkL_f0 : mkL false [] h = .ok (.lst []) h := (rfl)
@[simp] theorem mkL_f1 {a : D} : mkL false [a] h = .ok (.lst [a]) h := (rfl)
@[simp] theorem mkL_f2 {a b : D} : mkL false [a, b] h = .ok (.lst [a, b]) h := (rfl)
@[simp] theorem mkL_f3 {a b c : D} : mkL false [a, b, c] h = .ok (.lst [a, b, c]) h := (rfl)
@[simp] theorem mkL_f4 {a b c d : D} : mkL false [a, b, c, d] h = .ok (.lst [a, b, c, d]) h := (rfl)
@[simp] theorem mkL_t0 : mkL true [] h = .ok (.ref h.length) (h ++ [.lst []]) := (rfl)
@[simp] theorem mkL_t1 {a : D} : mkL true [a] h = .ok (.ref h.length) (h ++ [.lst [a]]) := (rfl)
@[simp] theorem mkL_t2 {a b : D} : mkL true [a, b] h = .ok (.ref h.length) (h ++ [.lst [a, b]]) := (rfl)
@[simp] theorem mkL_t3 {a b c : D} : mkL true [a, b, c] h = .ok (.ref h.length) (h ++ [.lst [a, b, c]]) := (rfl)
@[simp] theorem mkL_t5 {a b c d e : D} : mkL true [a, b, c, d, e] h = .ok (.ref h.length) (h ++ [.lst [a, b, c, d, e]]) := (rfl)
@[simp] theorem mkL_f6 {a b c d e f : D} : mkL false [a, b, c, d, e, f] h = .ok (.lst [a, b, c, d, e, f]) h := (rfl)
@[simp] theorem isRcv_app {x : D} : isRcv .append x h = (listOf x h).isSome := (rfl)
@[simp] theorem isRcv_pop {x : D} : isRcv .pop x h = (listOf x h).isSome := (rfl)
@[simp] theorem isRcv_clear {x : D} : isRcv .clear x h = (listOf x h).isSome := (rfl)
@[simp] theorem bm_app {x : D} {ds : List D} : bmD .append x ds h = appendD x ds h := (rfl)
@[simp] theorem bm_pop {x : D} {ds : List D} : bmD .pop x ds h = popD x ds h := (rfl)
@[simp] theorem bm_clear {x : D} {ds : List D} : bmD .clear x ds h = clearD x ds h := (rfl)
theorem append_ok' {n : Nat} {l : List D} {x : D} (e : h[n]? = some (.lst l)) (hl : l.length < line) : appendD (.ref n) [x] h = .ok .non (h.set n (.lst (l ++ [x]))) := by
  unfold appendD
  dsimp only
  rw [e]
  dsimp only
  rw [show Nat.blt l.length line = true from Nat.ble_eq_true_of_le hl]
theorem blt_dec (a b : Nat) : Nat.blt a b = decide (a < b) := by
  rw [Bool.eq_iff_iff]
  simp only [decide_eq_true_eq]
  exact ⟨fun h => Nat.le_of_ble_eq_true h, fun h => Nat.ble_eq_true_of_le h⟩
theorem app_def {n : Nat} {x : D} : appendD (.ref n) [x] h = ol h[n]? (fun l => cs (decide (l.length < line)) (.ok .non (h.set n (.lst (l ++ [x])))) .no) .no := by
  unfold appendD
  dsimp only
  cases h[n]? with
  | none => rfl
  | some y =>
    cases y <;> first | rfl | skip
    rw [ol_s, ← blt_dec]
    rename_i l
    dsimp only
    cases Nat.blt l.length line <;> rfl
theorem pop_def {n : Nat} : popD (.ref n) [] h = ol h[n]? (fun l => oc l[l.length - 1]? (fun x => .ok x (h.set n (.lst l.dropLast))) .no) .no := by
  unfold popD
  dsimp only
  cases h[n]? with
  | none => rfl
  | some y =>
    cases y <;> first | rfl | skip
    rename_i l
    rw [ol_s]
    dsimp only
    cases l[l.length - 1]? <;> rfl
theorem clear_def {n : Nat} : clearD (.ref n) [] h = ol h[n]? (fun l => .ok .non (h.set n (.lst []))) .no := by
  unfold clearD
  dsimp only
  cases h[n]? with
  | none => rfl
  | some y => cases y <;> rfl
/-- an own thing's item -/
def itO (o : Option O) (x : D) : Option D := match o with
  | some (.lst l) => (match x with
    | .int i => (ixAt l.length i).bind fun j => l[j]?
    | _ => none)
  | some (.dct ks vs) => (match keyOf x with
    | some q => findK ks vs q
    | none => none)
  | _ => none
@[simp] theorem itO_l {l : List D} {i : Int} : itO (some (.lst l)) (.int i) = (ixAt l.length i).bind fun j => l[j]? := (rfl)
@[simp] theorem itO_d {ks : List Key} {vs : List D} {i : Int} : itO (some (.dct ks vs)) (.int i) = findK ks vs (.inl i) := (rfl)
theorem it_refU {W : Wds} {n : Nat} {x : D} : itemD W (.ref n) x h = itO h[n]? x := by
  show (match dctOf (.ref n) h with
    | some w => (match keyOf x with
      | some q => findK w.1 w.2 q
      | none => none)
    | none => itemL (.ref n) x h) = _
  rw [do_ref]
  cases e : h[n]? with
  | none =>
    unfold itemL
    simp only [seq_ref, e]
    cases x <;> rfl
  | some y =>
    unfold itemL
    cases y with
    | lst l =>
      simp only [seq_ref, e]
      cases x <;> rfl
    | dct ks vs => rfl
    | ins c ks vs =>
      simp only [seq_ref, e]
      cases x <;> rfl
theorem lenU {d : D} : lenD [d] h = oc (seqOf d h) (fun l => .ok (.int l.length) h) (match d with
    | .str s => if s.length ≤ line then .ok (.int s.length) h else .no
    | _ => .no) := by
  unfold lenD
  dsimp only
  cases seqOf d h <;> rfl
theorem tupleU {d : D} : tupleD [d] h = oc (seqOf d h) (fun l => .ok (.tup l) h) .no := by
  unfold tupleD
  dsimp only
  cases seqOf d h <;> rfl
@[simp] theorem bl_len {m : Bool} {ds : List D} : bltD m .len ds h = lenD ds h := (rfl)
@[simp] theorem bl_abs {m : Bool} {ds : List D} : bltD m .abs ds h = absD ds h := (rfl)
@[simp] theorem bl_int {m : Bool} {ds : List D} : bltD m .int ds h = intD ds h := (rfl)
@[simp] theorem bl_list {m : Bool} {ds : List D} : bltD m .list ds h = listD m ds h := (rfl)
@[simp] theorem bl_tuple {m : Bool} {ds : List D} : bltD m .tuple ds h = tupleD ds h := (rfl)
@[simp] theorem bl_sum {m : Bool} {ds : List D} : bltD m .sum ds h = sumD ds h := (rfl)
@[simp] theorem bl_all {m : Bool} {ds : List D} : bltD m .all ds h = allD ds h := (rfl)
@[simp] theorem bl_any {m : Bool} {ds : List D} : bltD m .any ds h = anyD ds h := (rfl)
@[simp] theorem int_i {i : Int} : intD [.int i] h = .ok (.int i) h := (rfl)
@[simp] theorem abs_i {i : Int} : absD [.int i] h = .ok (.int (if i < 0 then -i else i)) h := (rfl)
@[simp] theorem len_tup {l : List D} : lenD [.tup l] h = .ok (.int l.length) h := (rfl)
@[simp] theorem len_wtup {l : List D} : lenD [.wtup l] h = .ok (.int l.length) h := (rfl)
@[simp] theorem len_lst {l : List D} : lenD [.lst l] h = .ok (.int l.length) h := (rfl)
@[simp] theorem len_bor {l : List D} : lenD [.bor l] h = .ok (.int l.length) h := (rfl)
theorem len_ref {n : Nat} {l : List D} (e : h[n]? = some (.lst l)) : lenD [.ref n] h = .ok (.int l.length) h := by
  unfold lenD
  simp only [seq_ref, e, ol_s]
theorem tuple_seq {d : D} {l : List D} (e : seqOf d h = some l) : tupleD [d] h = .ok (.tup l) h := by
  unfold tupleD
  simp only [e]
theorem list_seq {m : Bool} {d : D} {l : List D} (e : seqOf d h = some l) : listD m [d] h = mkL m l h := by
  unfold listD
  simp only [e]
@[simp] theorem tuple_lst {l : List D} : tupleD [.lst l] h = .ok (.tup l) h := (rfl)
@[simp] theorem sum_lst {l : List D} : sumD [.lst l] h = oc (intsD l) (fun ns => .ok (.int ns.sum) h) .no := by
  unfold sumD oneL
  simp only [lo_lst, Option.bind_some]
  cases intsD l <;> rfl
@[simp] theorem all_lst {l : List D} : allD [.lst l] h = oc (bls l) (fun ns => .ok (.bl (ns.all id)) h) .no := by
  unfold allD oneL
  simp only [lo_lst, Option.bind_some]
  cases bls l <;> rfl
@[simp] theorem any_lst {l : List D} : anyD [.lst l] h = oc (bls l) (fun ns => .ok (.bl (ns.any id)) h) .no := by
  unfold anyD oneL
  simp only [lo_lst, Option.bind_some]
  cases bls l <;> rfl
@[simp] theorem ints_nil : intsD [] = some [] := (rfl)
@[simp] theorem ints_cons {i : Int} {r : List D} : intsD (.int i :: r) = (intsD r).map (i :: ·) := (rfl)
@[simp] theorem bls_nil : bls [] = some [] := (rfl)
@[simp] theorem bls_cons {i : Bool} {r : List D} : bls (.bl i :: r) = (bls r).map (i :: ·) := (rfl)
@[simp] theorem wipe_nil : wipeE ρ [] = ρ := (rfl)
@[simp] theorem wipe_cons {v : Nat} {vs : List Nat} : wipeE ρ (v :: vs) = (wipeE ρ vs).set v none := (rfl)
@[simp] theorem tr_bl {b : Bool} : truthD (.bl b) h = some b := (rfl)
@[simp] theorem tr_int {i : Int} : truthD (.int i) h = some (i != 0) := (rfl)
@[simp] theorem tr_non : truthD .non h = some false := (rfl)
@[simp] theorem ins_obj {c : Nat} {ks : List Nat} {vs : List D} : insOf (.obj c ks vs) h = some (c, ks, vs) := (rfl)
@[simp] theorem ins_ref {n : Nat} : insOf (.ref n) h = (match h[n]? with
    | some (.ins c ks vs) => some (c, ks, vs)
    | _ => none) := (rfl)
end
/-! ### calls -/
theorem lends1 {h : HH} {a a' : D} (h1 : lend h a = some a') : lends h [a] = some [a'] := by simp only [lends, h1]
theorem lends2 {h : HH} {a b a' b' : D} (h1 : lend h a = some a') (h2 : lend h b = some b') : lends h [a, b] = some [a', b'] := by simp only [lends, h1, h2]
theorem lends3 {h : HH} {a b c a' b' c' : D} (h1 : lend h a = some a') (h2 : lend h b = some b') (h3 : lend h c = some c') : lends h [a, b, c] = some [a', b', c'] := by simp only [lends, h1, h2, h3]
theorem lend_tup {h : HH} {l : List D} (f : D.flats l = true) : lend h (.tup l) = some (.tup l) := by
  unfold lend
  simp only [D.flat, f, if_pos]
theorem lend_wtup {h : HH} {l : List D} (f : D.flats l = true) : lend h (.wtup l) = some (.wtup l) := by
  unfold lend
  simp only [D.flat, f, if_pos]
theorem lend_lst {h : HH} {l : List D} (f : D.flats l = true) : lend h (.lst l) = some (.lst l) := by
  unfold lend
  simp only [D.flat, f, if_pos]
theorem lend_bor {h : HH} {l : List D} (f : D.flats l = true) : lend h (.bor l) = some (.bor l) := by
  unfold lend
  simp only [f, if_pos]
theorem lend_ref {h : HH} {n : Nat} {l : List D} (e : h[n]? = some (.lst l)) (f : D.flats l = true) : lend h (.ref n) = some (.bor l) := by
  unfold lend
  simp only [e, f, if_pos]
theorem lend_obj {h : HH} {c : Nat} {ks : List Nat} {l : List D} (f : D.flats l = true) : lend h (.obj c ks l) = some (.obj c ks l) := by
  unfold lend
  simp only [D.flat, f, if_pos]
theorem ints_map : ∀ l : List Int, intsD (l.map D.int) = some l
  | [] => rfl
  | i :: r => by
    rw [List.map_cons, ints_cons, ints_map r]
    rfl
theorem bls_map : ∀ l : List Bool, bls (l.map D.bl) = some l
  | [] => rfl
  | i :: r => by
    rw [List.map_cons, bls_cons, bls_map r]
    rfl
/-- a pure def's answer, on data that are lent -/
structure Ans (P : Prog) (k : Nat) (i : Nat) (es : List D) (r : Ret) : Prop where
  ex : ∃ (f : Fn) (d : D) (h1 : HH), P.fns[i]? = some f ∧ f.kind = .fn true ∧ body P (callN P k) f es [] = .ok d h1 ∧ takeOut d h1 = some r
theorem callN_s {P : Prog} {n i : Nat} {f : Fn} (e : P.fns[i]? = some f) (ds : List D) (h : HH) : callN P (n + 1) i ds h = (match f.kind with
      | .fn true => pureRun P (callN P n) f ds h
      | .fn false => (body P (callN P n) f ds h).bd fun d h1 => .ok (.val d) h1
      | .ctor c true => makeRun P (callN P n) c f ds h
      | .ctor c false => (body P (callN P n) f (.ref h.length :: ds) (h ++ [.ins c [] []])).bd fun d h1 => match d with
        | .non => .ok (.val (.ref h.length)) h1
        | _ => .no) := by
  show (match P.fns[i]? with
    | none => R.no
    | some f => _) = _
  rw [e] <;> rfl
theorem Ans.call {P : Prog} {k n i : Nat} {es ds : List D} {r : Ret} {h : HH} (a : Ans P k i es r) (l : lends h ds = some es) (hn : k + 1 ≤ n) : callN P n i ds h = .ok r h := by
  obtain ⟨f, d, h1, e1, e2, e3, e4⟩ := a.ex
  refine callN_mono hn ?_ (by intro z; cases z)
  rw [callN_s e1, e2]
  dsimp only
  unfold pureRun
  rw [l]
  dsimp only
  rw [e3]
  dsimp only
  rw [e4]
theorem Ans.mono {P : Prog} {k n i : Nat} {es : List D} {r : Ret} (a : Ans P k i es r) (hn : k ≤ n) : Ans P n i es r := by
  obtain ⟨f, d, h1, e1, e2, e3, e4⟩ := a.ex
  refine ⟨f, d, h1, e1, e2, ?_, e4⟩
  clear e1 e2
  induction hn with
  | refl => exact e3
  | step _ ih =>
    rcases body_le (callN_le P _) f es [] with z | z
    · rw [ih] at z
      cases z
    · rw [← z]
      exact ih
/-- a def that shares the heap -/
theorem callN_sh {P : Prog} {n i : Nat} {f : Fn} {ds : List D} {h h1 : HH} {d : D} (e : P.fns[i]? = some f) (k : f.kind = .fn false) (b : body P (callN P n) f ds h = .ok d h1) : callN P (n + 1) i ds h = .ok (.val d) h1 := by
  rw [callN_s e, k]
  dsimp only
  rw [b]
  rfl
theorem body_rt {P : Prog} {o : Orc} {f : Fn} {ds : List D} {h h1 : HH} {d : D} (l : (ds.length == f.np) = true) (e : run P o f.body (startE f.nl ds) h = .rt d h1) : body P o f ds h = .ok d h1 := by
  unfold body
  rw [l]
  dsimp only
  rw [e]
theorem body_nx {P : Prog} {o : Orc} {f : Fn} {ds : List D} {h h1 : HH} {ρ : Env} (l : (ds.length == f.np) = true) (e : run P o f.body (startE f.nl ds) h = .nx ρ h1) : body P o f ds h = .ok .non h1 := by
  unfold body
  rw [l]
  dsimp only
  rw [e]
/-! ### sizes of intsD -/
def Bd (k : Nat) (i : Int) : Prop := i.natAbs < 2 ^ k
theorem Bd.le {k n : Nat} {i : Int} (b : Bd k i) (h : k ≤ n) : Bd n i := Nat.lt_of_lt_of_le b (Nat.pow_le_pow_right (by decide) h)
theorem Bd.add {k : Nat} {i j : Int} (a : Bd k i) (b : Bd k j) : Bd (k + 1) (i + j) := by
  unfold Bd at *
  have := Int.natAbs_add_le i j
  rw [Nat.pow_succ]
  omega
theorem Bd.neg {k : Nat} {i : Int} (a : Bd k i) : Bd k (-i) := by
  unfold Bd at *
  rwa [Int.natAbs_neg]
theorem Bd.sub {k : Nat} {i j : Int} (a : Bd k i) (b : Bd k j) : Bd (k + 1) (i - j) := by
  rw [Int.sub_eq_add_neg]
  exact a.add b.neg
theorem Bd.mul {k n : Nat} {i j : Int} (a : Bd k i) (b : Bd n j) : Bd (k + n) (i * j) := by
  unfold Bd at *
  rw [Int.natAbs_mul, Nat.pow_add]
  exact Nat.mul_lt_mul'' a b
theorem log2_lt_of {n k : Nat} (h : n < 2 ^ k) : n.log2 ≤ k := by
  by_cases hn : n = 0
  · subst hn
    simp
  · have := (Nat.log2_lt hn).mpr h
    omega
theorem Bd.ok {k n : Nat} {i j : Int} (a : Bd k i) (b : Bd n j) (h : k + n < 1000000 := by decide) : mulOk i j = true := by
  unfold mulOk
  have h1 := log2_lt_of a
  have h2 := log2_lt_of b
  exact Nat.ble_eq_true_of_le (by omega)
theorem Bd.nat {k : Nat} {i : Nat} (h : i < 2 ^ k) : Bd k (i : Int) := h
end MV

set_option maxRecDepth 100000
set_option maxHeartbeats 4000000
/-! the text of the law in own syntax, by gen.py -/
namespace MV.X
open MV
def b_law : S := (.seq (.asg (.t_n 1) (.call true 1 (.cons (.v 0) .nil))) (.seq (.loop (.t_n 2) (.i_r1 (.c (.int 5))) (.seq (.asg (.t_n 3) (.call false 2 (.cons (.call false 3 (.cons (.v 1) .nil)) .nil))) (.seq (.asg (.t_n 4) (.call false 4 (.cons (.v 1) (.cons (.v 3) (.cons (.c (.int 10)) .nil))))) (.seq (.par [5, 6] (.cons (.call false 5 (.cons (.v 3) (.cons (.v 4) .nil))) (.cons (.call false 6 (.cons (.v 3) (.cons (.v 4) .nil))) .nil))) (.seq (.asg (.t_n 7) (.meth true 0 (.v 5) [(0, 7)] .nil)) (.seq (.ite (.bnot (.call false 8 (.cons (.v 7) (.cons (.v 6) .nil)))) (.seq (.ret (.c (.bl false))) .skip) .skip) (.seq (.ite (.band (.cmp .NotEq (.ix (.v 4) (.c (.int 0))) (.tup .nil)) (.b1 (.blt false .all (.cons (.comp false [10] (.t_n 10) (.i_e (.bin .Add false (.bin .Add false (.ix (.v 6) (.c (.int 0))) (.ix (.v 6) (.c (.int 1)))) (.ix (.v 6) (.c (.int 2))))) .nil (.cmp .Eq (.bin .Mod false (.blt false .int (.cons (.v 10) .nil)) (.ix (.v 3) (.c (.int 0)))) (.c (.int 0)))) .nil)))) (.seq (.ret (.c (.bl false))) .skip) .skip) (.seq (.ex (.bm .clear (.v 7) .nil)) (.seq (.ite (.bnot (.call false 8 (.cons (.meth false 0 (.v 5) [(0, 7)] .nil) (.cons (.v 6) .nil)))) (.seq (.ret (.c (.bl false))) .skip) .skip) (.seq (.par [8, 9] (.cons (.meth false 1 (.v 5) [(0, 9)] .nil) (.cons (.call false 10 (.cons (.ix (.v 3) (.c (.int 0))) (.cons (.blt false .len (.cons (.ix (.v 4) (.c (.int 0))) .nil)) .nil))) .nil))) (.seq (.ite (.bor (.bnot (.isi (.v 8) [.tuple])) (.bor (.cmp .NotEq (.blt false .len (.cons (.v 8) .nil)) (.c (.int 4))) (.b1 (.bnot (.blt false .all (.cons (.comp false [10] (.t_n 10) (.i_e (.v 8)) .nil (.band (.isi (.v 10) [.int]) (.b1 (.bnot (.isi (.v 10) [.bool]))))) .nil)))))) (.seq (.ret (.c (.bl false))) .skip) .skip) (.seq (.ite (.bor (.cmp .Lt (.ix (.comp false [10] (.t_n 10) (.i_e (.v 8)) (.cons (.cmp .NotEq (.v 10) (.c (.int 0))) .nil) (.v 10)) (.c (.int 0))) (.c (.int 0))) (.b1 (.cmp .NotIn (.call false 11 (.cons (.v 8) .nil)) (.tup (.cons (.v 9) (.cons (.bin .Mult false (.c (.int 2)) (.v 9)) (.cons (.bin .Mult false (.c (.int 4)) (.v 9)) .nil))))))) (.seq (.ret (.c (.bl false))) .skip) .skip) (.seq (.ite (.cmp .NotEq (.call false 12 (.cons (.call false 13 (.cons (.v 8) .nil)) (.cons (.v 9) .nil))) (.call false 12 (.cons (.v 6) (.cons (.call false 11 (.cons (.v 8) .nil)) .nil)))) (.seq (.ret (.c (.bl false))) .skip) .skip) .skip))))))))))))) (.seq (.ret (.call false 8 (.cons (.lst false (.cons (.meth false 0 (.call false 14 (.cons (.c (.int 5)) (.cons (.lst false (.cons (.c (.int 5)) .nil)) .nil))) [(0, 7)] .nil) (.cons (.meth false 1 (.call false 14 (.cons (.c (.int 5)) (.cons (.lst false (.cons (.c (.int 5)) .nil)) .nil))) [(0, 9)] .nil) .nil))) (.cons (.lst false (.cons (.lst false (.cons (.tup (.cons (.c (.int 5)) (.cons (.c (.int 0)) (.cons (.c (.int 0)) .nil)))) (.cons (.tup (.cons (.c (.int 0)) (.cons (.neg (.c (.int 3))) (.cons (.neg (.c (.int 4))) .nil)))) (.cons (.tup (.cons (.c (.int 0)) (.cons (.c (.int 4)) (.cons (.neg (.c (.int 3))) .nil)))) .nil)))) (.cons (.tup (.cons (.c (.int 1)) (.cons (.c (.int 2)) (.cons (.c (.int 0)) (.cons (.c (.int 0)) .nil))))) .nil))) .nil)))) .skip)))
abbrev F_law : Fn := { kind := .fn false, np := 1, nl := 11, body := b_law }
def i_law : Nat := 0
def b__law_bag : S := (.seq (.asg (.t_n 1) (.c (.int 3837))) (.seq (.loop (.t_n 2) (.i_e (.sl false (.v 0) .nil (.c (.int 63)))) (.seq (.asg (.t_n 1) (.bin .Mod false (.blt false .int (.cons (.bin .Add false (.bin .Add false (.bin .Mult false (.v 1) (.c (.int 44021))) (.bin .Mod false (.blt false .int (.cons (.v 2) .nil)) (.c (.int 2147483549)))) (.c (.int 31))) .nil)) (.c (.int 2147483647)))) .skip)) (.seq (.ret (.lst true (.cons (.blt false .list (.cons (.sl false (.v 0) .nil (.c (.int 63))) .nil)) (.cons (.c (.int 0)) (.cons (.c (.int 0)) (.cons (.v 1) (.cons (.c (.int 0)) .nil))))))) .skip)))
abbrev F__law_bag : Fn := { kind := .fn true, np := 1, nl := 3, body := b__law_bag }
def i__law_bag : Nat := 1
def b__law_hall : S := (.seq (.ret (.tup (.cons (.v 0) (.cons (.call false 15 (.cons (.v 0) .nil)) (.cons (.call false 16 .nil) (.cons .dct (.cons .dct .nil))))))) .skip)
abbrev F__law_hall : Fn := { kind := .fn false, np := 1, nl := 1, body := b__law_hall }
def i__law_hall : Nat := 2
def b__law_prime : S := (.seq (.ret (.call false 17 (.cons (.v 0) (.cons (.lst false (.cons (.c (.int 5)) (.cons (.c (.int 5)) (.cons (.c (.int 5)) (.cons (.c (.int 13)) (.cons (.c (.int 17)) (.cons (.c (.int 29)) .nil))))))) .nil)))) .skip)
abbrev F__law_prime : Fn := { kind := .fn false, np := 1, nl := 1, body := b__law_prime }
def i__law_prime : Nat := 3
def b__law_drawn : S := (.seq (.asg (.t_n 3) (.comp false [5] (.t_n 5) (.i_r1 (.call false 18 (.cons (.v 0) (.cons (.bin .Add false (.v 2) (.c (.int 1))) .nil)))) .nil (.call false 18 (.cons (.v 0) (.cons (.blt false .len (.cons (.ix (.v 1) (.c (.int 1))) .nil)) .nil))))) (.seq (.asg (.t_n 4) (.ife (.cmp .Eq (.call false 18 (.cons (.v 0) (.cons (.c (.int 2)) .nil))) (.c (.int 0))) (.c (.int 23)) (.call false 18 (.cons (.v 0) (.cons (.c (.int 24)) .nil))))) (.seq (.ret (.tup (.cons (.call false 19 (.cons (.v 1) (.cons (.v 3) .nil))) (.cons (.v 4) .nil)))) .skip)))
abbrev F__law_drawn : Fn := { kind := .fn false, np := 3, nl := 6, body := b__law_drawn }
def i__law_drawn : Nat := 4
def b__law_made : S := (.seq (.ret (.callk false 20 (.cons (.ix (.v 0) (.c (.int 0))) (.cons (.ix (.v 1) (.c (.int 0))) .nil)) (.cons (.ix (.v 1) (.c (.int 1))) .nil))) .skip)
abbrev F__law_made : Fn := { kind := .fn false, np := 2, nl := 2, body := b__law_made }
def i__law_made : Nat := 5
def b__law_rows : S := (.seq (.asg (.t_n 2) (.ix (.ix (.v 0) (.c (.int 2))) (.c (.int 23)))) (.seq (.loop (.t_n 3) (.i_e (.ix (.v 1) (.c (.int 0)))) (.seq (.asg (.t_n 2) (.call false 21 (.cons (.v 2) (.cons (.call false 13 (.cons (.ix (.ix (.v 0) (.c (.int 1))) (.v 3)) .nil)) .nil)))) .skip)) (.seq (.ret (.call false 21 (.cons (.v 2) (.cons (.ix (.ix (.v 0) (.c (.int 2))) (.ix (.v 1) (.c (.int 1)))) .nil)))) .skip)))
abbrev F__law_rows : Fn := { kind := .fn false, np := 2, nl := 4, body := b__law_rows }
def i__law_rows : Nat := 6
def b_Pose_matrix : S := (.seq (.asg (.t_n 1) (.call false 22 (.cons (.g 0) .nil))) (.seq (.loop (.t_n 2) (.i_e (.att (.v 0) 2 [])) (.seq (.asg (.t_n 1) (.call false 23 (.cons (.v 1) (.cons (.call false 24 (.cons (.ix (.ix (.g 1) (.att (.v 0) 3 [])) (.v 2)) .nil)) .nil)))) .skip)) (.seq (.ret (.call true 23 (.cons (.v 1) (.cons (.call false 22 (.cons (.att (.v 0) 4 []) .nil)) .nil)))) .skip)))
abbrev F_Pose_matrix : Fn := { kind := .fn true, np := 1, nl := 3, body := b_Pose_matrix }
def i_Pose_matrix : Nat := 7
def b__law_same : S := (.seq (.ite (.isi (.v 1) [.list, .tuple]) (.seq (.ite (.bor (.cmp .NotEq (.isi (.v 0) [.list]) (.isi (.v 1) [.list])) (.b1 (.cmp .NotEq (.isi (.v 0) [.tuple]) (.isi (.v 1) [.tuple])))) (.seq (.ret (.c (.bl false))) .skip) .skip) (.seq (.ret (.band (.cmp .Eq (.blt false .len (.cons (.v 0) .nil)) (.blt false .len (.cons (.v 1) .nil))) (.b1 (.blt false .all (.cons (.comp false [2] (.t_n 2) (.i_r1 (.blt false .len (.cons (.v 1) .nil))) .nil (.call false 8 (.cons (.ix (.v 0) (.v 2)) (.cons (.ix (.v 1) (.v 2)) .nil)))) .nil))))) .skip)) .skip) (.seq (.ite (.bor (.cmp .Is (.v 1) (.c .non)) (.b1 (.cmp .Is (.v 0) (.c .non)))) (.seq (.ret (.band (.cmp .Is (.v 0) (.c .non)) (.b1 (.cmp .Is (.v 1) (.c .non))))) .skip) .skip) (.seq (.ite (.bor (.cmp .NotEq (.isi (.v 1) [.bool]) (.isi (.v 0) [.bool])) (.b1 (.cmp .NotEq (.isi (.v 1) [.int]) (.isi (.v 0) [.int])))) (.seq (.ret (.c (.bl false))) .skip) .skip) (.seq (.ret (.band (.cmp .Eq (.isi (.v 1) [.str]) (.isi (.v 0) [.str])) (.b1 (.cmp .Eq (.v 0) (.v 1))))) .skip))))
abbrev F__law_same : Fn := { kind := .fn true, np := 2, nl := 3, body := b__law_same }
def i__law_same : Nat := 8
def b_Pose_spin : S := (.seq (.asg (.t_n 1) (.comp false [2] (.t_n 2) (.i_e (.att (.v 0) 2 [])) .nil (.ix (.ix (.g 1) (.att (.v 0) 3 [])) (.v 2)))) (.seq (.ret (.call true 25 (.cons (.call false 26 (.cons (.lst false (.star (.v 1) (.cons (.call false 27 (.cons (.att (.v 0) 4 []) .nil)) .nil))) .nil)) .nil))) .skip))
abbrev F_Pose_spin : Fn := { kind := .fn true, np := 1, nl := 3, body := b_Pose_spin }
def i_Pose_spin : Nat := 9
def b__law_power : S := (.seq (.asg (.t_n 2) (.c (.int 1))) (.seq (.loop (.t_n 3) (.i_r1 (.v 1)) (.seq (.asg (.t_n 2) (.bin .Mult false (.v 2) (.v 0))) .skip)) (.seq (.ret (.v 2)) .skip)))
abbrev F__law_power : Fn := { kind := .fn true, np := 2, nl := 4, body := b__law_power }
def i__law_power : Nat := 10
def b__law_norm : S := (.seq (.ret (.blt true .sum (.cons (.comp false [1] (.t_n 1) (.i_e (.v 0)) .nil (.bin .Mult false (.v 1) (.v 1))) .nil))) .skip)
abbrev F__law_norm : Fn := { kind := .fn true, np := 1, nl := 2, body := b__law_norm }
def i__law_norm : Nat := 11
def b__law_scaled : S := (.seq (.ret (.comp true [2] (.t_n 2) (.i_e (.v 0)) .nil (.blt false .tuple (.cons (.comp false [3] (.t_n 3) (.i_e (.v 2)) .nil (.bin .Mult false (.v 3) (.v 1))) .nil)))) .skip)
abbrev F__law_scaled : Fn := { kind := .fn true, np := 2, nl := 4, body := b__law_scaled }
def i__law_scaled : Nat := 12
def b__law_table : S := (.seq (.asg (.t_t (.cons (.t_n 1) (.cons (.t_n 2) (.cons (.t_n 3) (.cons (.t_n 4) .nil))))) (.v 0)) (.seq (.ret (.lst true (.cons (.tup (.cons (.bin .Sub false (.bin .Sub false (.bin .Add false (.bin .Mult false (.v 1) (.v 1)) (.bin .Mult false (.v 2) (.v 2))) (.bin .Mult false (.v 3) (.v 3))) (.bin .Mult false (.v 4) (.v 4))) (.cons (.bin .Mult false (.c (.int 2)) (.bin .Sub false (.bin .Mult false (.v 2) (.v 3)) (.bin .Mult false (.v 1) (.v 4)))) (.cons (.bin .Mult false (.c (.int 2)) (.bin .Add false (.bin .Mult false (.v 2) (.v 4)) (.bin .Mult false (.v 1) (.v 3)))) .nil)))) (.cons (.tup (.cons (.bin .Mult false (.c (.int 2)) (.bin .Add false (.bin .Mult false (.v 2) (.v 3)) (.bin .Mult false (.v 1) (.v 4)))) (.cons (.bin .Sub false (.bin .Add false (.bin .Sub false (.bin .Mult false (.v 1) (.v 1)) (.bin .Mult false (.v 2) (.v 2))) (.bin .Mult false (.v 3) (.v 3))) (.bin .Mult false (.v 4) (.v 4))) (.cons (.bin .Mult false (.c (.int 2)) (.bin .Sub false (.bin .Mult false (.v 3) (.v 4)) (.bin .Mult false (.v 1) (.v 2)))) .nil)))) (.cons (.tup (.cons (.bin .Mult false (.c (.int 2)) (.bin .Sub false (.bin .Mult false (.v 2) (.v 4)) (.bin .Mult false (.v 1) (.v 3)))) (.cons (.bin .Mult false (.c (.int 2)) (.bin .Add false (.bin .Mult false (.v 3) (.v 4)) (.bin .Mult false (.v 1) (.v 2)))) (.cons (.bin .Add false (.bin .Sub false (.bin .Sub false (.bin .Mult false (.v 1) (.v 1)) (.bin .Mult false (.v 2) (.v 2))) (.bin .Mult false (.v 3) (.v 3))) (.bin .Mult false (.v 4) (.v 4))) .nil)))) .nil))))) .skip))
abbrev F__law_table : Fn := { kind := .fn true, np := 1, nl := 5, body := b__law_table }
def i__law_table : Nat := 13
def b_Pose___init__ : S := (.seq (.ex (.call false 28 (.cons (.v 1) .nil))) (.seq (.loop (.t_n 4) (.i_e (.v 2)) (.seq (.ite (.bnot (.chain .LtE .Lt (.c (.int 0)) (.v 4) (.blt false .len (.cons (.ix (.g 1) (.v 1)) .nil)))) (.seq (.rais 0 .nil) .skip) .skip) .skip)) (.seq (.ex (.call false 29 (.cons (.v 3) .nil))) (.seq (.asg (.t_a (.v 0) 3) (.v 1)) (.seq (.asg (.t_a (.v 0) 2) (.call false 30 (.cons (.v 1) (.cons (.tup .nil) (.cons (.v 2) .nil))))) (.seq (.asg (.t_a (.v 0) 4) (.v 3)) .skip))))))
abbrev F_Pose___init__ : Fn := { kind := .ctor 0 true, np := 4, nl := 5, body := b_Pose___init__ }
def i_Pose___init__ : Nat := 14
def b__law_letters : S := (.seq (.asg (.t_n 1) (.lst false .nil)) (.seq (.loop (.t_n 2) (.i_e (.tup (.cons (.c (.int 1)) (.cons (.c (.int 3)) (.cons (.c (.int 5)) .nil))))) (.seq (.loop (.t_n 3) (.i_e (.tup (.cons (.neg (.c (.int 4))) (.cons (.neg (.c (.int 2))) (.cons (.c (.int 0)) (.cons (.c (.int 2)) (.cons (.c (.int 4)) .nil))))))) (.seq (.loop (.t_n 4) (.i_e (.tup (.cons (.neg (.c (.int 4))) (.cons (.neg (.c (.int 2))) (.cons (.c (.int 0)) (.cons (.c (.int 2)) (.cons (.c (.int 4)) .nil))))))) (.seq (.asg (.t_n 1) (.bin .Add false (.v 1) (.comp false [5] (.t_n 5) (.i_e (.tup (.cons (.neg (.c (.int 4))) (.cons (.neg (.c (.int 2))) (.cons (.c (.int 0)) (.cons (.c (.int 2)) (.cons (.c (.int 4)) .nil))))))) (.cons (.cmp .Eq (.bin .Add false (.bin .Add false (.bin .Add false (.bin .Mult false (.v 2) (.v 2)) (.bin .Mult false (.v 3) (.v 3))) (.bin .Mult false (.v 4) (.v 4))) (.bin .Mult false (.v 5) (.v 5))) (.v 0)) .nil) (.tup (.cons (.v 2) (.cons (.v 3) (.cons (.v 4) (.cons (.v 5) .nil)))))))) .skip)) .skip)) .skip)) (.seq (.ret (.v 1)) .skip)))
abbrev F__law_letters : Fn := { kind := .fn true, np := 1, nl := 6, body := b__law_letters }
def i__law_letters : Nat := 15
def b__law_quarters : S := (.seq (.asg (.t_n 0) (.lst false (.cons (.tup (.cons (.neg (.c (.int 1))) (.cons (.c (.int 0)) (.cons (.c (.int 0)) .nil)))) (.cons (.tup (.cons (.c (.int 0)) (.cons (.neg (.c (.int 1))) (.cons (.c (.int 0)) .nil)))) (.cons (.tup (.cons (.c (.int 0)) (.cons (.c (.int 0)) (.cons (.neg (.c (.int 1))) .nil)))) (.cons (.tup (.cons (.c (.int 0)) (.cons (.c (.int 0)) (.cons (.c (.int 1)) .nil)))) (.cons (.tup (.cons (.c (.int 0)) (.cons (.c (.int 1)) (.cons (.c (.int 0)) .nil)))) (.cons (.tup (.cons (.c (.int 1)) (.cons (.c (.int 0)) (.cons (.c (.int 0)) .nil)))) .nil)))))))) (.seq (.asg (.t_n 1) (.lst true .nil)) (.seq (.loop (.t_t (.cons (.t_n 2) (.cons (.t_n 3) (.cons (.t_n 4) .nil)))) (.i_e (.v 0)) (.seq (.loop (.t_t (.cons (.t_n 5) (.cons (.t_n 6) (.cons (.t_n 7) .nil)))) (.i_e (.v 0)) (.seq (.ite (.cmp .Eq (.bin .Add false (.bin .Add false (.bin .Mult false (.v 2) (.v 5)) (.bin .Mult false (.v 3) (.v 6))) (.bin .Mult false (.v 4) (.v 7))) (.c (.int 0))) (.seq (.ex (.bm .append (.v 1) (.cons (.lst false (.cons (.tup (.cons (.v 2) (.cons (.v 3) (.cons (.v 4) .nil)))) (.cons (.tup (.cons (.v 5) (.cons (.v 6) (.cons (.v 7) .nil)))) (.cons (.tup (.cons (.bin .Sub false (.bin .Mult false (.v 3) (.v 7)) (.bin .Mult false (.v 4) (.v 6))) (.cons (.bin .Sub false (.bin .Mult false (.v 4) (.v 5)) (.bin .Mult false (.v 2) (.v 7))) (.cons (.bin .Sub false (.bin .Mult false (.v 2) (.v 6)) (.bin .Mult false (.v 3) (.v 5))) .nil)))) .nil)))) .nil))) .skip) .skip) .skip)) .skip)) (.seq (.ret (.v 1)) .skip))))
abbrev F__law_quarters : Fn := { kind := .fn true, np := 0, nl := 8, body := b__law_quarters }
def i__law_quarters : Nat := 16
def b__law_of : S := (.seq (.ret (.ix (.v 1) (.call false 18 (.cons (.v 0) (.cons (.blt false .len (.cons (.v 1) .nil)) .nil))))) .skip)
abbrev F__law_of : Fn := { kind := .fn false, np := 2, nl := 2, body := b__law_of }
def i__law_of : Nat := 17
def b__law_pull : S := (.seq (.ite (.band (.cmp .Eq (.ix (.v 0) (.c (.int 2))) (.c (.int 0))) (.b1 (.cmp .Lt (.ix (.v 0) (.c (.int 1))) (.blt false .len (.cons (.ix (.v 0) (.c (.int 0))) .nil))))) (.seq (.asg (.t_n 2) (.ix (.ix (.v 0) (.c (.int 0))) (.ix (.v 0) (.c (.int 1))))) (.seq (.asg (.t_s (.v 0) (.c (.int 1))) (.bin .Add false (.ix (.v 0) (.c (.int 1))) (.c (.int 1)))) (.seq (.ite (.cmp .GtE (.v 2) (.bin .Pow false (.c (.int 10)) (.c (.int 18)))) (.seq (.asg (.t_s (.v 0) (.c (.int 2))) (.v 2)) .skip) (.seq (.asg (.t_s (.v 0) (.c (.int 3))) (.bin .Mod false (.blt false .int (.cons (.bin .Add false (.bin .Add false (.bin .Mult false (.ix (.v 0) (.c (.int 3))) (.c (.int 40127))) (.bin .Mod false (.blt false .int (.cons (.v 2) .nil)) (.c (.int 2147483543)))) (.c (.int 19))) .nil)) (.c (.int 2147483647)))) .skip)) .skip))) .skip) (.seq (.ite (.cmp .Gt (.ix (.v 0) (.c (.int 2))) (.c (.int 0))) (.seq (.asg (.t_n 3) (.bin .Mod false (.blt false .int (.cons (.ix (.v 0) (.c (.int 2))) .nil)) (.v 1))) (.seq (.asg (.t_s (.v 0) (.c (.int 2))) (.bin .FloorDiv false (.ix (.v 0) (.c (.int 2))) (.v 1))) (.seq (.ret (.v 3)) .skip))) .skip) (.seq (.asg (.t_s (.v 0) (.c (.int 4))) (.bin .Add false (.ix (.v 0) (.c (.int 4))) (.c (.int 1)))) (.seq (.asg (.t_n 4) (.bin .Mod false (.blt false .int (.cons (.bin .Add false (.ix (.v 0) (.c (.int 3))) (.bin .Mult false (.ix (.v 0) (.c (.int 4))) (.c (.int 8209)))) .nil)) (.c (.int 2147483647)))) (.seq (.asg (.t_s (.v 0) (.c (.int 3))) (.bin .Mod false (.blt false .int (.cons (.bin .Add false (.bin .Add false (.bin .Pow false (.v 4) (.c (.int 3))) (.bin .Mult false (.c (.int 28657)) (.v 4))) (.c (.int 3319))) .nil)) (.c (.int 2147483647)))) (.seq (.ret (.bin .Mod false (.blt false .int (.cons (.bin .Add false (.bin .FloorDiv false (.ix (.v 0) (.c (.int 3))) (.c (.int 71))) (.bin .Mult false (.bin .Mod false (.blt false .int (.cons (.ix (.v 0) (.c (.int 3))) .nil)) (.c (.int 7907))) (.c (.int 43)))) .nil)) (.v 1))) .skip))))))
abbrev F__law_pull : Fn := { kind := .fn false, np := 2, nl := 5, body := b__law_pull }
def i__law_pull : Nat := 18
def b__law_reduced : S := (.seq (.asg (.t_n 2) (.lst true .nil)) (.seq (.loop (.t_n 3) (.i_e (.v 1)) (.seq (.ite (.band (.cmp .NotEq (.v 2) (.lst false .nil)) (.b1 (.cmp .Eq (.ix (.v 2) (.neg (.c (.int 1)))) (.call false 31 (.cons (.v 0) (.cons (.v 3) .nil)))))) (.seq (.ex (.bm .pop (.v 2) .nil)) .skip) (.seq (.ex (.bm .append (.v 2) (.cons (.v 3) .nil))) .skip)) .skip)) (.seq (.ret (.blt false .tuple (.cons (.v 2) .nil))) .skip)))
abbrev F__law_reduced : Fn := { kind := .fn false, np := 2, nl := 4, body := b__law_reduced }
def i__law_reduced : Nat := 19
def b__law_mult : S := (.seq (.asg (.t_n 2) (.lst true .nil)) (.seq (.loop (.t_n 3) (.i_e (.v 0)) (.seq (.ex (.bm .append (.v 2) (.cons (.blt false .tuple (.cons (.comp false [4] (.t_n 4) (.i_r1 (.c (.int 3))) .nil (.bin .Add false (.bin .Add false (.bin .Mult false (.ix (.v 3) (.c (.int 0))) (.ix (.ix (.v 1) (.c (.int 0))) (.v 4))) (.bin .Mult false (.ix (.v 3) (.c (.int 1))) (.ix (.ix (.v 1) (.c (.int 1))) (.v 4)))) (.bin .Mult false (.ix (.v 3) (.c (.int 2))) (.ix (.ix (.v 1) (.c (.int 2))) (.v 4))))) .nil)) .nil))) .skip)) (.seq (.ret (.v 2)) .skip)))
abbrev F__law_mult : Fn := { kind := .fn true, np := 2, nl := 5, body := b__law_mult }
def i__law_mult : Nat := 20
def b_quarter_rows : S := (.seq (.ex (.call false 29 (.cons (.v 0) .nil))) (.seq (.ret (.comp true [1] (.t_n 1) (.i_e (.call false 32 (.cons (.v 0) .nil))) .nil (.ix (.g 2) (.v 1)))) .skip))
abbrev F_quarter_rows : Fn := { kind := .fn true, np := 1, nl := 2, body := b_quarter_rows }
def i_quarter_rows : Nat := 21
def b_product_rows : S := (.seq (.ret (.comp true [2] (.t_n 2) (.i_e (.v 0)) .nil (.blt false .tuple (.cons (.comp false [3] (.t_n 3) (.i_r1 (.c (.int 3))) .nil (.blt false .sum (.cons (.comp false [4] (.t_n 4) (.i_r1 (.c (.int 3))) .nil (.bin .Mult false (.ix (.v 2) (.v 4)) (.ix (.ix (.v 1) (.v 4)) (.v 3)))) .nil))) .nil)))) .skip)
abbrev F_product_rows : Fn := { kind := .fn true, np := 2, nl := 5, body := b_product_rows }
def i_product_rows : Nat := 22
def b_table_of : S := (.seq (.asg (.t_t (.cons (.t_n 1) (.cons (.t_n 2) (.cons (.t_n 3) (.cons (.t_n 4) .nil))))) (.v 0)) (.seq (.ret (.lst true (.cons (.tup (.cons (.bin .Sub false (.bin .Sub false (.bin .Add false (.bin .Mult false (.v 1) (.v 1)) (.bin .Mult false (.v 2) (.v 2))) (.bin .Mult false (.v 3) (.v 3))) (.bin .Mult false (.v 4) (.v 4))) (.cons (.bin .Mult false (.c (.int 2)) (.bin .Sub false (.bin .Mult false (.v 2) (.v 3)) (.bin .Mult false (.v 1) (.v 4)))) (.cons (.bin .Mult false (.c (.int 2)) (.bin .Add false (.bin .Mult false (.v 2) (.v 4)) (.bin .Mult false (.v 1) (.v 3)))) .nil)))) (.cons (.tup (.cons (.bin .Mult false (.c (.int 2)) (.bin .Add false (.bin .Mult false (.v 2) (.v 3)) (.bin .Mult false (.v 1) (.v 4)))) (.cons (.bin .Sub false (.bin .Add false (.bin .Sub false (.bin .Mult false (.v 1) (.v 1)) (.bin .Mult false (.v 2) (.v 2))) (.bin .Mult false (.v 3) (.v 3))) (.bin .Mult false (.v 4) (.v 4))) (.cons (.bin .Mult false (.c (.int 2)) (.bin .Sub false (.bin .Mult false (.v 3) (.v 4)) (.bin .Mult false (.v 1) (.v 2)))) .nil)))) (.cons (.tup (.cons (.bin .Mult false (.c (.int 2)) (.bin .Sub false (.bin .Mult false (.v 2) (.v 4)) (.bin .Mult false (.v 1) (.v 3)))) (.cons (.bin .Mult false (.c (.int 2)) (.bin .Add false (.bin .Mult false (.v 3) (.v 4)) (.bin .Mult false (.v 1) (.v 2)))) (.cons (.bin .Add false (.bin .Sub false (.bin .Sub false (.bin .Mult false (.v 1) (.v 1)) (.bin .Mult false (.v 2) (.v 2))) (.bin .Mult false (.v 3) (.v 3))) (.bin .Mult false (.v 4) (.v 4))) .nil)))) .nil))))) .skip))
abbrev F_table_of : Fn := { kind := .fn true, np := 1, nl := 5, body := b_table_of }
def i_table_of : Nat := 23
def b_primitive : S := (.seq (.asg (.t_n 1) (.c (.int 0))) (.seq (.loop (.t_n 2) (.i_e (.v 0)) (.seq (.asg (.t_n 1) (.call false 33 (.cons (.v 1) (.cons (.v 2) .nil)))) .skip)) (.seq (.ite (.cmp .Eq (.v 1) (.c (.int 0))) (.seq (.rais 0 .nil) .skip) .skip) (.seq (.ite (.cmp .Lt (.ix (.comp false [2] (.t_n 2) (.i_e (.v 0)) (.cons (.cmp .NotEq (.v 2) (.c (.int 0))) .nil) (.v 2)) (.c (.int 0))) (.c (.int 0))) (.seq (.asg (.t_n 1) (.neg (.v 1))) .skip) .skip) (.seq (.ret (.blt true .tuple (.cons (.comp false [2] (.t_n 2) (.i_e (.v 0)) .nil (.bin .FloorDiv false (.v 2) (.v 1))) .nil))) .skip)))))
abbrev F_primitive : Fn := { kind := .fn true, np := 1, nl := 3, body := b_primitive }
def i_primitive : Nat := 24
def b_joined_spins : S := (.seq (.asg (.t_n 1) (.g 3)) (.seq (.loop (.t_n 2) (.i_e (.v 0)) (.seq (.asg (.t_n 1) (.call false 34 (.cons (.v 1) (.cons (.v 2) .nil)))) .skip)) (.seq (.ret (.v 1)) .skip)))
abbrev F_joined_spins : Fn := { kind := .fn true, np := 1, nl := 3, body := b_joined_spins }
def i_joined_spins : Nat := 25
def b_quarter_spin : S := (.seq (.par [1, 2] (.cons (.call false 22 (.cons (.v 0) .nil)) (.cons (.tup (.cons (.neg (.c (.int 1))) (.cons (.c (.int 0)) (.cons (.c (.int 1)) .nil)))) .nil))) (.seq (.loop (.t_n 3) (.i_e (.tup (.cons (.c (.int 1)) (.cons (.c (.int 2)) (.cons (.c (.int 4)) .nil))))) (.seq (.loop (.t_n 4) (.i_e (.tup (.cons (.c (.int 0)) (.cons (.c (.int 1)) .nil)))) (.seq (.loop (.t_n 5) (.i_e (.v 2)) (.seq (.loop (.t_n 6) (.i_e (.v 2)) (.seq (.loop (.t_n 7) (.i_e (.v 2)) (.seq (.asg (.t_n 8) (.tup (.cons (.v 4) (.cons (.v 5) (.cons (.v 6) (.cons (.v 7) .nil)))))) (.seq (.asg (.t_n 9) (.comp false [10] (.t_n 10) (.i_e (.v 1)) .nil (.blt false .tuple (.cons (.comp false [11] (.t_n 11) (.i_e (.v 10)) .nil (.bin .Mult false (.v 3) (.v 11))) .nil)))) (.seq (.ite (.band (.cmp .Eq (.call false 35 (.cons (.v 8) .nil)) (.v 3)) (.band (.cmp .Eq (.call false 25 (.cons (.v 8) .nil)) (.v 8)) (.b1 (.cmp .Eq (.call false 24 (.cons (.v 8) .nil)) (.v 9))))) (.seq (.ret (.v 8)) .skip) .skip) .skip)))) .skip)) .skip)) .skip)) .skip)) (.seq (.ret (.g 3)) .skip)))
abbrev F_quarter_spin : Fn := { kind := .fn true, np := 1, nl := 12, body := b_quarter_spin }
def i_quarter_spin : Nat := 26
def b_check_prime : S := (.seq (.ite (.cmp .NotIn (.v 0) (.g 4)) (.seq (.rais 0 .nil) .skip) .skip) .skip)
abbrev F_check_prime : Fn := { kind := .fn true, np := 1, nl := 1, body := b_check_prime }
def i_check_prime : Nat := 27
def b_check_quarter : S := (.seq (.ite (.bnot (.chain .LtE .Lt (.c (.int 0)) (.v 0) (.g 5))) (.seq (.rais 0 .nil) .skip) .skip) .skip)
abbrev F_check_quarter : Fn := { kind := .fn true, np := 1, nl := 1, body := b_check_quarter }
def i_check_quarter : Nat := 28
def b_joined : S := (.seq (.asg (.t_n 3) (.blt true .list (.cons (.v 1) .nil))) (.seq (.loop (.t_n 4) (.i_e (.v 2)) (.seq (.ite (.band (.cmp .NotEq (.v 3) (.lst false .nil)) (.b1 (.cmp .Eq (.ix (.v 3) (.neg (.c (.int 1)))) (.call false 36 (.cons (.v 0) (.cons (.v 4) .nil)))))) (.seq (.ex (.bm .pop (.v 3) .nil)) .skip) (.seq (.ex (.bm .append (.v 3) (.cons (.v 4) .nil))) .skip)) .skip)) (.seq (.ret (.blt true .tuple (.cons (.v 3) .nil))) .skip)))
abbrev F_joined : Fn := { kind := .fn true, np := 3, nl := 5, body := b_joined }
def i_joined : Nat := 29
def b__law_undone : S := (.seq (.asg (.t_t (.cons (.t_n 2) (.cons (.t_n 3) (.cons (.t_n 4) (.cons (.t_n 5) .nil))))) (.ix (.ix (.v 0) (.c (.int 1))) (.v 1))) (.seq (.ret (.bm .index (.ix (.v 0) (.c (.int 1))) (.cons (.tup (.cons (.v 2) (.cons (.neg (.v 3)) (.cons (.neg (.v 4)) (.cons (.neg (.v 5)) .nil))))) .nil))) .skip))
abbrev F__law_undone : Fn := { kind := .fn false, np := 2, nl := 6, body := b__law_undone }
def i__law_undone : Nat := 30
def b_sides : S := (.seq (.asg (.t_n 1) (.bin .FloorDiv false (.v 0) (.c (.int 4)))) (.seq (.asg (.t_n 2) (.ix (.call false 37 (.cons (.v 1) .nil)) (.bin .Mod false (.v 0) (.c (.int 4))))) (.seq (.ret (.tup (.cons (.v 1) (.cons (.v 2) (.cons (.call false 38 (.cons (.v 1) (.cons (.v 2) .nil))) .nil))))) .skip)))
abbrev F_sides : Fn := { kind := .fn true, np := 1, nl := 3, body := b_sides }
def i_sides : Nat := 31
def b_common_divisor : S := (.seq (.par [0, 1] (.cons (.blt false .abs (.cons (.v 0) .nil)) (.cons (.blt false .abs (.cons (.v 1) .nil)) .nil))) (.seq (.whil (.cmp .Gt (.v 1) (.c (.int 0))) (.seq (.par [0, 1] (.cons (.v 1) (.cons (.bin .Mod false (.v 0) (.v 1)) .nil))) .skip)) (.seq (.ret (.v 0)) .skip)))
abbrev F_common_divisor : Fn := { kind := .fn true, np := 2, nl := 2, body := b_common_divisor }
def i_common_divisor : Nat := 32
def b_multiply : S := (.seq (.asg (.t_t (.cons (.t_n 2) (.cons (.t_n 3) (.cons (.t_n 4) (.cons (.t_n 5) .nil))))) (.v 0)) (.seq (.asg (.t_t (.cons (.t_n 6) (.cons (.t_n 7) (.cons (.t_n 8) (.cons (.t_n 9) .nil))))) (.v 1)) (.seq (.asg (.t_n 10) (.bin .Sub false (.bin .Sub false (.bin .Sub false (.bin .Mult false (.v 2) (.v 6)) (.bin .Mult false (.v 3) (.v 7))) (.bin .Mult false (.v 4) (.v 8))) (.bin .Mult false (.v 5) (.v 9)))) (.seq (.ret (.tup (.cons (.v 10) (.cons (.bin .Sub false (.bin .Add false (.bin .Add false (.bin .Mult false (.v 2) (.v 7)) (.bin .Mult false (.v 3) (.v 6))) (.bin .Mult false (.v 4) (.v 9))) (.bin .Mult false (.v 5) (.v 8))) (.cons (.bin .Add false (.bin .Add false (.bin .Sub false (.bin .Mult false (.v 2) (.v 8)) (.bin .Mult false (.v 3) (.v 9))) (.bin .Mult false (.v 4) (.v 6))) (.bin .Mult false (.v 5) (.v 7))) (.cons (.bin .Add false (.bin .Sub false (.bin .Add false (.bin .Mult false (.v 2) (.v 9)) (.bin .Mult false (.v 3) (.v 8))) (.bin .Mult false (.v 4) (.v 7))) (.bin .Mult false (.v 5) (.v 6))) .nil)))))) .skip))))
abbrev F_multiply : Fn := { kind := .fn true, np := 2, nl := 11, body := b_multiply }
def i_multiply : Nat := 33
def b_norm : S := (.seq (.ret (.blt true .sum (.cons (.comp false [1] (.t_n 1) (.i_e (.v 0)) .nil (.bin .Mult false (.v 1) (.v 1))) .nil))) .skip)
abbrev F_norm : Fn := { kind := .fn true, np := 1, nl := 2, body := b_norm }
def i_norm : Nat := 34
def b_undone_letter : S := (.seq (.ret (.bm .index (.ix (.g 1) (.v 0)) (.cons (.call false 39 (.cons (.ix (.ix (.g 1) (.v 0)) (.v 1)) .nil)) .nil))) .skip)
abbrev F_undone_letter : Fn := { kind := .fn true, np := 2, nl := 2, body := b_undone_letter }
def i_undone_letter : Nat := 35
def b_others_of : S := (.seq (.ret (.comp true [1] (.t_n 1) (.i_r1 (.c (.int 6))) (.cons (.cmp .NotIn (.v 1) (.tup (.cons (.v 0) (.cons (.bin .Sub false (.c (.int 5)) (.v 0)) .nil)))) .nil) (.v 1))) .skip)
abbrev F_others_of : Fn := { kind := .fn true, np := 1, nl := 2, body := b_others_of }
def i_others_of : Nat := 36
def b_cross : S := (.seq (.asg (.t_t (.cons (.t_n 2) (.cons (.t_n 3) (.cons (.t_n 4) .nil)))) (.ix (.g 2) (.v 0))) (.seq (.asg (.t_t (.cons (.t_n 5) (.cons (.t_n 6) (.cons (.t_n 7) .nil)))) (.ix (.g 2) (.v 1))) (.seq (.ret (.bm .index (.g 2) (.cons (.tup (.cons (.bin .Sub false (.bin .Mult false (.v 3) (.v 7)) (.bin .Mult false (.v 4) (.v 6))) (.cons (.bin .Sub false (.bin .Mult false (.v 4) (.v 5)) (.bin .Mult false (.v 2) (.v 7))) (.cons (.bin .Sub false (.bin .Mult false (.v 2) (.v 6)) (.bin .Mult false (.v 3) (.v 5))) .nil)))) .nil))) .skip)))
abbrev F_cross : Fn := { kind := .fn true, np := 2, nl := 8, body := b_cross }
def i_cross : Nat := 37
def b_opposite : S := (.seq (.asg (.t_t (.cons (.t_n 1) (.cons (.t_n 2) (.cons (.t_n 3) (.cons (.t_n 4) .nil))))) (.v 0)) (.seq (.ret (.tup (.cons (.v 1) (.cons (.neg (.v 2)) (.cons (.neg (.v 3)) (.cons (.neg (.v 4)) .nil)))))) .skip))
abbrev F_opposite : Fn := { kind := .fn true, np := 1, nl := 5, body := b_opposite }
def i_opposite : Nat := 38
def P : Prog := { fns := [F_law, F__law_bag, F__law_hall, F__law_prime, F__law_drawn, F__law_made, F__law_rows, F_Pose_matrix, F__law_same, F_Pose_spin, F__law_power, F__law_norm, F__law_scaled, F__law_table, F_Pose___init__, F__law_letters, F__law_quarters, F__law_of, F__law_pull, F__law_reduced, F__law_mult, F_quarter_rows, F_product_rows, F_table_of, F_primitive, F_joined_spins, F_quarter_spin, F_check_prime, F_check_quarter, F_joined, F__law_undone, F_sides, F_common_divisor, F_multiply, F_norm, F_undone_letter, F_others_of, F_cross, F_opposite], sh := [⟨0, 1, [.a 0]⟩, ⟨1, 1, [.a 0]⟩, ⟨2, 1, [.a 0]⟩, ⟨3, 1, [.a 0]⟩, ⟨4, 3, [.a 0, .a 1, .a 2]⟩, ⟨5, 2, [.a 0, .a 1]⟩, ⟨6, 2, [.a 0, .a 1]⟩, ⟨7, 1, [.a 0]⟩, ⟨8, 2, [.a 0, .a 1]⟩, ⟨9, 1, [.a 0]⟩, ⟨10, 2, [.a 0, .a 1]⟩, ⟨11, 1, [.a 0]⟩, ⟨12, 2, [.a 0, .a 1]⟩, ⟨13, 1, [.a 0]⟩, ⟨14, 2, [.a 0, .a 1, .d (.int 23)]⟩, ⟨15, 1, [.a 0]⟩, ⟨16, 0, []⟩, ⟨17, 2, [.a 0, .a 1]⟩, ⟨18, 2, [.a 0, .a 1]⟩, ⟨19, 2, [.a 0, .a 1]⟩, ⟨14, 3, [.a 0, .a 1, .a 2]⟩, ⟨20, 2, [.a 0, .a 1]⟩, ⟨21, 1, [.a 0]⟩, ⟨22, 2, [.a 0, .a 1]⟩, ⟨23, 1, [.a 0]⟩, ⟨24, 1, [.a 0]⟩, ⟨25, 1, [.a 0]⟩, ⟨26, 1, [.a 0]⟩, ⟨27, 1, [.a 0]⟩, ⟨28, 1, [.a 0]⟩, ⟨29, 3, [.a 0, .a 1, .a 2]⟩, ⟨30, 2, [.a 0, .a 1]⟩, ⟨31, 1, [.a 0]⟩, ⟨32, 2, [.a 0, .a 1]⟩, ⟨33, 2, [.a 0, .a 1]⟩, ⟨34, 1, [.a 0]⟩, ⟨35, 2, [.a 0, .a 1]⟩, ⟨36, 1, [.a 0]⟩, ⟨37, 2, [.a 0, .a 1]⟩, ⟨38, 1, [.a 0]⟩], gl := [(.int 23), (.wd 0), (.wtup [(.wtup [(.int (-1)), (.int 0), (.int 0)]), (.wtup [(.int 0), (.int (-1)), (.int 0)]), (.wtup [(.int 0), (.int 0), (.int (-1))]), (.wtup [(.int 0), (.int 0), (.int 1)]), (.wtup [(.int 0), (.int 1), (.int 0)]), (.wtup [(.int 1), (.int 0), (.int 0)])]), (.wtup [(.int 1), (.int 0), (.int 0), (.int 0)]), (.wtup [(.int 5), (.int 13), (.int 17), (.int 29)]), (.int 24)], wd := [([.inl 5, .inl 13, .inl 17, .inl 29], [(.wtup [(.wtup [(.int 1), (.int (-2)), (.int 0), (.int 0)]), (.wtup [(.int 1), (.int 0), (.int (-2)), (.int 0)]), (.wtup [(.int 1), (.int 0), (.int 0), (.int (-2))]), (.wtup [(.int 1), (.int 0), (.int 0), (.int 2)]), (.wtup [(.int 1), (.int 0), (.int 2), (.int 0)]), (.wtup [(.int 1), (.int 2), (.int 0), (.int 0)])]), (.wtup [(.wtup [(.int 1), (.int (-2)), (.int (-2)), (.int (-2))]), (.wtup [(.int 1), (.int (-2)), (.int (-2)), (.int 2)]), (.wtup [(.int 1), (.int (-2)), (.int 2), (.int (-2))]), (.wtup [(.int 1), (.int (-2)), (.int 2), (.int 2)]), (.wtup [(.int 1), (.int 2), (.int (-2)), (.int (-2))]), (.wtup [(.int 1), (.int 2), (.int (-2)), (.int 2)]), (.wtup [(.int 1), (.int 2), (.int 2), (.int (-2))]), (.wtup [(.int 1), (.int 2), (.int 2), (.int 2)]), (.wtup [(.int 3), (.int (-2)), (.int 0), (.int 0)]), (.wtup [(.int 3), (.int 0), (.int (-2)), (.int 0)]), (.wtup [(.int 3), (.int 0), (.int 0), (.int (-2))]), (.wtup [(.int 3), (.int 0), (.int 0), (.int 2)]), (.wtup [(.int 3), (.int 0), (.int 2), (.int 0)]), (.wtup [(.int 3), (.int 2), (.int 0), (.int 0)])]), (.wtup [(.wtup [(.int 1), (.int (-4)), (.int 0), (.int 0)]), (.wtup [(.int 1), (.int 0), (.int (-4)), (.int 0)]), (.wtup [(.int 1), (.int 0), (.int 0), (.int (-4))]), (.wtup [(.int 1), (.int 0), (.int 0), (.int 4)]), (.wtup [(.int 1), (.int 0), (.int 4), (.int 0)]), (.wtup [(.int 1), (.int 4), (.int 0), (.int 0)]), (.wtup [(.int 3), (.int (-2)), (.int (-2)), (.int 0)]), (.wtup [(.int 3), (.int (-2)), (.int 0), (.int (-2))]), (.wtup [(.int 3), (.int (-2)), (.int 0), (.int 2)]), (.wtup [(.int 3), (.int (-2)), (.int 2), (.int 0)]), (.wtup [(.int 3), (.int 0), (.int (-2)), (.int (-2))]), (.wtup [(.int 3), (.int 0), (.int (-2)), (.int 2)]), (.wtup [(.int 3), (.int 0), (.int 2), (.int (-2))]), (.wtup [(.int 3), (.int 0), (.int 2), (.int 2)]), (.wtup [(.int 3), (.int 2), (.int (-2)), (.int 0)]), (.wtup [(.int 3), (.int 2), (.int 0), (.int (-2))]), (.wtup [(.int 3), (.int 2), (.int 0), (.int 2)]), (.wtup [(.int 3), (.int 2), (.int 2), (.int 0)])]), (.wtup [(.wtup [(.int 3), (.int (-4)), (.int (-2)), (.int 0)]), (.wtup [(.int 3), (.int (-4)), (.int 0), (.int (-2))]), (.wtup [(.int 3), (.int (-4)), (.int 0), (.int 2)]), (.wtup [(.int 3), (.int (-4)), (.int 2), (.int 0)]), (.wtup [(.int 3), (.int (-2)), (.int (-4)), (.int 0)]), (.wtup [(.int 3), (.int (-2)), (.int 0), (.int (-4))]), (.wtup [(.int 3), (.int (-2)), (.int 0), (.int 4)]), (.wtup [(.int 3), (.int (-2)), (.int 4), (.int 0)]), (.wtup [(.int 3), (.int 0), (.int (-4)), (.int (-2))]), (.wtup [(.int 3), (.int 0), (.int (-4)), (.int 2)]), (.wtup [(.int 3), (.int 0), (.int (-2)), (.int (-4))]), (.wtup [(.int 3), (.int 0), (.int (-2)), (.int 4)]), (.wtup [(.int 3), (.int 0), (.int 2), (.int (-4))]), (.wtup [(.int 3), (.int 0), (.int 2), (.int 4)]), (.wtup [(.int 3), (.int 0), (.int 4), (.int (-2))]), (.wtup [(.int 3), (.int 0), (.int 4), (.int 2)]), (.wtup [(.int 3), (.int 2), (.int (-4)), (.int 0)]), (.wtup [(.int 3), (.int 2), (.int 0), (.int (-4))]), (.wtup [(.int 3), (.int 2), (.int 0), (.int 4)]), (.wtup [(.int 3), (.int 2), (.int 4), (.int 0)]), (.wtup [(.int 3), (.int 4), (.int (-2)), (.int 0)]), (.wtup [(.int 3), (.int 4), (.int 0), (.int (-2))]), (.wtup [(.int 3), (.int 4), (.int 0), (.int 2)]), (.wtup [(.int 3), (.int 4), (.int 2), (.int 0)]), (.wtup [(.int 5), (.int (-2)), (.int 0), (.int 0)]), (.wtup [(.int 5), (.int 0), (.int (-2)), (.int 0)]), (.wtup [(.int 5), (.int 0), (.int 0), (.int (-2))]), (.wtup [(.int 5), (.int 0), (.int 0), (.int 2)]), (.wtup [(.int 5), (.int 0), (.int 2), (.int 0)]), (.wtup [(.int 5), (.int 2), (.int 0), (.int 0)])])])], fld := [(0, 2), (0, 3), (0, 4)], nc := 1 }
theorem fn_law : P.fns[i_law]? = some F_law := rfl
theorem fn__law_bag : P.fns[i__law_bag]? = some F__law_bag := rfl
theorem fn__law_hall : P.fns[i__law_hall]? = some F__law_hall := rfl
theorem fn__law_prime : P.fns[i__law_prime]? = some F__law_prime := rfl
theorem fn__law_drawn : P.fns[i__law_drawn]? = some F__law_drawn := rfl
theorem fn__law_made : P.fns[i__law_made]? = some F__law_made := rfl
theorem fn__law_rows : P.fns[i__law_rows]? = some F__law_rows := rfl
theorem fn_Pose_matrix : P.fns[i_Pose_matrix]? = some F_Pose_matrix := rfl
theorem fn__law_same : P.fns[i__law_same]? = some F__law_same := rfl
theorem fn_Pose_spin : P.fns[i_Pose_spin]? = some F_Pose_spin := rfl
theorem fn__law_power : P.fns[i__law_power]? = some F__law_power := rfl
theorem fn__law_norm : P.fns[i__law_norm]? = some F__law_norm := rfl
theorem fn__law_scaled : P.fns[i__law_scaled]? = some F__law_scaled := rfl
theorem fn__law_table : P.fns[i__law_table]? = some F__law_table := rfl
theorem fn_Pose___init__ : P.fns[i_Pose___init__]? = some F_Pose___init__ := rfl
theorem fn__law_letters : P.fns[i__law_letters]? = some F__law_letters := rfl
theorem fn__law_quarters : P.fns[i__law_quarters]? = some F__law_quarters := rfl
theorem fn__law_of : P.fns[i__law_of]? = some F__law_of := rfl
theorem fn__law_pull : P.fns[i__law_pull]? = some F__law_pull := rfl
theorem fn__law_reduced : P.fns[i__law_reduced]? = some F__law_reduced := rfl
theorem fn__law_mult : P.fns[i__law_mult]? = some F__law_mult := rfl
theorem fn_quarter_rows : P.fns[i_quarter_rows]? = some F_quarter_rows := rfl
theorem fn_product_rows : P.fns[i_product_rows]? = some F_product_rows := rfl
theorem fn_table_of : P.fns[i_table_of]? = some F_table_of := rfl
theorem fn_primitive : P.fns[i_primitive]? = some F_primitive := rfl
theorem fn_joined_spins : P.fns[i_joined_spins]? = some F_joined_spins := rfl
theorem fn_quarter_spin : P.fns[i_quarter_spin]? = some F_quarter_spin := rfl
theorem fn_check_prime : P.fns[i_check_prime]? = some F_check_prime := rfl
theorem fn_check_quarter : P.fns[i_check_quarter]? = some F_check_quarter := rfl
theorem fn_joined : P.fns[i_joined]? = some F_joined := rfl
theorem fn__law_undone : P.fns[i__law_undone]? = some F__law_undone := rfl
theorem fn_sides : P.fns[i_sides]? = some F_sides := rfl
theorem fn_common_divisor : P.fns[i_common_divisor]? = some F_common_divisor := rfl
theorem fn_multiply : P.fns[i_multiply]? = some F_multiply := rfl
theorem fn_norm : P.fns[i_norm]? = some F_norm := rfl
theorem fn_undone_letter : P.fns[i_undone_letter]? = some F_undone_letter := rfl
theorem fn_others_of : P.fns[i_others_of]? = some F_others_of := rfl
theorem fn_cross : P.fns[i_cross]? = some F_cross := rfl
theorem fn_opposite : P.fns[i_opposite]? = some F_opposite := rfl
@[simp] theorem cj_law_1 (o : Orc) (ad : Bool) (x0 : MV.D) (h : HH) : callJ P o ad 0 [x0] h = (o i_law [x0] h).bd fun r h1 => retD ad r h1 := (rfl)
@[simp] theorem cj__law_bag_1 (o : Orc) (ad : Bool) (x0 : MV.D) (h : HH) : callJ P o ad 1 [x0] h = (o i__law_bag [x0] h).bd fun r h1 => retD ad r h1 := (rfl)
@[simp] theorem cj__law_hall_1 (o : Orc) (ad : Bool) (x0 : MV.D) (h : HH) : callJ P o ad 2 [x0] h = (o i__law_hall [x0] h).bd fun r h1 => retD ad r h1 := (rfl)
@[simp] theorem cj__law_prime_1 (o : Orc) (ad : Bool) (x0 : MV.D) (h : HH) : callJ P o ad 3 [x0] h = (o i__law_prime [x0] h).bd fun r h1 => retD ad r h1 := (rfl)
@[simp] theorem cj__law_drawn_3 (o : Orc) (ad : Bool) (x0 x1 x2 : MV.D) (h : HH) : callJ P o ad 4 [x0, x1, x2] h = (o i__law_drawn [x0, x1, x2] h).bd fun r h1 => retD ad r h1 := (rfl)
@[simp] theorem cj__law_made_2 (o : Orc) (ad : Bool) (x0 x1 : MV.D) (h : HH) : callJ P o ad 5 [x0, x1] h = (o i__law_made [x0, x1] h).bd fun r h1 => retD ad r h1 := (rfl)
@[simp] theorem cj__law_rows_2 (o : Orc) (ad : Bool) (x0 x1 : MV.D) (h : HH) : callJ P o ad 6 [x0, x1] h = (o i__law_rows [x0, x1] h).bd fun r h1 => retD ad r h1 := (rfl)
@[simp] theorem cj_Pose_matrix_1 (o : Orc) (ad : Bool) (x0 : MV.D) (h : HH) : callJ P o ad 7 [x0] h = (o i_Pose_matrix [x0] h).bd fun r h1 => retD ad r h1 := (rfl)
@[simp] theorem cj__law_same_2 (o : Orc) (ad : Bool) (x0 x1 : MV.D) (h : HH) : callJ P o ad 8 [x0, x1] h = (o i__law_same [x0, x1] h).bd fun r h1 => retD ad r h1 := (rfl)
@[simp] theorem cj_Pose_spin_1 (o : Orc) (ad : Bool) (x0 : MV.D) (h : HH) : callJ P o ad 9 [x0] h = (o i_Pose_spin [x0] h).bd fun r h1 => retD ad r h1 := (rfl)
@[simp] theorem cj__law_power_2 (o : Orc) (ad : Bool) (x0 x1 : MV.D) (h : HH) : callJ P o ad 10 [x0, x1] h = (o i__law_power [x0, x1] h).bd fun r h1 => retD ad r h1 := (rfl)
@[simp] theorem cj__law_norm_1 (o : Orc) (ad : Bool) (x0 : MV.D) (h : HH) : callJ P o ad 11 [x0] h = (o i__law_norm [x0] h).bd fun r h1 => retD ad r h1 := (rfl)
@[simp] theorem cj__law_scaled_2 (o : Orc) (ad : Bool) (x0 x1 : MV.D) (h : HH) : callJ P o ad 12 [x0, x1] h = (o i__law_scaled [x0, x1] h).bd fun r h1 => retD ad r h1 := (rfl)
@[simp] theorem cj__law_table_1 (o : Orc) (ad : Bool) (x0 : MV.D) (h : HH) : callJ P o ad 13 [x0] h = (o i__law_table [x0] h).bd fun r h1 => retD ad r h1 := (rfl)
@[simp] theorem cj_Pose_2 (o : Orc) (ad : Bool) (x0 x1 : MV.D) (h : HH) : callJ P o ad 14 [x0, x1] h = (o i_Pose___init__ [x0, x1, (.int 23)] h).bd fun r h1 => retD ad r h1 := (rfl)
@[simp] theorem cj__law_letters_1 (o : Orc) (ad : Bool) (x0 : MV.D) (h : HH) : callJ P o ad 15 [x0] h = (o i__law_letters [x0] h).bd fun r h1 => retD ad r h1 := (rfl)
@[simp] theorem cj__law_quarters_0 (o : Orc) (ad : Bool)  (h : HH) : callJ P o ad 16 [] h = (o i__law_quarters [] h).bd fun r h1 => retD ad r h1 := (rfl)
@[simp] theorem cj__law_of_2 (o : Orc) (ad : Bool) (x0 x1 : MV.D) (h : HH) : callJ P o ad 17 [x0, x1] h = (o i__law_of [x0, x1] h).bd fun r h1 => retD ad r h1 := (rfl)
@[simp] theorem cj__law_pull_2 (o : Orc) (ad : Bool) (x0 x1 : MV.D) (h : HH) : callJ P o ad 18 [x0, x1] h = (o i__law_pull [x0, x1] h).bd fun r h1 => retD ad r h1 := (rfl)
@[simp] theorem cj__law_reduced_2 (o : Orc) (ad : Bool) (x0 x1 : MV.D) (h : HH) : callJ P o ad 19 [x0, x1] h = (o i__law_reduced [x0, x1] h).bd fun r h1 => retD ad r h1 := (rfl)
@[simp] theorem cj_Pose_2_quarter (o : Orc) (ad : Bool) (x0 x1 x2 : MV.D) (h : HH) : callJ P o ad 20 [x0, x1, x2] h = (o i_Pose___init__ [x0, x1, x2] h).bd fun r h1 => retD ad r h1 := (rfl)
@[simp] theorem cj__law_mult_2 (o : Orc) (ad : Bool) (x0 x1 : MV.D) (h : HH) : callJ P o ad 21 [x0, x1] h = (o i__law_mult [x0, x1] h).bd fun r h1 => retD ad r h1 := (rfl)
@[simp] theorem cj_quarter_rows_1 (o : Orc) (ad : Bool) (x0 : MV.D) (h : HH) : callJ P o ad 22 [x0] h = (o i_quarter_rows [x0] h).bd fun r h1 => retD ad r h1 := (rfl)
@[simp] theorem cj_product_rows_2 (o : Orc) (ad : Bool) (x0 x1 : MV.D) (h : HH) : callJ P o ad 23 [x0, x1] h = (o i_product_rows [x0, x1] h).bd fun r h1 => retD ad r h1 := (rfl)
@[simp] theorem cj_table_of_1 (o : Orc) (ad : Bool) (x0 : MV.D) (h : HH) : callJ P o ad 24 [x0] h = (o i_table_of [x0] h).bd fun r h1 => retD ad r h1 := (rfl)
@[simp] theorem cj_primitive_1 (o : Orc) (ad : Bool) (x0 : MV.D) (h : HH) : callJ P o ad 25 [x0] h = (o i_primitive [x0] h).bd fun r h1 => retD ad r h1 := (rfl)
@[simp] theorem cj_joined_spins_1 (o : Orc) (ad : Bool) (x0 : MV.D) (h : HH) : callJ P o ad 26 [x0] h = (o i_joined_spins [x0] h).bd fun r h1 => retD ad r h1 := (rfl)
@[simp] theorem cj_quarter_spin_1 (o : Orc) (ad : Bool) (x0 : MV.D) (h : HH) : callJ P o ad 27 [x0] h = (o i_quarter_spin [x0] h).bd fun r h1 => retD ad r h1 := (rfl)
@[simp] theorem cj_check_prime_1 (o : Orc) (ad : Bool) (x0 : MV.D) (h : HH) : callJ P o ad 28 [x0] h = (o i_check_prime [x0] h).bd fun r h1 => retD ad r h1 := (rfl)
@[simp] theorem cj_check_quarter_1 (o : Orc) (ad : Bool) (x0 : MV.D) (h : HH) : callJ P o ad 29 [x0] h = (o i_check_quarter [x0] h).bd fun r h1 => retD ad r h1 := (rfl)
@[simp] theorem cj_joined_3 (o : Orc) (ad : Bool) (x0 x1 x2 : MV.D) (h : HH) : callJ P o ad 30 [x0, x1, x2] h = (o i_joined [x0, x1, x2] h).bd fun r h1 => retD ad r h1 := (rfl)
@[simp] theorem cj__law_undone_2 (o : Orc) (ad : Bool) (x0 x1 : MV.D) (h : HH) : callJ P o ad 31 [x0, x1] h = (o i__law_undone [x0, x1] h).bd fun r h1 => retD ad r h1 := (rfl)
@[simp] theorem cj_sides_1 (o : Orc) (ad : Bool) (x0 : MV.D) (h : HH) : callJ P o ad 32 [x0] h = (o i_sides [x0] h).bd fun r h1 => retD ad r h1 := (rfl)
@[simp] theorem cj_common_divisor_2 (o : Orc) (ad : Bool) (x0 x1 : MV.D) (h : HH) : callJ P o ad 33 [x0, x1] h = (o i_common_divisor [x0, x1] h).bd fun r h1 => retD ad r h1 := (rfl)
@[simp] theorem cj_multiply_2 (o : Orc) (ad : Bool) (x0 x1 : MV.D) (h : HH) : callJ P o ad 34 [x0, x1] h = (o i_multiply [x0, x1] h).bd fun r h1 => retD ad r h1 := (rfl)
@[simp] theorem cj_norm_1 (o : Orc) (ad : Bool) (x0 : MV.D) (h : HH) : callJ P o ad 35 [x0] h = (o i_norm [x0] h).bd fun r h1 => retD ad r h1 := (rfl)
@[simp] theorem cj_undone_letter_2 (o : Orc) (ad : Bool) (x0 x1 : MV.D) (h : HH) : callJ P o ad 36 [x0, x1] h = (o i_undone_letter [x0, x1] h).bd fun r h1 => retD ad r h1 := (rfl)
@[simp] theorem cj_others_of_1 (o : Orc) (ad : Bool) (x0 : MV.D) (h : HH) : callJ P o ad 37 [x0] h = (o i_others_of [x0] h).bd fun r h1 => retD ad r h1 := (rfl)
@[simp] theorem cj_cross_2 (o : Orc) (ad : Bool) (x0 x1 : MV.D) (h : HH) : callJ P o ad 38 [x0, x1] h = (o i_cross [x0, x1] h).bd fun r h1 => retD ad r h1 := (rfl)
@[simp] theorem cj_opposite_1 (o : Orc) (ad : Bool) (x0 : MV.D) (h : HH) : callJ P o ad 39 [x0] h = (o i_opposite [x0] h).bd fun r h1 => retD ad r h1 := (rfl)
abbrev n_matrix : Nat := 0
abbrev n_spin : Nat := 1
abbrev n_own_letters : Nat := 2
abbrev n_own_prime : Nat := 3
abbrev n_own_quarter : Nat := 4
abbrev w_LETTERS : Nat := 0
def d_STILL : MV.D := (.int 23)
@[simp] theorem gl_STILL : P.gl[0]? = some d_STILL := (rfl)
@[simp] theorem gl_LETTERS : P.gl[1]? = some (MV.D.wd 0) := (rfl)
def d_AXES : MV.D := (.wtup [(.wtup [(.int (-1)), (.int 0), (.int 0)]), (.wtup [(.int 0), (.int (-1)), (.int 0)]), (.wtup [(.int 0), (.int 0), (.int (-1))]), (.wtup [(.int 0), (.int 0), (.int 1)]), (.wtup [(.int 0), (.int 1), (.int 0)]), (.wtup [(.int 1), (.int 0), (.int 0)])])
@[simp] theorem gl_AXES : P.gl[2]? = some d_AXES := (rfl)
def d_ONE : MV.D := (.wtup [(.int 1), (.int 0), (.int 0), (.int 0)])
@[simp] theorem gl_ONE : P.gl[3]? = some d_ONE := (rfl)
def d_PRIMES : MV.D := (.wtup [(.int 5), (.int 13), (.int 17), (.int 29)])
@[simp] theorem gl_PRIMES : P.gl[4]? = some d_PRIMES := (rfl)
def d_QUARTERS : MV.D := (.int 24)
@[simp] theorem gl_QUARTERS : P.gl[5]? = some d_QUARTERS := (rfl)
end MV.X

set_option maxRecDepth 100000
set_option maxHeartbeats 4000000
namespace MV.X
open MV
open PySem (Str Operator)
/-! the bag of drawn numbers -/
def bagO (cells : List Int) (i : Nat) (big salt cnt : Int) : O := .lst [.lst (cells.map D.int), .int i, .int big, .int salt, .int cnt]
theorem bag_ix0 {W : Wds} {h : HH} {n : Nat} {cells : List Int} {i : Nat} {big salt cnt : Int} (e : h[n]? = some (bagO cells i big salt cnt)) : itemD W (.ref n) (.int 0) h = some (.lst (cells.map D.int)) := by
  rw [it_ref e]; rfl
theorem bag_ix1 {W : Wds} {h : HH} {n : Nat} {cells : List Int} {i : Nat} {big salt cnt : Int} (e : h[n]? = some (bagO cells i big salt cnt)) : itemD W (.ref n) (.int 1) h = some (.int i) := by
  rw [it_ref e]; rfl
theorem bag_ix2 {W : Wds} {h : HH} {n : Nat} {cells : List Int} {i : Nat} {big salt cnt : Int} (e : h[n]? = some (bagO cells i big salt cnt)) : itemD W (.ref n) (.int 2) h = some (.int big) := by
  rw [it_ref e]; rfl
theorem bag_ix3 {W : Wds} {h : HH} {n : Nat} {cells : List Int} {i : Nat} {big salt cnt : Int} (e : h[n]? = some (bagO cells i big salt cnt)) : itemD W (.ref n) (.int 3) h = some (.int salt) := by
  rw [it_ref e]; rfl
theorem bag_ix4 {W : Wds} {h : HH} {n : Nat} {cells : List Int} {i : Nat} {big salt cnt : Int} (e : h[n]? = some (bagO cells i big salt cnt)) : itemD W (.ref n) (.int 4) h = some (.int cnt) := by
  rw [it_ref e]; rfl
theorem bag_s1 {h : HH} {n : Nat} {cells : List Int} {i : Nat} {big salt cnt : Int} (e : h[n]? = some (bagO cells i big salt cnt)) : setD (.ref n) (.int 1) (.int ((i : Int) + 1)) h = some (h.set n (bagO cells (i + 1) big salt cnt)) := by
  unfold setD; simp only [e, bagO]; rfl
theorem bag_s2 {h : HH} {n : Nat} {cells : List Int} {i : Nat} {big salt cnt z : Int} (e : h[n]? = some (bagO cells i big salt cnt)) : setD (.ref n) (.int 2) (.int z) h = some (h.set n (bagO cells i z salt cnt)) := by
  unfold setD; simp only [e, bagO]; rfl
theorem bag_s3 {h : HH} {n : Nat} {cells : List Int} {i : Nat} {big salt cnt z : Int} (e : h[n]? = some (bagO cells i big salt cnt)) : setD (.ref n) (.int 3) (.int z) h = some (h.set n (bagO cells i big z cnt)) := by
  unfold setD; simp only [e, bagO]; rfl
theorem bag_s4 {h : HH} {n : Nat} {cells : List Int} {i : Nat} {big salt cnt z : Int} (e : h[n]? = some (bagO cells i big salt cnt)) : setD (.ref n) (.int 4) (.int z) h = some (h.set n (bagO cells i big salt z)) := by
  unfold setD; simp only [e, bagO]; rfl
/-- a bag that is well, from which at most c numbers were mixed -/
def BagAt (h : HH) (n c : Nat) : Prop := ∃ (cells : List Int) (i : Nat) (big salt cnt : Int), h[n]? = some (bagO cells i big salt cnt) ∧ cells.length ≤ 63 ∧ 0 ≤ big ∧ 0 ≤ salt ∧ salt < 2147483647 ∧ 0 ≤ cnt ∧ cnt ≤ c
theorem fm_lo (a : Int) {b : Int} (h : 0 < b) : 0 ≤ a.fmod b := Int.fmod_nonneg_of_pos a h
theorem fm_hi (a : Int) {b : Int} (h : 0 < b) : a.fmod b < b := Int.fmod_lt_of_pos a h
theorem powOk18 : powOk 10 18 = true := by decide
theorem bdi {k : Nat} {i : Int} (h1 : 0 ≤ i) (h2 : i < 2 ^ k) : Bd k i := by
  unfold Bd
  have : ((i.natAbs : Nat) : Int) < ((2 ^ k : Nat) : Int) := by
    rw [Int.natAbs_of_nonneg h1]
    exact_mod_cast h2
  exact_mod_cast this
theorem get_set {h : HH} {n : Nat} {o x : O} (e : h[n]? = some x) : (h.set n o)[n]? = some o := List.getElem?_set_self (List.getElem?_eq_some_iff.mp e).1
/-- the first part: a new cell is taken -/
theorem pull_1 {o : Orc} {h : HH} {n c : Nat} {k : D} {x2 x3 x4 : Option D} (b : BagAt h n c) : ∃ x2' bo, run P o (.ite (.band (.cmp .Eq (.ix (.v 0) (.c (.int 2))) (.c (.int 0))) (.b1 (.cmp .Lt (.ix (.v 0) (.c (.int 1))) (.blt false .len (.cons (.ix (.v 0) (.c (.int 0))) .nil))))) (.seq (.asg (.t_n 2) (.ix (.ix (.v 0) (.c (.int 0))) (.ix (.v 0) (.c (.int 1))))) (.seq (.asg (.t_s (.v 0) (.c (.int 1))) (.bin .Add false (.ix (.v 0) (.c (.int 1))) (.c (.int 1)))) (.seq (.ite (.cmp .GtE (.v 2) (.bin .Pow false (.c (.int 10)) (.c (.int 18)))) (.seq (.asg (.t_s (.v 0) (.c (.int 2))) (.v 2)) .skip) (.seq (.asg (.t_s (.v 0) (.c (.int 3))) (.bin .Mod false (.blt false .int (.cons (.bin .Add false (.bin .Add false (.bin .Mult false (.ix (.v 0) (.c (.int 3))) (.c (.int 40127))) (.bin .Mod false (.blt false .int (.cons (.v 2) .nil)) (.c (.int 2147483543)))) (.c (.int 19))) .nil)) (.c (.int 2147483647)))) .skip)) .skip))) .skip) [some (.ref n), some k, x2, x3, x4] h = .nx [some (.ref n), some k, x2', x3, x4] (h.set n bo) ∧ BagAt (h.set n bo) n c := by
  obtain ⟨cells, i, big, salt, cnt, e, h1, h2, h3, h4, h5, h6⟩ := b
  by_cases hb : big = 0
  · subst hb
    by_cases hi : i < cells.length
    · have ei : ixAt cells.length (i : Int) = some i := ixAt_nat hi
      have gi : cells[i]? = some cells[i] := List.getElem?_eq_getElem hi
      have e1 : ∀ o, (h.set n o)[n]? = some o := fun o => get_set e
      by_cases hc : (1000000000000000000 : Int) ≤ cells[i]
      · refine ⟨some (.int cells[i]), bagO cells (i + 1) cells[i] salt cnt, ?_, cells, i + 1, cells[i], salt, cnt, e1 _, h1, ?_, h3, h4, h5, h6⟩
        · simp [bag_ix2 e, bag_ix1 e, bag_ix0 e, hi, ei, gi, bag_s1 e, powD, powOk18, hc, bag_s2 (e1 _)]
        · omega
      · refine ⟨some (.int cells[i]), bagO cells (i + 1) 0 ((salt * 40127 + cells[i].fmod 2147483543 + 19).fmod 2147483647) cnt, ?_, cells, i + 1, 0, _, cnt, e1 _, h1, by omega, fm_lo _ (by decide), fm_hi _ (by decide), h5, h6⟩
        have mo : mulOk salt 40127 = true := Bd.ok (bdi (k := 40) h3 (by omega)) (bdi (k := 40) (by decide) (by decide))
        simp [bag_ix2 e, bag_ix1 e, bag_ix0 e, hi, ei, gi, bag_s1 e, powD, powOk18, hc, bag_ix3 (e1 _), bag_s3 (e1 _), mo]
    · refine ⟨x2, bagO cells i 0 salt cnt, ?_, cells, i, 0, salt, cnt, get_set e, h1, h2, h3, h4, h5, h6⟩
      have es : h.set n (bagO cells i 0 salt cnt) = h := by
        rw [← (List.getElem?_eq_some_iff.mp e).2]
        exact List.set_getElem_self _
      simp [bag_ix2 e, bag_ix1 e, bag_ix0 e, hi, es]
  · refine ⟨x2, bagO cells i big salt cnt, ?_, cells, i, big, salt, cnt, get_set e, h1, h2, h3, h4, h5, h6⟩
    have es : h.set n (bagO cells i big salt cnt) = h := by
      rw [← (List.getElem?_eq_some_iff.mp e).2]
      exact List.set_getElem_self _
    simp [bag_ix2 e, hb, es]
theorem divOk_sides {k : Int} (h1 : 0 < k) (h2 : k < 2 ^ 62) : divOk k = true := by
  unfold divOk
  have : Bd 62 k := bdi (by omega) h2
  have := log2_lt_of this
  rw [show (k != 0) = true by simp; omega, Bool.true_and]
  exact Nat.ble_eq_true_of_le (by omega)
theorem fdiv_lo {a b : Int} (h1 : 0 ≤ a) (h2 : 0 < b) : 0 ≤ a.fdiv b := Int.fdiv_nonneg h1 (by omega)
/-- a number is drawn -/
theorem pull_ok {m : Nat} {h : HH} {n c : Nat} {k : Int} (b : BagAt h n c) (hk : 0 < k) (hk2 : k < 2 ^ 62) (hc : c < 2 ^ 62) : ∃ (r : Int) (bo : O), callN P (m + 1) i__law_pull [.ref n, .int k] h = .ok (.val (.int r)) (h.set n bo) ∧ 0 ≤ r ∧ r < k ∧ BagAt (h.set n bo) n (c + 1) := by
  obtain ⟨x2, b1, e1, w1⟩ := pull_1 (o := callN P m) (k := .int k) (x2 := none) (x3 := none) (x4 := none) b
  obtain ⟨cells, i, big, salt, cnt, e, h1, h2, h3, h4, h5, h6⟩ := w1
  have hkb : (k != 0) = true := by simp; omega
  by_cases hb : 0 < big
  · refine ⟨big.fmod k, bagO cells i (big.fdiv k) salt cnt, callN_sh fn__law_pull rfl (body_rt rfl ?_), fm_lo _ hk, fm_hi _ hk, cells, i, _, salt, cnt, get_set b.choose_spec.choose_spec.choose_spec.choose_spec.choose_spec.1, h1, fdiv_lo h2 hk, h3, h4, h5, by push_cast; omega⟩
    show run P (callN P m) (.seq _ _) [some (.ref n), some (.int k), none, none, none] h = _
    rw [r_seq, e1]
    simp [bag_ix2 e, hb, hkb, divOk_sides hk hk2, bag_s2 e]
  · have hb0 : big = 0 := by omega
    subst hb0
    have e2 := get_set (o := bagO cells i 0 salt (cnt + 1)) e
    have mo1 : mulOk (cnt + 1) 8209 = true := Bd.ok (bdi (k := 63) (by omega) (by omega)) (bdi (k := 20) (by decide) (by decide))
    generalize hs : (salt + (cnt + 1) * 8209).fmod 2147483647 = seed
    have s1 : 0 ≤ seed := by rw [← hs]; exact fm_lo _ (by decide)
    have s2 : seed < 2147483647 := by rw [← hs]; exact fm_hi _ (by decide)
    have po : powOk seed 3 = true := by
      have : Bd 64 seed := bdi s1 (by omega)
      unfold powOk
      unfold Bd at this
      rw [show Nat.blt seed.natAbs (2 ^ 64) = true from Nat.ble_eq_true_of_le this]
      decide
    have mo2 : mulOk 28657 seed = true := Bd.ok (bdi (k := 20) (by decide) (by decide)) (bdi (k := 63) s1 (by omega))
    generalize hs2 : (seed ^ (3 : Nat) + 28657 * seed + 3319).fmod 2147483647 = s3
    have t1 : 0 ≤ s3 := by rw [← hs2]; exact fm_lo _ (by decide)
    have t2 : s3 < 2147483647 := by rw [← hs2]; exact fm_hi _ (by decide)
    have e3 := get_set (o := bagO cells i 0 s3 (cnt + 1)) e2
    have mo3 : mulOk (s3.fmod 7907) 43 = true := Bd.ok (bdi (k := 63) (fm_lo _ (by decide)) (by have := fm_hi s3 (b := 7907) (by decide); omega)) (bdi (k := 20) (by decide) (by decide))
    have dv : divOk 71 = true := divOk_sides (by decide) (by decide)
    rw [List.set_set] at e2 e3
    rw [List.set_set] at e3
    refine ⟨(s3.fdiv 71 + s3.fmod 7907 * 43).fmod k, bagO cells i 0 s3 (cnt + 1), callN_sh fn__law_pull rfl (body_rt rfl ?_), fm_lo _ hk, fm_hi _ hk, cells, i, 0, s3, cnt + 1, e3, h1, by omega, t1, t2, by omega, by push_cast; omega⟩
    show run P (callN P m) (.seq _ _) [some (.ref n), some (.int k), none, none, none] h = _
    rw [r_seq, e1]
    simp [bag_ix2 e, bag_ix4 e, bag_s4 e, bag_ix3 e2, bag_ix4 e2, mo1, hs, po, mo2, hs2, bag_s3 e2, bag_ix3 e3, dv, mo3, hkb]

end MV.X

set_option maxRecDepth 100000
set_option maxHeartbeats 4000000
namespace MV.X
open MV
open PySem (Str Operator)
/-! spins, matrices, tables -/
structure Sp where
  (a b c d : Int)
  deriving DecidableEq
def Sp.D (s : Sp) : D := .tup [.int s.a, .int s.b, .int s.c, .int s.d]
def Sp.W (s : Sp) : MV.D := .wtup [.int s.a, .int s.b, .int s.c, .int s.d]
structure Mat where
  (a b c d e f g h i : Int)
  deriving DecidableEq
def Mat.D (m : Mat) : D := .lst [.tup [.int m.a, .int m.b, .int m.c], .tup [.int m.d, .int m.e, .int m.f], .tup [.int m.g, .int m.h, .int m.i]]
def Mat.W (m : Mat) : MV.D := .lst [.wtup [.int m.a, .int m.b, .int m.c], .wtup [.int m.d, .int m.e, .int m.f], .wtup [.int m.g, .int m.h, .int m.i]]
def Mat.mul (m n : Mat) : Mat := ⟨m.a*n.a+m.b*n.d+m.c*n.g, m.a*n.b+m.b*n.e+m.c*n.h, m.a*n.c+m.b*n.f+m.c*n.i, m.d*n.a+m.e*n.d+m.f*n.g, m.d*n.b+m.e*n.e+m.f*n.h, m.d*n.c+m.e*n.f+m.f*n.i, m.g*n.a+m.h*n.d+m.i*n.g, m.g*n.b+m.h*n.e+m.i*n.h, m.g*n.c+m.h*n.f+m.i*n.i⟩
theorem mulA (l m n : Mat) : (l.mul m).mul n = l.mul (m.mul n) := by
  unfold Mat.mul
  simp only [Mat.mk.injEq]
  refine ⟨?_, ?_, ?_, ?_, ?_, ?_, ?_, ?_, ?_⟩ <;> grind
def Sp.tab (s : Sp) : Mat := ⟨s.a*s.a+s.b*s.b-s.c*s.c-s.d*s.d, 2*(s.b*s.c-s.a*s.d), 2*(s.b*s.d+s.a*s.c), 2*(s.b*s.c+s.a*s.d), s.a*s.a-s.b*s.b+s.c*s.c-s.d*s.d, 2*(s.c*s.d-s.a*s.b), 2*(s.b*s.d-s.a*s.c), 2*(s.c*s.d+s.a*s.b), s.a*s.a-s.b*s.b-s.c*s.c+s.d*s.d⟩
def Sp.mul (s t : Sp) : Sp := ⟨s.a*t.a-s.b*t.b-s.c*t.c-s.d*t.d, s.a*t.b+s.b*t.a+s.c*t.d-s.d*t.c, s.a*t.c-s.b*t.d+s.c*t.a+s.d*t.b, s.a*t.d+s.b*t.c-s.c*t.b+s.d*t.a⟩
def Sp.norm (s : Sp) : Int := s.a*s.a+s.b*s.b+s.c*s.c+s.d*s.d
def Sp.opp (s : Sp) : Sp := ⟨s.a, -s.b, -s.c, -s.d⟩
theorem norm_mul (s t : Sp) : (s.mul t).norm = s.norm * t.norm := by
  unfold Sp.norm Sp.mul
  grind
theorem tab_mul (s t : Sp) : (s.mul t).tab = s.tab.mul t.tab := by
  unfold Sp.mul Sp.tab Mat.mul
  simp only [Mat.mk.injEq]
  refine ⟨?_, ?_, ?_, ?_, ?_, ?_, ?_, ?_, ?_⟩ <;> grind
def Mat.one : Mat := ⟨1, 0, 0, 0, 1, 0, 0, 0, 1⟩
theorem one_mul' (m : Mat) : Mat.one.mul m = m := by
  unfold Mat.mul Mat.one
  cases m
  simp
theorem mul_one' (m : Mat) : m.mul Mat.one = m := by
  unfold Mat.mul Mat.one
  cases m
  simp
def Sp.Bd (k : Nat) (s : Sp) : Prop := MV.Bd k s.a ∧ MV.Bd k s.b ∧ MV.Bd k s.c ∧ MV.Bd k s.d
def Mat.Bd (k : Nat) (m : Mat) : Prop := MV.Bd k m.a ∧ MV.Bd k m.b ∧ MV.Bd k m.c ∧ MV.Bd k m.d ∧ MV.Bd k m.e ∧ MV.Bd k m.f ∧ MV.Bd k m.g ∧ MV.Bd k m.h ∧ MV.Bd k m.i
theorem Mat.Bd.le {k n : Nat} {m : Mat} (b : m.Bd k) (h : k ≤ n) : m.Bd n := ⟨b.1.le h, b.2.1.le h, b.2.2.1.le h, b.2.2.2.1.le h, b.2.2.2.2.1.le h, b.2.2.2.2.2.1.le h, b.2.2.2.2.2.2.1.le h, b.2.2.2.2.2.2.2.1.le h, b.2.2.2.2.2.2.2.2.le h⟩
theorem Sp.Bd.le {k n : Nat} {m : Sp} (b : m.Bd k) (h : k ≤ n) : m.Bd n := ⟨b.1.le h, b.2.1.le h, b.2.2.1.le h, b.2.2.2.le h⟩
theorem bd3 {k n : Nat} {a b c x y z : Int} (ha : MV.Bd k a) (hb : MV.Bd k b) (hc : MV.Bd k c) (hx : MV.Bd n x) (hy : MV.Bd n y) (hz : MV.Bd n z) : MV.Bd (k + n + 2) (a * x + b * y + c * z) :=
  ((((ha.mul hx).add (hb.mul hy)).add ((hc.mul hz).le (Nat.le_succ _))))
theorem Mat.Bd.mul {k n : Nat} {x y : Mat} (a : x.Bd k) (b : y.Bd n) : (x.mul y).Bd (k + n + 2) := by
  obtain ⟨a1, a2, a3, a4, a5, a6, a7, a8, a9⟩ := a
  obtain ⟨b1, b2, b3, b4, b5, b6, b7, b8, b9⟩ := b
  exact ⟨bd3 a1 a2 a3 b1 b4 b7, bd3 a1 a2 a3 b2 b5 b8, bd3 a1 a2 a3 b3 b6 b9, bd3 a4 a5 a6 b1 b4 b7, bd3 a4 a5 a6 b2 b5 b8, bd3 a4 a5 a6 b3 b6 b9, bd3 a7 a8 a9 b1 b4 b7, bd3 a7 a8 a9 b2 b5 b8, bd3 a7 a8 a9 b3 b6 b9⟩
theorem bd2 : MV.Bd 2 2 := by
  unfold MV.Bd
  decide
theorem Sp.Bd.tab {k : Nat} {s : Sp} (h : s.Bd k) : s.tab.Bd (k + k + 3) := by
  obtain ⟨ha, hb, hc, hd⟩ := h
  have q : ∀ {x y : Int}, MV.Bd (k + k + 1) x → MV.Bd (k + k + 3) (2 * x) := fun {x y} h => (bd2.mul h).le (by omega)
  have p : ∀ {x y z w : Int}, MV.Bd (k + k) x → MV.Bd (k + k) y → MV.Bd (k + k) z → MV.Bd (k + k) w → MV.Bd (k + k + 3) (x + y - z - w) := fun {x y z w} h1 h2 h3 h4 => ((h1.add h2).sub (h3.le (by omega))).sub (h4.le (by omega))
  have p2 : ∀ {x y z w : Int}, MV.Bd (k + k) x → MV.Bd (k + k) y → MV.Bd (k + k) z → MV.Bd (k + k) w → MV.Bd (k + k + 3) (x - y + z - w) := fun {x y z w} h1 h2 h3 h4 => ((h1.sub h2).add (h3.le (by omega))).sub (h4.le (by omega))
  have p3 : ∀ {x y z w : Int}, MV.Bd (k + k) x → MV.Bd (k + k) y → MV.Bd (k + k) z → MV.Bd (k + k) w → MV.Bd (k + k + 3) (x - y - z + w) := fun {x y z w} h1 h2 h3 h4 => ((h1.sub h2).sub (h3.le (by omega))).add (h4.le (by omega))
  exact ⟨p (ha.mul ha) (hb.mul hb) (hc.mul hc) (hd.mul hd), q (y := 0) ((hb.mul hc).sub (ha.mul hd)), q (y := 0) ((hb.mul hd).add (ha.mul hc)), q (y := 0) ((hb.mul hc).add (ha.mul hd)), p2 (ha.mul ha) (hb.mul hb) (hc.mul hc) (hd.mul hd), q (y := 0) ((hc.mul hd).sub (ha.mul hb)), q (y := 0) ((hb.mul hd).sub (ha.mul hc)), q (y := 0) ((hc.mul hd).add (ha.mul hb)), p3 (ha.mul ha) (hb.mul hb) (hc.mul hc) (hd.mul hd)⟩
def LT5 : List Sp := [⟨1, (-2), 0, 0⟩, ⟨1, 0, (-2), 0⟩, ⟨1, 0, 0, (-2)⟩, ⟨1, 0, 0, 2⟩, ⟨1, 0, 2, 0⟩, ⟨1, 2, 0, 0⟩]
def LT13 : List Sp := [⟨1, (-2), (-2), (-2)⟩, ⟨1, (-2), (-2), 2⟩, ⟨1, (-2), 2, (-2)⟩, ⟨1, (-2), 2, 2⟩, ⟨1, 2, (-2), (-2)⟩, ⟨1, 2, (-2), 2⟩, ⟨1, 2, 2, (-2)⟩, ⟨1, 2, 2, 2⟩, ⟨3, (-2), 0, 0⟩, ⟨3, 0, (-2), 0⟩, ⟨3, 0, 0, (-2)⟩, ⟨3, 0, 0, 2⟩, ⟨3, 0, 2, 0⟩, ⟨3, 2, 0, 0⟩]
def LT17 : List Sp := [⟨1, (-4), 0, 0⟩, ⟨1, 0, (-4), 0⟩, ⟨1, 0, 0, (-4)⟩, ⟨1, 0, 0, 4⟩, ⟨1, 0, 4, 0⟩, ⟨1, 4, 0, 0⟩, ⟨3, (-2), (-2), 0⟩, ⟨3, (-2), 0, (-2)⟩, ⟨3, (-2), 0, 2⟩, ⟨3, (-2), 2, 0⟩, ⟨3, 0, (-2), (-2)⟩, ⟨3, 0, (-2), 2⟩, ⟨3, 0, 2, (-2)⟩, ⟨3, 0, 2, 2⟩, ⟨3, 2, (-2), 0⟩, ⟨3, 2, 0, (-2)⟩, ⟨3, 2, 0, 2⟩, ⟨3, 2, 2, 0⟩]
def LT29 : List Sp := [⟨3, (-4), (-2), 0⟩, ⟨3, (-4), 0, (-2)⟩, ⟨3, (-4), 0, 2⟩, ⟨3, (-4), 2, 0⟩, ⟨3, (-2), (-4), 0⟩, ⟨3, (-2), 0, (-4)⟩, ⟨3, (-2), 0, 4⟩, ⟨3, (-2), 4, 0⟩, ⟨3, 0, (-4), (-2)⟩, ⟨3, 0, (-4), 2⟩, ⟨3, 0, (-2), (-4)⟩, ⟨3, 0, (-2), 4⟩, ⟨3, 0, 2, (-4)⟩, ⟨3, 0, 2, 4⟩, ⟨3, 0, 4, (-2)⟩, ⟨3, 0, 4, 2⟩, ⟨3, 2, (-4), 0⟩, ⟨3, 2, 0, (-4)⟩, ⟨3, 2, 0, 4⟩, ⟨3, 2, 4, 0⟩, ⟨3, 4, (-2), 0⟩, ⟨3, 4, 0, (-2)⟩, ⟨3, 4, 0, 2⟩, ⟨3, 4, 2, 0⟩, ⟨5, (-2), 0, 0⟩, ⟨5, 0, (-2), 0⟩, ⟨5, 0, 0, (-2)⟩, ⟨5, 0, 0, 2⟩, ⟨5, 0, 2, 0⟩, ⟨5, 2, 0, 0⟩]
def LT (p : Int) : List Sp := if p = 5 then LT5 else if p = 13 then LT13 else if p = 17 then LT17 else if p = 29 then LT29 else []
def IsP (p : Int) : Prop := p = 5 ∨ p = 13 ∨ p = 17 ∨ p = 29
def QT : List Mat := [⟨(-1), 0, 0, 0, (-1), 0, 0, 0, 1⟩, ⟨(-1), 0, 0, 0, 0, (-1), 0, (-1), 0⟩, ⟨(-1), 0, 0, 0, 0, 1, 0, 1, 0⟩, ⟨(-1), 0, 0, 0, 1, 0, 0, 0, (-1)⟩, ⟨0, (-1), 0, (-1), 0, 0, 0, 0, (-1)⟩, ⟨0, (-1), 0, 0, 0, (-1), 1, 0, 0⟩, ⟨0, (-1), 0, 0, 0, 1, (-1), 0, 0⟩, ⟨0, (-1), 0, 1, 0, 0, 0, 0, 1⟩, ⟨0, 0, (-1), (-1), 0, 0, 0, 1, 0⟩, ⟨0, 0, (-1), 0, (-1), 0, (-1), 0, 0⟩, ⟨0, 0, (-1), 0, 1, 0, 1, 0, 0⟩, ⟨0, 0, (-1), 1, 0, 0, 0, (-1), 0⟩, ⟨0, 0, 1, (-1), 0, 0, 0, (-1), 0⟩, ⟨0, 0, 1, 0, (-1), 0, 1, 0, 0⟩, ⟨0, 0, 1, 0, 1, 0, (-1), 0, 0⟩, ⟨0, 0, 1, 1, 0, 0, 0, 1, 0⟩, ⟨0, 1, 0, (-1), 0, 0, 0, 0, 1⟩, ⟨0, 1, 0, 0, 0, (-1), (-1), 0, 0⟩, ⟨0, 1, 0, 0, 0, 1, 1, 0, 0⟩, ⟨0, 1, 0, 1, 0, 0, 0, 0, (-1)⟩, ⟨1, 0, 0, 0, (-1), 0, 0, 0, (-1)⟩, ⟨1, 0, 0, 0, 0, (-1), 0, 1, 0⟩, ⟨1, 0, 0, 0, 0, 1, 0, (-1), 0⟩, ⟨1, 0, 0, 0, 1, 0, 0, 0, 1⟩]

end MV.X

set_option maxRecDepth 100000
set_option maxHeartbeats 4000000
namespace MV.X
open MV
open PySem (Str Operator)
/-! products of matrices, tables of spins, by both -/
@[simp] theorem range3 : rangeL 0 3 = [.int 0, .int 1, .int 2] := (rfl)
@[simp] theorem small3 : smallI 3 = true := (rfl)
theorem lend2 {h : HH} {x y : MV.D} (a : x.flat = true) (b : y.flat = true) (hx : lend h x = some x) (hy : lend h y = some y) : lends h [x, y] = some [x, y] := by
  simp [lends, hx, hy]
/-- a matrix in either form -/
def Mat.X (b : Bool) (m : Mat) : MV.D := cs b m.W m.D
theorem ans_of {k i : Nat} {es : List MV.D} {f : Fn} {d : MV.D} {h1 : HH} {r : Ret} (e1 : P.fns[i]? = some f) (e2 : f.kind = .fn true) (e3 : (es.length == f.np) = true) (e4 : MV.run P (callN P k) f.body (startE f.nl es) [] = .rt d h1) (e5 : takeOut d h1 = some r) : Ans P k i es r := ⟨f, d, h1, e1, e2, body_rt e3 e4, e5⟩
theorem mult_ans {k : Nat} {x y : Mat} (a : x.Bd 4000) (b : y.Bd 4000) : Ans P k i__law_mult [x.D, y.D] (.newl [.tup [.int (x.mul y).a, .int (x.mul y).b, .int (x.mul y).c], .tup [.int (x.mul y).d, .int (x.mul y).e, .int (x.mul y).f], .tup [.int (x.mul y).g, .int (x.mul y).h, .int (x.mul y).i]]) := by
  obtain ⟨a1, a2, a3, a4, a5, a6, a7, a8, a9⟩ := a
  obtain ⟨b1, b2, b3, b4, b5, b6, b7, b8, b9⟩ := b
  have m : ∀ {i j : Int}, MV.Bd 4000 i → MV.Bd 4000 j → mulOk i j = true := fun h1 h2 => h1.ok h2
  refine ans_of fn__law_mult rfl rfl (d := .ref 0) (h1 := [.lst [.tup [.int (x.mul y).a, .int (x.mul y).b, .int (x.mul y).c], .tup [.int (x.mul y).d, .int (x.mul y).e, .int (x.mul y).f], .tup [.int (x.mul y).g, .int (x.mul y).h, .int (x.mul y).i]]]) ?_ rfl
  simp [F__law_mult, b__law_mult, startE, Mat.D, loopL_cons, compL_cons, ixAt, m, a1, a2, a3, a4, a5, a6, a7, a8, a9, b1, b2, b3, b4, b5, b6, b7, b8, b9, app_def, Mat.mul, line]
def Mat.rows (m : Mat) : List MV.D := [.tup [.int m.a, .int m.b, .int m.c], .tup [.int m.d, .int m.e, .int m.f], .tup [.int m.g, .int m.h, .int m.i]]
theorem Mat.D_rows (m : Mat) : m.D = .lst m.rows := (rfl)
theorem mult_call {n : Nat} {x y : Mat} {h : HH} (a : x.Bd 4000) (b : y.Bd 4000) (hn : 1 ≤ n) : callN P n i__law_mult [x.D, y.D] h = .ok (.newl (x.mul y).rows) h := (mult_ans (k := 0) a b).call rfl hn
theorem bdl {k : Nat} {s : Sp} (h : s.Bd k) : ∀ {i j : Int}, (i = s.a ∨ i = s.b ∨ i = s.c ∨ i = s.d) → (j = s.a ∨ j = s.b ∨ j = s.c ∨ j = s.d) → k + k < 1000000 → mulOk i j = true := fun {i j} hi hj hk => by
  obtain ⟨h1, h2, h3, h4⟩ := h
  rcases hi with rfl | rfl | rfl | rfl <;> rcases hj with rfl | rfl | rfl | rfl <;> exact MV.Bd.ok (by assumption) (by assumption) hk
theorem table_sub {k : Nat} {s : Sp} (h : s.Bd k) (hk : k + k < 900000) : mulOk s.a s.a = true ∧ mulOk s.b s.b = true ∧ mulOk s.c s.c = true ∧ mulOk s.d s.d = true ∧ mulOk s.b s.c = true ∧ mulOk s.a s.d = true ∧ mulOk s.b s.d = true ∧ mulOk s.a s.c = true ∧ mulOk s.c s.d = true ∧ mulOk s.a s.b = true ∧
    mulOk 2 (s.b * s.c - s.a * s.d) = true ∧ mulOk 2 (s.b * s.d + s.a * s.c) = true ∧ mulOk 2 (s.b * s.c + s.a * s.d) = true ∧ mulOk 2 (s.c * s.d - s.a * s.b) = true ∧ mulOk 2 (s.b * s.d - s.a * s.c) = true ∧ mulOk 2 (s.c * s.d + s.a * s.b) = true := by
  obtain ⟨h1, h2, h3, h4⟩ := h
  have m : ∀ {i j : Int}, MV.Bd k i → MV.Bd k j → mulOk i j = true := fun a b => a.ok b (by omega)
  have m2 : ∀ {i : Int}, MV.Bd (k + k + 1) i → mulOk 2 i = true := fun a => bd2.ok a (by omega)
  exact ⟨m h1 h1, m h2 h2, m h3 h3, m h4 h4, m h2 h3, m h1 h4, m h2 h4, m h1 h3, m h3 h4, m h1 h2, m2 ((h2.mul h3).sub (h1.mul h4)), m2 ((h2.mul h4).add (h1.mul h3)), m2 ((h2.mul h3).add (h1.mul h4)), m2 ((h3.mul h4).sub (h1.mul h2)), m2 ((h2.mul h4).sub (h1.mul h3)), m2 ((h3.mul h4).add (h1.mul h2))⟩
theorem ltable_ans {k n : Nat} {s : Sp} (h : s.Bd n) (hn : n + n < 900000) : Ans P k i__law_table [s.D] (.newl s.tab.rows) := by
  obtain ⟨m1, m2, m3, m4, m5, m6, m7, m8, m9, m10, m11, m12, m13, m14, m15, m16⟩ := table_sub h hn
  refine ans_of fn__law_table rfl rfl (d := .ref 0) (h1 := [.lst s.tab.rows]) ?_ rfl
  simp [F__law_table, b__law_table, startE, Sp.D, m1, m2, m3, m4, m5, m6, m7, m8, m9, m10, m11, m12, m13, m14, m15, m16, Mat.rows, Sp.tab]
theorem ltable_call {n q : Nat} {s : Sp} {h : HH} (a : s.Bd q) (hq : q + q < 900000) (hn : 1 ≤ n) : callN P n i__law_table [s.D] h = .ok (.newl s.tab.rows) h := (ltable_ans (k := 0) a hq).call rfl hn
theorem table_ans {k n : Nat} {s : Sp} (h : s.Bd n) (hn : n + n < 900000) : Ans P k i_table_of [s.D] (.newl s.tab.rows) ∧ Ans P k i_table_of [s.W] (.newl s.tab.rows) := by
  obtain ⟨m1, m2, m3, m4, m5, m6, m7, m8, m9, m10, m11, m12, m13, m14, m15, m16⟩ := table_sub h hn
  constructor
  · refine ans_of fn_table_of rfl rfl (d := .ref 0) (h1 := [.lst s.tab.rows]) ?_ rfl
    simp [F_table_of, b_table_of, startE, Sp.D, m1, m2, m3, m4, m5, m6, m7, m8, m9, m10, m11, m12, m13, m14, m15, m16, Mat.rows, Sp.tab]
  · refine ans_of fn_table_of rfl rfl (d := .ref 0) (h1 := [.lst s.tab.rows]) ?_ rfl
    simp [F_table_of, b_table_of, startE, Sp.W, m1, m2, m3, m4, m5, m6, m7, m8, m9, m10, m11, m12, m13, m14, m15, m16, Mat.rows, Sp.tab]
theorem table_callD {n q : Nat} {s : Sp} {h : HH} (a : s.Bd q) (hq : q + q < 900000) (hn : 1 ≤ n) : callN P n i_table_of [s.D] h = .ok (.newl s.tab.rows) h := (table_ans (k := 0) a hq).1.call rfl hn
theorem table_callW {n q : Nat} {s : Sp} {h : HH} (a : s.Bd q) (hq : q + q < 900000) (hn : 1 ≤ n) : callN P n i_table_of [s.W] h = .ok (.newl s.tab.rows) h := (table_ans (k := 0) a hq).2.call rfl hn
theorem sum3 (a b c : Int) : [a, b, c].sum = a + b + c := by
  simp
  omega
theorem prod_ans {k : Nat} {x y : Mat} {s t : Bool} (a : x.Bd 4000) (b : y.Bd 4000) : Ans P k i_product_rows [x.X s, y.X t] (.newl (x.mul y).rows) := by
  obtain ⟨a1, a2, a3, a4, a5, a6, a7, a8, a9⟩ := a
  obtain ⟨b1, b2, b3, b4, b5, b6, b7, b8, b9⟩ := b
  have m : ∀ {i j : Int}, MV.Bd 4000 i → MV.Bd 4000 j → mulOk i j = true := fun h1 h2 => h1.ok h2
  refine ans_of fn_product_rows rfl rfl (d := .ref 0) (h1 := [.lst (x.mul y).rows]) ?_ rfl
  cases s <;> cases t <;> simp [F_product_rows, b_product_rows, startE, Mat.X, Mat.W, Mat.D, Mat.rows, loopL_cons, compL_cons, ixAt, m, a1, a2, a3, a4, a5, a6, a7, a8, a9, b1, b2, b3, b4, b5, b6, b7, b8, b9, Mat.mul, Int.add_assoc]
theorem prod_call {n : Nat} {x y : Mat} {s t : Bool} {h : HH} (a : x.Bd 4000) (b : y.Bd 4000) (hn : 1 ≤ n) : callN P n i_product_rows [x.X s, y.X t] h = .ok (.newl (x.mul y).rows) h := (prod_ans (k := 0) (s := s) (t := t) a b).call (by cases s <;> cases t <;> rfl) hn

end MV.X

set_option maxRecDepth 100000
set_option maxHeartbeats 4000000
namespace MV.X
open MV
open PySem (Str Operator)
/-! finite tables -/
def UD5 : List Nat := [5, 4, 3, 2, 1, 0]
def UD13 : List Nat := [7, 6, 5, 4, 3, 2, 1, 0, 13, 12, 11, 10, 9, 8]
def UD17 : List Nat := [5, 4, 3, 2, 1, 0, 17, 16, 15, 14, 13, 12, 11, 10, 9, 8, 7, 6]
def UD29 : List Nat := [23, 22, 21, 20, 19, 18, 17, 16, 15, 14, 13, 12, 11, 10, 9, 8, 7, 6, 5, 4, 3, 2, 1, 0, 29, 28, 27, 26, 25, 24]
def UD (p : Int) : List Nat := if p = 5 then UD5 else if p = 13 then UD13 else if p = 17 then UD17 else if p = 29 then UD29 else []
/-- the letter that undoes a letter -/
def un (p : Int) (l : Nat) : Nat := (UD p).getD l 0
def SQ : List Sp := [⟨0, 0, 0, 1⟩, ⟨0, 0, 1, (-1)⟩, ⟨0, 0, 1, 1⟩, ⟨0, 0, 1, 0⟩, ⟨0, 1, (-1), 0⟩, ⟨1, 1, (-1), 1⟩, ⟨1, (-1), 1, 1⟩, ⟨1, 0, 0, 1⟩, ⟨1, 1, (-1), (-1)⟩, ⟨0, 1, 0, (-1)⟩, ⟨1, 0, (-1), 0⟩, ⟨1, (-1), (-1), 1⟩, ⟨1, (-1), 1, (-1)⟩, ⟨0, 1, 0, 1⟩, ⟨1, 0, 1, 0⟩, ⟨1, 1, 1, 1⟩, ⟨1, 0, 0, (-1)⟩, ⟨1, 1, 1, (-1)⟩, ⟨1, (-1), (-1), (-1)⟩, ⟨0, 1, 1, 0⟩, ⟨0, 1, 0, 0⟩, ⟨1, 1, 0, 0⟩, ⟨1, (-1), 0, 0⟩, ⟨1, 0, 0, 0⟩]
def Mat.rowsW (m : Mat) : List MV.D := [.wtup [.int m.a, .int m.b, .int m.c], .wtup [.int m.d, .int m.e, .int m.f], .wtup [.int m.g, .int m.h, .int m.i]]

def ansF (P : Prog) (k i : Nat) (es : List MV.D) : Option Ret := match P.fns[i]? with
  | some f => (match f.kind with
    | .fn true => (match body P (callN P k) f es [] with
      | .ok d h1 => takeOut d h1
      | _ => none)
    | _ => none)
  | none => none
theorem ans_by {P : Prog} {k i : Nat} {es : List MV.D} {r : Ret} (h : ansF P k i es = some r) : Ans P k i es r := by
  unfold ansF at h
  split at h
  · rename_i f e1
    split at h
    · rename_i e2
      split at h
      · rename_i d h1 e3
        exact ⟨f, d, h1, e1, e2, e3, h⟩
      · cases h
    · cases h
  · cases h
theorem letters_ans {p : Int} (hp : IsP p) : Ans P 3 i__law_letters [.int p] (.val (.lst ((LT p).map Sp.D))) := by
  rcases hp with rfl | rfl | rfl | rfl
  · exact ans_by (by kernel_rfl)
  · exact ans_by (by kernel_rfl)
  · exact ans_by (by kernel_rfl)
  · exact ans_by (by kernel_rfl)
theorem quarters_ans : Ans P 3 i__law_quarters [] (.newl (QT.map Mat.D)) := ans_by (by kernel_rfl)
def qt (q : Nat) : Mat := QT.getD q Mat.one
def sq (q : Nat) : Sp := SQ.getD q ⟨1, 0, 0, 0⟩
def lt (p : Int) (l : Nat) : Sp := (LT p).getD l ⟨1, 0, 0, 0⟩
def nl (p : Int) : Nat := (LT p).length
theorem qrows_ans : ∀ q : Nat, q < 24 → Ans P 6 i_quarter_rows [.int q] (.newl (qt q).rowsW)
  | 0, _ => ans_by (by kernel_rfl)
  | 1, _ => ans_by (by kernel_rfl)
  | 2, _ => ans_by (by kernel_rfl)
  | 3, _ => ans_by (by kernel_rfl)
  | 4, _ => ans_by (by kernel_rfl)
  | 5, _ => ans_by (by kernel_rfl)
  | 6, _ => ans_by (by kernel_rfl)
  | 7, _ => ans_by (by kernel_rfl)
  | 8, _ => ans_by (by kernel_rfl)
  | 9, _ => ans_by (by kernel_rfl)
  | 10, _ => ans_by (by kernel_rfl)
  | 11, _ => ans_by (by kernel_rfl)
  | 12, _ => ans_by (by kernel_rfl)
  | 13, _ => ans_by (by kernel_rfl)
  | 14, _ => ans_by (by kernel_rfl)
  | 15, _ => ans_by (by kernel_rfl)
  | 16, _ => ans_by (by kernel_rfl)
  | 17, _ => ans_by (by kernel_rfl)
  | 18, _ => ans_by (by kernel_rfl)
  | 19, _ => ans_by (by kernel_rfl)
  | 20, _ => ans_by (by kernel_rfl)
  | 21, _ => ans_by (by kernel_rfl)
  | 22, _ => ans_by (by kernel_rfl)
  | 23, _ => ans_by (by kernel_rfl)
  | n + 24, h => absurd h (by omega)
theorem cq_ans : ∀ q : Nat, q < 24 → Ans P 1 i_check_quarter [.int q] (.val .non)
  | 0, _ => ans_by (by kernel_rfl)
  | 1, _ => ans_by (by kernel_rfl)
  | 2, _ => ans_by (by kernel_rfl)
  | 3, _ => ans_by (by kernel_rfl)
  | 4, _ => ans_by (by kernel_rfl)
  | 5, _ => ans_by (by kernel_rfl)
  | 6, _ => ans_by (by kernel_rfl)
  | 7, _ => ans_by (by kernel_rfl)
  | 8, _ => ans_by (by kernel_rfl)
  | 9, _ => ans_by (by kernel_rfl)
  | 10, _ => ans_by (by kernel_rfl)
  | 11, _ => ans_by (by kernel_rfl)
  | 12, _ => ans_by (by kernel_rfl)
  | 13, _ => ans_by (by kernel_rfl)
  | 14, _ => ans_by (by kernel_rfl)
  | 15, _ => ans_by (by kernel_rfl)
  | 16, _ => ans_by (by kernel_rfl)
  | 17, _ => ans_by (by kernel_rfl)
  | 18, _ => ans_by (by kernel_rfl)
  | 19, _ => ans_by (by kernel_rfl)
  | 20, _ => ans_by (by kernel_rfl)
  | 21, _ => ans_by (by kernel_rfl)
  | 22, _ => ans_by (by kernel_rfl)
  | 23, _ => ans_by (by kernel_rfl)
  | n + 24, h => absurd h (by omega)
theorem und_5 : ∀ l : Nat, l < 6 → Ans P 3 i_undone_letter [.int 5, .int l] (.val (.int (un 5 l)))
  | 0, _ => ans_by (by kernel_rfl)
  | 1, _ => ans_by (by kernel_rfl)
  | 2, _ => ans_by (by kernel_rfl)
  | 3, _ => ans_by (by kernel_rfl)
  | 4, _ => ans_by (by kernel_rfl)
  | 5, _ => ans_by (by kernel_rfl)
  | n + 6, h => absurd h (by omega)
theorem und_13 : ∀ l : Nat, l < 14 → Ans P 3 i_undone_letter [.int 13, .int l] (.val (.int (un 13 l)))
  | 0, _ => ans_by (by kernel_rfl)
  | 1, _ => ans_by (by kernel_rfl)
  | 2, _ => ans_by (by kernel_rfl)
  | 3, _ => ans_by (by kernel_rfl)
  | 4, _ => ans_by (by kernel_rfl)
  | 5, _ => ans_by (by kernel_rfl)
  | 6, _ => ans_by (by kernel_rfl)
  | 7, _ => ans_by (by kernel_rfl)
  | 8, _ => ans_by (by kernel_rfl)
  | 9, _ => ans_by (by kernel_rfl)
  | 10, _ => ans_by (by kernel_rfl)
  | 11, _ => ans_by (by kernel_rfl)
  | 12, _ => ans_by (by kernel_rfl)
  | 13, _ => ans_by (by kernel_rfl)
  | n + 14, h => absurd h (by omega)
theorem und_17 : ∀ l : Nat, l < 18 → Ans P 3 i_undone_letter [.int 17, .int l] (.val (.int (un 17 l)))
  | 0, _ => ans_by (by kernel_rfl)
  | 1, _ => ans_by (by kernel_rfl)
  | 2, _ => ans_by (by kernel_rfl)
  | 3, _ => ans_by (by kernel_rfl)
  | 4, _ => ans_by (by kernel_rfl)
  | 5, _ => ans_by (by kernel_rfl)
  | 6, _ => ans_by (by kernel_rfl)
  | 7, _ => ans_by (by kernel_rfl)
  | 8, _ => ans_by (by kernel_rfl)
  | 9, _ => ans_by (by kernel_rfl)
  | 10, _ => ans_by (by kernel_rfl)
  | 11, _ => ans_by (by kernel_rfl)
  | 12, _ => ans_by (by kernel_rfl)
  | 13, _ => ans_by (by kernel_rfl)
  | 14, _ => ans_by (by kernel_rfl)
  | 15, _ => ans_by (by kernel_rfl)
  | 16, _ => ans_by (by kernel_rfl)
  | 17, _ => ans_by (by kernel_rfl)
  | n + 18, h => absurd h (by omega)
theorem und_29 : ∀ l : Nat, l < 30 → Ans P 3 i_undone_letter [.int 29, .int l] (.val (.int (un 29 l)))
  | 0, _ => ans_by (by kernel_rfl)
  | 1, _ => ans_by (by kernel_rfl)
  | 2, _ => ans_by (by kernel_rfl)
  | 3, _ => ans_by (by kernel_rfl)
  | 4, _ => ans_by (by kernel_rfl)
  | 5, _ => ans_by (by kernel_rfl)
  | 6, _ => ans_by (by kernel_rfl)
  | 7, _ => ans_by (by kernel_rfl)
  | 8, _ => ans_by (by kernel_rfl)
  | 9, _ => ans_by (by kernel_rfl)
  | 10, _ => ans_by (by kernel_rfl)
  | 11, _ => ans_by (by kernel_rfl)
  | 12, _ => ans_by (by kernel_rfl)
  | 13, _ => ans_by (by kernel_rfl)
  | 14, _ => ans_by (by kernel_rfl)
  | 15, _ => ans_by (by kernel_rfl)
  | 16, _ => ans_by (by kernel_rfl)
  | 17, _ => ans_by (by kernel_rfl)
  | 18, _ => ans_by (by kernel_rfl)
  | 19, _ => ans_by (by kernel_rfl)
  | 20, _ => ans_by (by kernel_rfl)
  | 21, _ => ans_by (by kernel_rfl)
  | 22, _ => ans_by (by kernel_rfl)
  | 23, _ => ans_by (by kernel_rfl)
  | 24, _ => ans_by (by kernel_rfl)
  | 25, _ => ans_by (by kernel_rfl)
  | 26, _ => ans_by (by kernel_rfl)
  | 27, _ => ans_by (by kernel_rfl)
  | 28, _ => ans_by (by kernel_rfl)
  | 29, _ => ans_by (by kernel_rfl)
  | n + 30, h => absurd h (by omega)
theorem und_ans {p : Int} (hp : IsP p) (l : Nat) (hl : l < nl p) : Ans P 3 i_undone_letter [.int p, .int l] (.val (.int (un p l))) := by
  rcases hp with rfl | rfl | rfl | rfl
  · exact und_5 l hl
  · exact und_13 l hl
  · exact und_17 l hl
  · exact und_29 l hl
theorem cp_ans {p : Int} (hp : IsP p) : Ans P 1 i_check_prime [.int p] (.val .non) := by
  rcases hp with rfl | rfl | rfl | rfl <;> exact ans_by (by kernel_rfl)
/-- the law's own tables for a prime -/
def hall (p : Int) (n m : Nat) : MV.D := .tup [.int p, .lst ((LT p).map Sp.D), .lst (QT.map Mat.D), .ref n, .ref m]
theorem lund_5 (n m : Nat) (h : HH) : ∀ l : Nat, l < 6 → callN P 3 i__law_undone [hall 5 n m, .int l] h = .ok (.val (.int (un 5 l))) h
  | 0, _ => by kernel_rfl
  | 1, _ => by kernel_rfl
  | 2, _ => by kernel_rfl
  | 3, _ => by kernel_rfl
  | 4, _ => by kernel_rfl
  | 5, _ => by kernel_rfl
  | n + 6, h => absurd h (by omega)
theorem lund_13 (n m : Nat) (h : HH) : ∀ l : Nat, l < 14 → callN P 3 i__law_undone [hall 13 n m, .int l] h = .ok (.val (.int (un 13 l))) h
  | 0, _ => by kernel_rfl
  | 1, _ => by kernel_rfl
  | 2, _ => by kernel_rfl
  | 3, _ => by kernel_rfl
  | 4, _ => by kernel_rfl
  | 5, _ => by kernel_rfl
  | 6, _ => by kernel_rfl
  | 7, _ => by kernel_rfl
  | 8, _ => by kernel_rfl
  | 9, _ => by kernel_rfl
  | 10, _ => by kernel_rfl
  | 11, _ => by kernel_rfl
  | 12, _ => by kernel_rfl
  | 13, _ => by kernel_rfl
  | n + 14, h => absurd h (by omega)
theorem lund_17 (n m : Nat) (h : HH) : ∀ l : Nat, l < 18 → callN P 3 i__law_undone [hall 17 n m, .int l] h = .ok (.val (.int (un 17 l))) h
  | 0, _ => by kernel_rfl
  | 1, _ => by kernel_rfl
  | 2, _ => by kernel_rfl
  | 3, _ => by kernel_rfl
  | 4, _ => by kernel_rfl
  | 5, _ => by kernel_rfl
  | 6, _ => by kernel_rfl
  | 7, _ => by kernel_rfl
  | 8, _ => by kernel_rfl
  | 9, _ => by kernel_rfl
  | 10, _ => by kernel_rfl
  | 11, _ => by kernel_rfl
  | 12, _ => by kernel_rfl
  | 13, _ => by kernel_rfl
  | 14, _ => by kernel_rfl
  | 15, _ => by kernel_rfl
  | 16, _ => by kernel_rfl
  | 17, _ => by kernel_rfl
  | n + 18, h => absurd h (by omega)
theorem lund_29 (n m : Nat) (h : HH) : ∀ l : Nat, l < 30 → callN P 3 i__law_undone [hall 29 n m, .int l] h = .ok (.val (.int (un 29 l))) h
  | 0, _ => by kernel_rfl
  | 1, _ => by kernel_rfl
  | 2, _ => by kernel_rfl
  | 3, _ => by kernel_rfl
  | 4, _ => by kernel_rfl
  | 5, _ => by kernel_rfl
  | 6, _ => by kernel_rfl
  | 7, _ => by kernel_rfl
  | 8, _ => by kernel_rfl
  | 9, _ => by kernel_rfl
  | 10, _ => by kernel_rfl
  | 11, _ => by kernel_rfl
  | 12, _ => by kernel_rfl
  | 13, _ => by kernel_rfl
  | 14, _ => by kernel_rfl
  | 15, _ => by kernel_rfl
  | 16, _ => by kernel_rfl
  | 17, _ => by kernel_rfl
  | 18, _ => by kernel_rfl
  | 19, _ => by kernel_rfl
  | 20, _ => by kernel_rfl
  | 21, _ => by kernel_rfl
  | 22, _ => by kernel_rfl
  | 23, _ => by kernel_rfl
  | 24, _ => by kernel_rfl
  | 25, _ => by kernel_rfl
  | 26, _ => by kernel_rfl
  | 27, _ => by kernel_rfl
  | 28, _ => by kernel_rfl
  | 29, _ => by kernel_rfl
  | n + 30, h => absurd h (by omega)
theorem lund {p : Int} (hp : IsP p) {k : Nat} (hk : 3 ≤ k) (n m : Nat) (h : HH) (l : Nat) (hl : l < nl p) : callN P k i__law_undone [hall p n m, .int l] h = .ok (.val (.int (un p l))) h := by
  refine callN_mono hk ?_ (by intro z; cases z)
  rcases hp with rfl | rfl | rfl | rfl
  · exact lund_5 n m h l hl
  · exact lund_13 n m h l hl
  · exact lund_17 n m h l hl
  · exact lund_29 n m h l hl

end MV.X

set_option maxRecDepth 100000
set_option maxHeartbeats 4000000
namespace MV.X
open MV
open PySem (Str Operator)
theorem qspin_0 : Ans P 9 i_quarter_spin [.int (0 : Nat)] (.val (sq 0).D) := ans_by (by kernel_rfl)
theorem qspin_1 : Ans P 9 i_quarter_spin [.int (1 : Nat)] (.val (sq 1).D) := ans_by (by kernel_rfl)
theorem qspin_2 : Ans P 9 i_quarter_spin [.int (2 : Nat)] (.val (sq 2).D) := ans_by (by kernel_rfl)
theorem qspin_3 : Ans P 9 i_quarter_spin [.int (3 : Nat)] (.val (sq 3).D) := ans_by (by kernel_rfl)
theorem qspin_4 : Ans P 9 i_quarter_spin [.int (4 : Nat)] (.val (sq 4).D) := ans_by (by kernel_rfl)
theorem qspin_5 : Ans P 9 i_quarter_spin [.int (5 : Nat)] (.val (sq 5).D) := ans_by (by kernel_rfl)
theorem qspin_6 : Ans P 9 i_quarter_spin [.int (6 : Nat)] (.val (sq 6).D) := ans_by (by kernel_rfl)
theorem qspin_7 : Ans P 9 i_quarter_spin [.int (7 : Nat)] (.val (sq 7).D) := ans_by (by kernel_rfl)
theorem qspin_8 : Ans P 9 i_quarter_spin [.int (8 : Nat)] (.val (sq 8).D) := ans_by (by kernel_rfl)
theorem qspin_9 : Ans P 9 i_quarter_spin [.int (9 : Nat)] (.val (sq 9).D) := ans_by (by kernel_rfl)
theorem qspin_10 : Ans P 9 i_quarter_spin [.int (10 : Nat)] (.val (sq 10).D) := ans_by (by kernel_rfl)
theorem qspin_11 : Ans P 9 i_quarter_spin [.int (11 : Nat)] (.val (sq 11).D) := ans_by (by kernel_rfl)
theorem qspin_12 : Ans P 9 i_quarter_spin [.int (12 : Nat)] (.val (sq 12).D) := ans_by (by kernel_rfl)
theorem qspin_13 : Ans P 9 i_quarter_spin [.int (13 : Nat)] (.val (sq 13).D) := ans_by (by kernel_rfl)
theorem qspin_14 : Ans P 9 i_quarter_spin [.int (14 : Nat)] (.val (sq 14).D) := ans_by (by kernel_rfl)
theorem qspin_15 : Ans P 9 i_quarter_spin [.int (15 : Nat)] (.val (sq 15).D) := ans_by (by kernel_rfl)
theorem qspin_16 : Ans P 9 i_quarter_spin [.int (16 : Nat)] (.val (sq 16).D) := ans_by (by kernel_rfl)
theorem qspin_17 : Ans P 9 i_quarter_spin [.int (17 : Nat)] (.val (sq 17).D) := ans_by (by kernel_rfl)
theorem qspin_18 : Ans P 9 i_quarter_spin [.int (18 : Nat)] (.val (sq 18).D) := ans_by (by kernel_rfl)
theorem qspin_19 : Ans P 9 i_quarter_spin [.int (19 : Nat)] (.val (sq 19).D) := ans_by (by kernel_rfl)
theorem qspin_20 : Ans P 9 i_quarter_spin [.int (20 : Nat)] (.val (sq 20).D) := ans_by (by kernel_rfl)
theorem qspin_21 : Ans P 9 i_quarter_spin [.int (21 : Nat)] (.val (sq 21).D) := ans_by (by kernel_rfl)
theorem qspin_22 : Ans P 9 i_quarter_spin [.int (22 : Nat)] (.val (sq 22).D) := ans_by (by kernel_rfl)
theorem qspin_23 : Ans P 9 i_quarter_spin [.int (23 : Nat)] (.val (sq 23).D) := ans_by (by kernel_rfl)
theorem qspin_ans : ∀ q : Nat, q < 24 → Ans P 9 i_quarter_spin [.int q] (.val (sq q).D)
  | 0, _ => qspin_0
  | 1, _ => qspin_1
  | 2, _ => qspin_2
  | 3, _ => qspin_3
  | 4, _ => qspin_4
  | 5, _ => qspin_5
  | 6, _ => qspin_6
  | 7, _ => qspin_7
  | 8, _ => qspin_8
  | 9, _ => qspin_9
  | 10, _ => qspin_10
  | 11, _ => qspin_11
  | 12, _ => qspin_12
  | 13, _ => qspin_13
  | 14, _ => qspin_14
  | 15, _ => qspin_15
  | 16, _ => qspin_16
  | 17, _ => qspin_17
  | 18, _ => qspin_18
  | 19, _ => qspin_19
  | 20, _ => qspin_20
  | 21, _ => qspin_21
  | 22, _ => qspin_22
  | 23, _ => qspin_23
  | n + 24, h => absurd h (by omega)

end MV.X

set_option maxRecDepth 100000
set_option maxHeartbeats 4000000
namespace MV.X
open MV
open PySem (Str Operator)
/-! words of letters -/
def ln (w : List Nat) : List MV.D := w.map fun l => .int (l : Nat)
@[simp] theorem ln_length (w : List Nat) : (ln w).length = w.length := List.length_map ..
theorem ln_get (w : List Nat) (i : Nat) : (ln w)[i]? = w[i]?.map fun (l : Nat) => MV.D.int l := List.getElem?_map ..
theorem cmps_ln (n : Nat) : ∀ w : List Nat, D.cmps n (ln w) = true
  | [] => by simp [ln, D.cmps]
  | l :: w => by
    have := cmps_ln n w
    unfold ln at this ⊢
    rw [List.map_cons]
    simp only [D.cmps, D.cmp, this, Bool.and_true]
theorem flats_ln : ∀ w : List Nat, D.flats (ln w) = true
  | [] => by simp [ln, D.flats]
  | l :: w => by
    have := flats_ln w
    unfold ln at this ⊢
    rw [List.map_cons]
    simp only [D.flats, D.flat, this, Bool.and_true]
def push (p : Int) (s : List Nat) (l : Nat) : List Nat := if s.getLast? = some (un p l) then s.dropLast else s ++ [l]
def red (p : Int) (w : List Nat) : List Nat := w.foldl (push p) []
def Rdc (p : Int) : List Nat → Prop
  | [] => True
  | [_] => True
  | a :: b :: r => a ≠ un p b ∧ Rdc p (b :: r)
theorem Rdc.snoc {p : Int} {l : Nat} : ∀ {s : List Nat}, Rdc p (s ++ [l]) ↔ Rdc p s ∧ s.getLast? ≠ some (un p l)
  | [] => by simp [Rdc]
  | [a] => by simp [Rdc]
  | a :: b :: r => by
    have ih := Rdc.snoc (p := p) (l := l) (s := b :: r)
    simp only [List.cons_append, Rdc] at ih ⊢
    rw [ih, List.getLast?_cons_cons]
    exact and_assoc.symm
theorem Rdc.dropLast {p : Int} {s : List Nat} (h : Rdc p s) : Rdc p s.dropLast := by
  rcases List.eq_nil_or_concat s with rfl | ⟨t, l, rfl⟩
  · exact h
  · rw [List.concat_eq_append] at h ⊢
    rw [List.dropLast_concat]
    exact (Rdc.snoc.mp h).1
theorem push_rdc {p : Int} {s : List Nat} {l : Nat} (h : Rdc p s) : Rdc p (push p s l) := by
  unfold push
  split
  · exact h.dropLast
  · rename_i e
    exact Rdc.snoc.mpr ⟨h, e⟩
theorem foldl_rdc {p : Int} : ∀ {w s : List Nat}, Rdc p s → Rdc p (w.foldl (push p) s)
  | [], _, h => h
  | l :: w, _, h => foldl_rdc (w := w) (push_rdc h)
theorem red_rdc (p : Int) (w : List Nat) : Rdc p (red p w) := foldl_rdc (s := []) True.intro
theorem Rdc.prefix {p : Int} {s : List Nat} : ∀ {t : List Nat}, Rdc p (s ++ t) → Rdc p s := fun {t} h => by
  induction t generalizing s with
  | nil => simpa using h
  | cons a t ih => exact (Rdc.snoc.mp (ih (s := s ++ [a]) (by simpa using h))).1
theorem foldl_id {p : Int} : ∀ {w s : List Nat}, Rdc p (s ++ w) → w.foldl (push p) s = s ++ w
  | [], s, _ => by simp
  | l :: w, s, h => by
    have h1 : Rdc p ((s ++ [l]) ++ w) := by simpa using h
    have h2 := Rdc.snoc.mp (Rdc.prefix h1)
    rw [List.foldl_cons]
    have : push p s l = s ++ [l] := by
      unfold push
      rw [if_neg h2.2]
    rw [this, foldl_id h1]
    simp
theorem red_id {p : Int} {w : List Nat} (h : Rdc p w) : red p w = w := foldl_id (s := []) h
def Lw (p : Int) (w : List Nat) : Prop := ∀ l ∈ w, l < nl p
theorem push_lw {p : Int} {s : List Nat} {l : Nat} (h : Lw p s) (hl : l < nl p) : Lw p (push p s l) := by
  unfold push
  split
  · exact fun x hx => h x (List.dropLast_subset s hx)
  · intro x hx
    rcases List.mem_append.mp hx with z | z
    · exact h x z
    · rw [List.mem_singleton.mp z]
      exact hl
theorem foldl_lw {p : Int} : ∀ {w s : List Nat}, Lw p w → Lw p s → Lw p (w.foldl (push p) s)
  | [], _, _, h => h
  | l :: w, _, hw, h => foldl_lw (w := w) (fun x hx => hw x (List.mem_cons_of_mem _ hx)) (push_lw h (hw l (List.mem_cons_self ..)))
theorem red_lw {p : Int} {w : List Nat} (h : Lw p w) : Lw p (red p w) := foldl_lw h (fun x hx => by cases hx)
theorem push_len {p : Int} {s : List Nat} {l : Nat} : (push p s l).length ≤ s.length + 1 := by
  unfold push
  split
  · rw [List.length_dropLast]
    omega
  · simp
theorem foldl_len {p : Int} : ∀ {w s : List Nat}, (w.foldl (push p) s).length ≤ s.length + w.length
  | [], _ => Nat.le_refl _
  | l :: w, s => by
    have := foldl_len (p := p) (w := w) (s := push p s l)
    have := push_len (p := p) (s := s) (l := l)
    rw [List.foldl_cons, List.length_cons]
    omega
theorem red_len (p : Int) (w : List Nat) : (red p w).length ≤ w.length := by
  have := foldl_len (p := p) (w := w) (s := [])
  simpa [red] using this
theorem eqvs_nil : ∀ l : List MV.D, D.eqvs l [] = l.isEmpty
  | [] => by simp [D.eqvs]
  | _ :: _ => by simp [D.eqvs]
theorem eq_nilR {H : HH} {k : Nat} {w : List Nat} (e : H[k]? = some (.lst (ln w))) : eqD (.ref k) (.lst []) H = some w.isEmpty := by
  have sh : shown (.ref k) H = .lst (ln w) := by
    unfold shown
    simp only [e]
  unfold eqD
  rw [sh]
  have c1 : D.cmp 60 (.lst (ln w)) = true := by
    simp only [D.cmp]
    exact cmps_ln 59 w
  rw [c1]
  show some (D.eqv (.lst (ln w)) (.lst [])) = _
  simp only [D.eqv, eqvs_nil]
  cases w <;> rfl
theorem ln_last {w : List Nat} (h : w ≠ []) : ∃ a, w.getLast? = some a ∧ (ixAt (ln w).length (-1)).bind (fun j => (ln w)[j]?) = some (.int (a : Nat)) := by
  have hl : 0 < w.length := List.length_pos_iff.mpr h
  refine ⟨w.getLast h, List.getLast?_eq_some_getLast h, ?_⟩
  rw [ixAt_last (by simpa using hl), Option.bind_some, ln_get, ln_length]
  rw [List.getLast_eq_getElem]
  rw [List.getElem?_eq_getElem (by omega)]
  rfl
/-- one turn of both defs: t the turn's test and stores, by a list at k -/
theorem turn_red {p : Int} {s : List Nat} {l : Nat} : (s ≠ [] ∧ s.getLast? = some (un p l)) ∨ (s.getLast? ≠ some (un p l)) := by
  by_cases h : s.getLast? = some (un p l)
  · exact .inl ⟨fun z => (by rw [z] at h; cases h), h⟩
  · exact .inr h
theorem ln_dl (s : List Nat) : (ln s).dropLast = ln s.dropLast := by
  unfold ln
  rw [List.map_dropLast]
/-- the body of a def's one loop -/
def lpB : S → S
  | .seq _ (.seq (.loop _ _ b) _) => b
  | s => s
theorem lred_loop {p : Int} (hp : IsP p) {m : Nat} (hm : 3 ≤ m) {a b k : Nat} {wd : MV.D} : ∀ (w s : List Nat) (x : Option MV.D) (H : HH), Lw p w → s.length + w.length < 10000 → H[k]? = some (.lst (ln s)) →
    ∃ x', loopL (lf P (callN P m) (.t_n 3) (lpB b__law_reduced)) (ln w) [some (hall p a b), some wd, some (.ref k), x] H = .nx [some (hall p a b), some wd, some (.ref k), x'] (H.set k (.lst (ln (w.foldl (push p) s))))
  | [], s, x, H, _, _, e => ⟨x, by
    have es : H.set k (.lst (ln s)) = H := by
      rw [← Option.some.inj ((List.getElem?_eq_getElem (List.getElem?_eq_some_iff.mp e).1).symm.trans e)]
      exact List.set_getElem_self _
    show RS.nx _ _ = RS.nx _ _
    rw [List.foldl_nil, es]⟩
  | l :: w, s, x, H, hw, hl, e => by
    have hl1 : l < nl p := hw l (List.mem_cons_self ..)
    have hw1 : Lw p w := fun x hx => hw x (List.mem_cons_of_mem _ hx)
    have e1 : ∀ o, (H.set k o)[k]? = some o := fun o => get_set e
    rw [List.length_cons] at hl
    obtain ⟨x', ih⟩ := lred_loop hp hm (a := a) (b := b) (wd := wd) w (push p s l) (some (.int (l : Nat))) (H.set k (.lst (ln (push p s l)))) hw1 (by have := push_len (p := p) (s := s) (l := l); omega) (e1 _)
    refine ⟨x', ?_⟩
    rw [List.set_set] at ih
    rw [List.foldl_cons, ← ih]
    show loopL _ (.int (l : Nat) :: ln w) _ _ = _
    rw [loopL_cons]
    have step : ∀ {r : RS} {f g : Env → HH → RS} {ρ : Env} {h : HH}, r = .nx ρ h → f = g → r.tn f = g ρ h := fun h1 h2 => by rw [h1, h2]; rfl
    refine step ?_ rfl
    have und := fun H => lund hp hm a b H l hl1
    unfold push
    rcases turn_red (p := p) (s := s) (l := l) with ⟨h1, h2⟩ | h2
    · obtain ⟨z, z1, z2⟩ := ln_last h1
      rw [h2] at z1
      cases z1
      have hlen : (ln s)[(ln s).length - 1]? = some (.int ((un p l : Nat) : Int)) := by
        rw [ixAt_last (by simpa using List.length_pos_iff.mpr h1)] at z2
        exact z2
      simp only [ln_length] at z2 hlen
      have hE : s.isEmpty = false := by simpa using h1
      simp [lpB, b__law_reduced, hE, eq_nilR e, h1, h2, it_refU, e, z2, und, pop_def, hlen, ln_dl]
    · rw [if_neg h2]
      by_cases h1 : s = []
      · subst h1
        simp [lpB, b__law_reduced, eq_nilR e, e, app_def, ln, line]
      · obtain ⟨z, z1, z2⟩ := ln_last h1
        have hne : ¬ (z : Int) = (un p l : Nat) := fun q => h2 (by rw [z1]; congr 1; exact_mod_cast q)
        simp only [ln_length] at z2
        have hh : s.length < line := by unfold line; omega
        have la : ln s ++ [.int (l : Nat)] = ln (s ++ [l]) := by simp [ln]
        have hE : s.isEmpty = false := by simpa using h1
        simp [lpB, b__law_reduced, hE, eq_nilR e, h1, it_refU, e, z2, und, hne, app_def, hh, la]
theorem join_loop {p : Int} (hp : IsP p) {m : Nat} (hm : 4 ≤ m) {k : Nat} {y1 wd : MV.D} : ∀ (w s : List Nat) (x : Option MV.D) (H : HH), Lw p w → s.length + w.length < 10000 → H[k]? = some (.lst (ln s)) →
    ∃ x', loopL (lf P (callN P m) (.t_n 4) (lpB b_joined)) (ln w) [some (.int p), some y1, some wd, some (.ref k), x] H = .nx [some (.int p), some y1, some wd, some (.ref k), x'] (H.set k (.lst (ln (w.foldl (push p) s))))
  | [], s, x, H, _, _, e => ⟨x, by
    have es : H.set k (.lst (ln s)) = H := by
      rw [← Option.some.inj ((List.getElem?_eq_getElem (List.getElem?_eq_some_iff.mp e).1).symm.trans e)]
      exact List.set_getElem_self _
    show RS.nx _ _ = RS.nx _ _
    rw [List.foldl_nil, es]⟩
  | l :: w, s, x, H, hw, hl, e => by
    have hl1 : l < nl p := hw l (List.mem_cons_self ..)
    have hw1 : Lw p w := fun x hx => hw x (List.mem_cons_of_mem _ hx)
    have e1 : ∀ o, (H.set k o)[k]? = some o := fun o => get_set e
    rw [List.length_cons] at hl
    obtain ⟨x', ih⟩ := join_loop hp hm (y1 := y1) (wd := wd) w (push p s l) (some (.int (l : Nat))) (H.set k (.lst (ln (push p s l)))) hw1 (by have := push_len (p := p) (s := s) (l := l); omega) (e1 _)
    refine ⟨x', ?_⟩
    rw [List.set_set] at ih
    rw [List.foldl_cons, ← ih]
    show loopL _ (.int (l : Nat) :: ln w) _ _ = _
    rw [loopL_cons]
    have step : ∀ {r : RS} {f g : Env → HH → RS} {ρ : Env} {h : HH}, r = .nx ρ h → f = g → r.tn f = g ρ h := fun h1 h2 => by rw [h1, h2]; rfl
    refine step ?_ rfl
    have und : ∀ H, callN P m i_undone_letter [.int p, .int (l : Nat)] H = .ok (.val (.int (un p l))) H := fun H => (und_ans hp l hl1).call rfl hm
    unfold push
    rcases turn_red (p := p) (s := s) (l := l) with ⟨h1, h2⟩ | h2
    · obtain ⟨z, z1, z2⟩ := ln_last h1
      rw [h2] at z1
      cases z1
      have hlen : (ln s)[(ln s).length - 1]? = some (.int ((un p l : Nat) : Int)) := by
        rw [ixAt_last (by simpa using List.length_pos_iff.mpr h1)] at z2
        exact z2
      simp only [ln_length] at z2 hlen
      have hE : s.isEmpty = false := by simpa using h1
      simp [lpB, b_joined, hE, eq_nilR e, h1, h2, it_refU, e, z2, und, pop_def, hlen, ln_dl]
    · rw [if_neg h2]
      by_cases h1 : s = []
      · subst h1
        simp [lpB, b_joined, eq_nilR e, e, app_def, ln, line]
      · obtain ⟨z, z1, z2⟩ := ln_last h1
        have hne : ¬ (z : Int) = (un p l : Nat) := fun q => h2 (by rw [z1]; congr 1; exact_mod_cast q)
        simp only [ln_length] at z2
        have hh : s.length < line := by unfold line; omega
        have la : ln s ++ [.int (l : Nat)] = ln (s ++ [l]) := by simp [ln]
        have hE : s.isEmpty = false := by simpa using h1
        simp [lpB, b_joined, hE, eq_nilR e, h1, it_refU, e, z2, und, hne, app_def, hh, la]
theorem joined_ans {p : Int} (hp : IsP p) {w : List Nat} (hw : Lw p w) (hl : w.length < 10000) {x : MV.D} (hx : x = .tup (ln w) ∨ x = .lst (ln w) ∨ x = .bor (ln w)) : Ans P 4 i_joined [.int p, .tup [], x] (.val (.tup (ln (red p w)))) := by
  obtain ⟨x', e⟩ := join_loop hp (m := 4) (Nat.le_refl _) (y1 := .tup []) (wd := x) (k := 0) w [] none [.lst []] hw (by simpa using hl) rfl
  have fl : D.flat (.tup (ln (red p w))) = true := by
    simp only [D.flat]
    exact flats_ln _
  refine ans_of fn_joined rfl rfl (d := .tup (ln (red p w))) (h1 := [.lst (ln (red p w))]) ?_ (by unfold takeOut; simp [fl])
  simp only [lpB, b_joined] at e
  rcases hx with rfl | rfl | rfl <;> simp [F_joined, b_joined, startE, listD, e, tupleU, red]
theorem lred_call {p : Int} (hp : IsP p) {w : List Nat} (hw : Lw p w) (hl : w.length < 10000) {k a b : Nat} (hk : 4 ≤ k) (h : HH) : callN P k i__law_reduced [hall p a b, .lst (ln w)] h = .ok (.val (.tup (ln (red p w)))) (h ++ [.lst (ln (red p w))]) := by
  refine callN_mono hk ?_ (by intro z; cases z)
  obtain ⟨x', e⟩ := lred_loop hp (m := 3) (Nat.le_refl _) (a := a) (b := b) (wd := .lst (ln w)) (k := h.length) w [] none (h ++ [.lst []]) hw (by simpa using hl) (by simp [ln])
  refine callN_sh fn__law_reduced rfl (body_rt rfl ?_)
  simp only [lpB, b__law_reduced] at e
  simp [F__law_reduced, b__law_reduced, startE, e, tupleU, red]

end MV.X

set_option maxRecDepth 100000
set_option maxHeartbeats 4000000
namespace MV.X
open MV
open PySem (Str Operator)
/-! poses -/
def pose (p : Int) (w : List Nat) (q : Nat) : MV.D := .obj 0 [n_own_prime, n_own_letters, n_own_quarter] [.int p, .tup (ln w), .int q]
theorem wdp {p : Int} (hp : IsP p) (h : HH) : itemD P.wd (.wd w_LETTERS) (.int p) h = some (.wtup ((LT p).map Sp.W)) := by
  rcases hp with rfl | rfl | rfl | rfl <;> kernel_rfl
theorem init_loop {p : Int} (hp : IsP p) {o : Orc} {x0 x2 x3 : Option MV.D} : ∀ (w : List Nat) (x : Option MV.D) (H : HH), Lw p w →
    ∃ x', loopL (lf P o (.t_n 4) (lpB b_Pose___init__)) (ln w) [x0, some (.int p), x2, x3, x] H = .nx [x0, some (.int p), x2, x3, x'] H
  | [], x, H, _ => ⟨x, rfl⟩
  | l :: w, x, H, hw => by
    have hl1 : l < nl p := hw l (List.mem_cons_self ..)
    obtain ⟨x', ih⟩ := init_loop hp (o := o) (x0 := x0) (x2 := x2) (x3 := x3) w (some (.int (l : Nat))) H (fun x hx => hw x (List.mem_cons_of_mem _ hx))
    refine ⟨x', ?_⟩
    rw [← ih]
    show loopL _ (.int (l : Nat) :: ln w) _ _ = _
    rw [loopL_cons]
    have h0 : (0 : Int) ≤ (l : Nat) := Int.natCast_nonneg l
    have h1 : (l : Nat) < (LT p).length := hl1
    simp [lpB, b_Pose___init__, wdp hp, h1]
/-- the heap behind the stores -/
theorem pose_call {p : Int} (hp : IsP p) {w : List Nat} (hw : Lw p w) (hl : w.length < 10000) {q : Nat} (hq : q < 24) {x : MV.D} (hx : x = .tup (ln w) ∨ x = .lst (ln w)) {k : Nat} (hk : 6 ≤ k) (h : HH) : callN P k i_Pose___init__ [.int p, x, .int q] h = .ok (.val (pose p (red p w) q)) h := by
  refine callN_mono hk ?_ (by intro z; cases z)
  rw [callN_s fn_Pose___init__]
  show makeRun P (callN P 5) 0 F_Pose___init__ [.int p, x, .int q] h = _
  have fx2 : ∀ H, lend H x = some x := fun H => by
    rcases hx with rfl | rfl
    · exact lend_tup (flats_ln w)
    · exact lend_lst (flats_ln w)
  have le : lends h [.int p, x, .int (q : Nat)] = some [.int p, x, .int (q : Nat)] := lends3 rfl (fx2 h) rfl
  unfold makeRun
  rw [le]
  dsimp only
  obtain ⟨x', e⟩ := init_loop hp (o := callN P 5) (x0 := some (.ref 0)) (x2 := some x) (x3 := some (.int (q : Nat))) w none [.ins 0 [] []] hw
  have c1 : ∀ H, callN P 5 i_check_prime [.int p] H = .ok (.val .non) H := fun H => (cp_ans hp).call rfl (by decide)
  have c2 : ∀ H, callN P 5 i_check_quarter [.int (q : Nat)] H = .ok (.val .non) H := fun H => (cq_ans q hq).call rfl (by decide)
  have c3 : ∀ H, lend H x = some x → callN P 5 i_joined [.int p, .tup [], x] H = .ok (.val (.tup (ln (red p w)))) H := fun H hh => (joined_ans hp hw hl (by rcases hx with z | z <;> simp [z])).call (lends3 rfl rfl hh) (by decide)
  have b : body P (callN P 5) F_Pose___init__ [.ref 0, .int p, x, .int (q : Nat)] [.ins 0 [] []] = .ok .non [.ins 0 [n_own_prime, n_own_letters, n_own_quarter] [.int p, .tup (ln (red p w)), .int q]] := by
    refine body_nx (ρ := [some (.ref 0), some (.int p), some x, some (.int q), x']) rfl ?_
    have sf1 : setF P.fld (.ref 0) n_own_prime (.int p) [.ins 0 [] []] = some [.ins 0 [n_own_prime] [.int p]] := (rfl)
    have sf2 : ∀ d, setF P.fld (.ref 0) n_own_letters d [.ins 0 [n_own_prime] [.int p]] = some [.ins 0 [n_own_prime, n_own_letters] [.int p, d]] := fun _ => rfl
    have sf3 : ∀ d e, setF P.fld (.ref 0) n_own_quarter e [.ins 0 [n_own_prime, n_own_letters] [.int p, d]] = some [.ins 0 [n_own_prime, n_own_letters, n_own_quarter] [.int p, d, e]] := fun _ _ => rfl
    simp only [lpB, b_Pose___init__] at e
    rcases hx with rfl | rfl <;> simp [b_Pose___init__, startE, c1, c2, c3, fx2, e, sf1, sf2, sf3]
  rw [b]
  dsimp only
  unfold made
  dsimp only
  have fl : D.flats [.int p, .tup (ln (red p w)), .int (q : Nat)] = true := by
    simp [D.flats, D.flat, flats_ln]
  rw [if_pos fl]
  rfl

end MV.X

set_option maxRecDepth 100000
set_option maxHeartbeats 4000000
namespace MV.X
open MV
open PySem (Str Operator)
/-! matrices of words, by both -/
theorem hall_0 {W : Wds} {p : Int} {a b : Nat} {h : HH} : itemD W (hall p a b) (.int 0) h = some (.int p) := (rfl)
theorem hall_1 {W : Wds} {p : Int} {a b : Nat} {h : HH} : itemD W (hall p a b) (.int 1) h = some (.lst ((LT p).map Sp.D)) := (rfl)
theorem hall_2 {W : Wds} {p : Int} {a b : Nat} {h : HH} : itemD W (hall p a b) (.int 2) h = some (.lst (QT.map Mat.D)) := (rfl)
theorem hall_3 {W : Wds} {p : Int} {a b : Nat} {h : HH} : itemD W (hall p a b) (.int 3) h = some (.ref a) := (rfl)
theorem hall_4 {W : Wds} {p : Int} {a b : Nat} {h : HH} : itemD W (hall p a b) (.int 4) h = some (.ref b) := (rfl)
theorem lt_at {W : Wds} {p : Int} {l : Nat} {h : HH} (hl : l < nl p) : itemD W (.lst ((LT p).map Sp.D)) (.int (l : Nat)) h = some (lt p l).D := by
  rw [it_lst, ixAt_nat (by rw [List.length_map]; exact hl), Option.bind_some, List.getElem?_map]
  unfold lt
  rw [List.getD_eq_getElem?_getD, List.getElem?_eq_getElem hl]
  rfl
theorem lt_atW {W : Wds} {p : Int} {l : Nat} {h : HH} (hl : l < nl p) : itemD W (.wtup ((LT p).map Sp.W)) (.int (l : Nat)) h = some (lt p l).W := by
  rw [it_wtup, ixAt_nat (by rw [List.length_map]; exact hl), Option.bind_some, List.getElem?_map]
  unfold lt
  rw [List.getD_eq_getElem?_getD, List.getElem?_eq_getElem hl]
  rfl
theorem qt_at {W : Wds} {q : Nat} {h : HH} (hl : q < 24) : itemD W (.lst (QT.map Mat.D)) (.int (q : Nat)) h = some (qt q).D := by
  have hl : q < QT.length := hl
  rw [it_lst, ixAt_nat (by simpa using hl), Option.bind_some, List.getElem?_map]
  unfold qt
  rw [List.getD_eq_getElem?_getD, List.getElem?_eq_getElem hl]
  rfl
theorem qt23 {W : Wds} {h : HH} : itemD W (.lst (QT.map Mat.D)) (.int 23) h = some Mat.one.D := (rfl)
def spB3 (s : Sp) : Bool := decide (s.a.natAbs < 8) && (decide (s.b.natAbs < 8) && (decide (s.c.natAbs < 8) && decide (s.d.natAbs < 8)))
theorem spB3_ok {s : Sp} (h : spB3 s = true) : s.Bd 3 := by
  unfold spB3 at h
  simp only [Bool.and_eq_true, decide_eq_true_eq] at h
  exact h
theorem all_at {α : Type} {f : α → Bool} {l : List α} (h : l.all f = true) (d : α) (hd : f d = true) (i : Nat) : f (l.getD i d) = true := by
  rw [List.getD_eq_getElem?_getD]
  cases e : l[i]? with
  | none => exact hd
  | some x => exact List.all_eq_true.mp h x (List.mem_of_getElem? e)
theorem lt_bd {p : Int} (hp : IsP p) (l : Nat) : (lt p l).Bd 3 := by
  refine spB3_ok (all_at ?_ _ (by decide) l)
  rcases hp with rfl | rfl | rfl | rfl <;> kernel_rfl
def matB (m : Mat) : Bool := [m.a, m.b, m.c, m.d, m.e, m.f, m.g, m.h, m.i].all fun x => decide (x.natAbs < 4)
theorem matB_ok {m : Mat} (h : matB m = true) : m.Bd 2 := by
  unfold matB at h
  simp only [List.all_cons, List.all_nil, Bool.and_true, Bool.and_eq_true, decide_eq_true_eq] at h
  exact h
theorem qt_bd (q : Nat) : (qt q).Bd 2 := matB_ok (all_at (by kernel_rfl) _ (by decide) q)
theorem one_bd : Mat.one.Bd 2 := matB_ok (by decide)
/-- the matrix of a word -/
def wmf (p : Int) (m : Mat) (w : List Nat) : Mat := w.foldl (fun m l => m.mul (lt p l).tab) m
def wm (p : Int) (w : List Nat) : Mat := wmf p Mat.one w
theorem wmf_bd {p : Int} (hp : IsP p) : ∀ {w : List Nat} {m : Mat} {k : Nat}, m.Bd k → (wmf p m w).Bd (k + 11 * w.length)
  | [], m, k, h => h
  | l :: w, m, k, h => by
    have q := wmf_bd hp (w := w) (h.mul (lt_bd hp l).tab)
    rw [List.length_cons]
    exact q.le (by omega)
theorem lrows_loop {p : Int} (hp : IsP p) {n : Nat} (hn : 1 ≤ n) {a b : Nat} {y1 : MV.D} {h : HH} : ∀ (w : List Nat) (m : Mat) (x : Option MV.D) (k : Nat), Lw p w → m.Bd k → k + 11 * w.length ≤ 3900 →
    ∃ x', loopL (lf P (callN P n) (.t_n 3) (lpB b__law_rows)) (ln w) [some (hall p a b), some y1, some m.D, x] h = .nx [some (hall p a b), some y1, some (wmf p m w).D, x'] h
  | [], m, x, k, _, _, _ => ⟨x, rfl⟩
  | l :: w, m, x, k, hw, hm, hk => by
    have hl1 : l < nl p := hw l (List.mem_cons_self ..)
    rw [List.length_cons] at hk
    obtain ⟨x', ih⟩ := lrows_loop hp hn (a := a) (b := b) (y1 := y1) (h := h) w (m.mul (lt p l).tab) (some (.int (l : Nat))) (k + 11) (fun x hx => hw x (List.mem_cons_of_mem _ hx)) ((hm.mul (lt_bd hp l).tab).le (by omega)) (by omega)
    refine ⟨x', ?_⟩
    rw [show wmf p m (l :: w) = wmf p (m.mul (lt p l).tab) w from rfl, ← ih]
    show loopL _ (.int (l : Nat) :: ln w) _ _ = _
    rw [loopL_cons]
    have t1 : ∀ H, callN P n i__law_table [(lt p l).D] H = .ok (.newl (lt p l).tab.rows) H := fun H => ltable_call (lt_bd hp l) (by decide) hn
    have t2 : ∀ H, callN P n i__law_mult [.lst m.rows, .lst (lt p l).tab.rows] H = .ok (.newl (m.mul (lt p l).tab).rows) H := fun H => mult_call (hm.le (by omega)) ((lt_bd hp l).tab.le (by decide)) hn
    simp [lpB, b__law_rows, hall_1, ↓lt_at hl1, t1, t2, Mat.D_rows]
def mdl (w : List Nat) (q : Nat) : MV.D := .tup [.tup (ln w), .int q]
theorem lrows_call {p : Int} (hp : IsP p) {w : List Nat} (hw : Lw p w) (hl : w.length ≤ 300) {q : Nat} (hq : q < 24) {a b n : Nat} (hn : 2 ≤ n) (h : HH) : callN P n i__law_rows [hall p a b, mdl w q] h = .ok (.val ((wm p w).mul (qt q)).D) h := by
  refine callN_mono hn ?_ (by intro z; cases z)
  obtain ⟨x', e⟩ := lrows_loop hp (n := 1) (Nat.le_refl _) (a := a) (b := b) (y1 := mdl w q) (h := h) w Mat.one none 2 hw one_bd (by omega)
  refine callN_sh fn__law_rows rfl (body_rt rfl ?_)
  have t2 : ∀ H, callN P 1 i__law_mult [.lst (wmf p Mat.one w).rows, .lst (qt q).rows] H = .ok (.newl ((wmf p Mat.one w).mul (qt q)).rows) H := fun H => mult_call ((wmf_bd hp one_bd).le (by omega)) ((qt_bd q).le (by decide)) (Nat.le_refl _)
  simp only [lpB, b__law_rows, Mat.D_rows] at e
  have m0 : ∀ H, itemD P.wd (mdl w q) (.int 0) H = some (.tup (ln w)) := fun _ => rfl
  have m1 : ∀ H, itemD P.wd (mdl w q) (.int 1) H = some (.int (q : Nat)) := fun _ => rfl
  simp [F__law_rows, b__law_rows, startE, hall_2, ↓qt23, m0, m1, Mat.D_rows, e, ↓qt_at hq, t2, wm]
theorem xf (m : Mat) : m.X false = .lst m.rows := (rfl)
theorem pj {p : Int} {w : List Nat} {q : Nat} {h : HH} : propJ [] (insOf (pose p w q) h) = none := (rfl)
theorem fd_l {p : Int} {w : List Nat} {q : Nat} {h : HH} : fieldD P.fld n_own_letters (insOf (pose p w q) h) = some (.tup (ln w)) := (rfl)
theorem fd_p {p : Int} {w : List Nat} {q : Nat} {h : HH} : fieldD P.fld n_own_prime (insOf (pose p w q) h) = some (.int p) := (rfl)
theorem fd_q {p : Int} {w : List Nat} {q : Nat} {h : HH} : fieldD P.fld n_own_quarter (insOf (pose p w q) h) = some (.int q) := (rfl)
theorem pose_lend (p : Int) (w : List Nat) (q : Nat) (h : HH) : lend h (pose p w q) = some (pose p w q) := lend_obj (by simp [D.flats, D.flat, flats_ln])
theorem pose_lends (p : Int) (w : List Nat) (q : Nat) (h : HH) : lends h [pose p w q] = some [pose p w q] := lends1 (pose_lend p w q h)
theorem mat_loop {p : Int} (hp : IsP p) {n : Nat} (hn : 1 ≤ n) {q0 : Nat} {w0 : List Nat} {h : HH} : ∀ (w : List Nat) (m : Mat) (s : Bool) (x : Option MV.D) (k : Nat), Lw p w → m.Bd k → k + 11 * w.length ≤ 3900 →
    ∃ x' s', loopL (lf P (callN P n) (.t_n 2) (lpB b_Pose_matrix)) (ln w) [some (pose p w0 q0), some (m.X s), x] h = .nx [some (pose p w0 q0), some ((wmf p m w).X s'), x'] h
  | [], m, s, x, k, _, _, _ => ⟨x, s, rfl⟩
  | l :: w, m, s, x, k, hw, hm, hk => by
    have hl1 : l < nl p := hw l (List.mem_cons_self ..)
    rw [List.length_cons] at hk
    obtain ⟨x', s', ih⟩ := mat_loop hp hn (q0 := q0) (w0 := w0) (h := h) w (m.mul (lt p l).tab) false (some (.int (l : Nat))) (k + 11) (fun x hx => hw x (List.mem_cons_of_mem _ hx)) ((hm.mul (lt_bd hp l).tab).le (by omega)) (by omega)
    refine ⟨x', s', ?_⟩
    rw [show wmf p m (l :: w) = wmf p (m.mul (lt p l).tab) w from rfl, ← ih]
    show loopL _ (.int (l : Nat) :: ln w) _ _ = _
    rw [loopL_cons]
    have t1 : ∀ H, callN P n i_table_of [(lt p l).W] H = .ok (.newl (lt p l).tab.rows) H := fun H => table_callW (lt_bd hp l) (by decide) hn
    have t2 : ∀ H, callN P n i_product_rows [m.X s, .lst (lt p l).tab.rows] H = .ok (.newl (m.mul (lt p l).tab).rows) H := fun H => prod_call (t := false) (hm.le (by omega)) ((lt_bd hp l).tab.le (by decide)) hn
    simp [lpB, b_Pose_matrix, ↓wdp hp, ↓lt_atW hl1, t1, t2, pj, fd_p, xf]
theorem mat_call {p : Int} (hp : IsP p) {w : List Nat} (hw : Lw p w) (hl : w.length ≤ 300) {q : Nat} (hq : q < 24) {n : Nat} (hn : 8 ≤ n) (h : HH) : callN P n i_Pose_matrix [pose p w q] h = .ok (.newl ((wm p w).mul (qt q)).rows) h := by
  refine Ans.call (k := 7) ?_ (pose_lends p w q h) hn
  obtain ⟨x', s', e⟩ := mat_loop hp (n := 7) (by decide) (q0 := q) (w0 := w) (h := []) w Mat.one true none 2 hw one_bd (by omega)
  refine ans_of fn_Pose_matrix rfl rfl (d := .ref 0) (h1 := [.lst ((wm p w).mul (qt q)).rows]) ?_ rfl
  have t0 : ∀ H, callN P 7 i_quarter_rows [.int 23] H = .ok (.newl Mat.one.rowsW) H := fun H => (qrows_ans 23 (by decide)).call rfl (by decide)
  have t1 : ∀ H, callN P 7 i_quarter_rows [.int (q : Nat)] H = .ok (.newl (qt q).rowsW) H := fun H => (qrows_ans q hq).call rfl (by decide)
  have t2 : ∀ H, callN P 7 i_product_rows [(wmf p Mat.one w).X s', .lst (qt q).rowsW] H = .ok (.newl ((wmf p Mat.one w).mul (qt q)).rows) H := fun H => prod_call (t := true) ((wmf_bd hp one_bd).le (by omega)) ((qt_bd q).le (by decide)) (by decide)
  have eo : MV.D.lst Mat.one.rowsW = Mat.one.X true := (rfl)
  simp only [lpB, b_Pose_matrix] at e
  simp [F_Pose_matrix, b_Pose_matrix, startE, d_STILL, t0, t1, pj, fd_l, fd_q, eo, e, t2, wm]

end MV.X

set_option maxRecDepth 100000
set_option maxHeartbeats 4000000
namespace MV.X
open MV
open PySem (Str Operator)
/-! what is drawn -/
/-- but for the bag at n the heap has only grown -/
def Ch (n : Nat) (h h' : HH) : Prop := h.length ≤ h'.length ∧ ∀ i, i ≠ n → i < h.length → h'[i]? = h[i]?
theorem Ch.refl (n : Nat) (h : HH) : Ch n h h := ⟨Nat.le_refl _, fun _ _ _ => rfl⟩
theorem Ch.trans {n : Nat} {h1 h2 h3 : HH} (a : Ch n h1 h2) (b : Ch n h2 h3) : Ch n h1 h3 := ⟨Nat.le_trans a.1 b.1, fun i hi hl => (b.2 i hi (Nat.lt_of_lt_of_le hl a.1)).trans (a.2 i hi hl)⟩
theorem Ch.set (n : Nat) (h : HH) (o : O) : Ch n h (h.set n o) := ⟨by simp, fun i hi _ => List.getElem?_set_ne (Ne.symm hi)⟩
theorem Ch.app (n : Nat) (h k : HH) : Ch n h (h ++ k) := ⟨by simp, fun i _ hl => List.getElem?_append_left hl⟩
theorem BagAt.app {h : HH} {n c : Nat} (b : BagAt h n c) (k : HH) : BagAt (h ++ k) n c := by
  obtain ⟨cells, i, big, salt, cnt, e, r⟩ := b
  exact ⟨cells, i, big, salt, cnt, by rw [List.getElem?_append_left (List.getElem?_eq_some_iff.mp e).1]; exact e, r⟩
theorem BagAt.le {h : HH} {n c d : Nat} (b : BagAt h n c) (l : c ≤ d) : BagAt h n d := by
  obtain ⟨cells, i, big, salt, cnt, e, h1, h2, h3, h4, h5, h6⟩ := b
  exact ⟨cells, i, big, salt, cnt, e, h1, h2, h3, h4, h5, by omega⟩
theorem BagAt.lt {h : HH} {n c : Nat} (b : BagAt h n c) : n < h.length := by
  obtain ⟨cells, i, big, salt, cnt, e, r⟩ := b
  exact (List.getElem?_eq_some_iff.mp e).1
theorem pull_c {m : Nat} {h : HH} {n c : Nat} {k : Nat} (b : BagAt h n c) (hm : 1 ≤ m) (hk : 0 < k) (hk2 : k < 2 ^ 62) (hc : c < 2 ^ 62) : ∃ (r : Nat) (h' : HH), callN P m i__law_pull [.ref n, .int (k : Nat)] h = .ok (.val (.int (r : Nat))) h' ∧ r < k ∧ BagAt h' n (c + 1) ∧ Ch n h h' ∧ h'.length = h.length := by
  obtain ⟨m, rfl⟩ : ∃ q, m = q + 1 := ⟨m - 1, by omega⟩
  obtain ⟨r, bo, e, h1, h2, h3⟩ := pull_ok (m := m) (k := (k : Int)) b (by omega) (by exact_mod_cast hk2) hc
  refine ⟨r.toNat, _, ?_, by omega, h3, .set n h bo, by simp⟩
  rw [e, Int.toNat_of_nonneg h1]
theorem cut63 {l : List MV.D} (h : l.length ≤ 63) : cutL l none (some 63) = l := by
  show (l.drop 0).take (min (63 : Int).toNat l.length - 0) = l
  rw [List.drop_zero, Nat.sub_zero]
  exact List.take_of_length_le (by show l.length ≤ min 63 l.length; omega)
theorem bag_loop {o : Orc} {x0 : Option MV.D} {H : HH} : ∀ (w : List Int) (salt : Int) (x : Option MV.D), 0 ≤ salt → salt < 2147483647 →
    ∃ x' s', loopL (lf P o (.t_n 2) (lpB b__law_bag)) (w.map D.int) [x0, some (.int salt), x] H = .nx [x0, some (.int s'), x'] H ∧ 0 ≤ s' ∧ s' < 2147483647
  | [], salt, x, h1, h2 => ⟨x, salt, rfl, h1, h2⟩
  | i :: w, salt, x, h1, h2 => by
    obtain ⟨x', s', ih, r⟩ := bag_loop (o := o) (x0 := x0) (H := H) w ((salt * 44021 + i.fmod 2147483549 + 31).fmod 2147483647) (some (.int i)) (fm_lo _ (by decide)) (fm_hi _ (by decide))
    refine ⟨x', s', ?_, r⟩
    rw [← ih, List.map_cons, loopL_cons]
    have mo : mulOk salt 44021 = true := Bd.ok (bdi (k := 40) h1 (by omega)) (bdi (k := 40) (by decide) (by decide))
    simp [lpB, b__law_bag, mo]
theorem flats_int : ∀ w : List Int, D.flats (w.map D.int) = true
  | [] => rfl
  | i :: w => by
    rw [List.map_cons]
    simp only [D.flats, D.flat, flats_int w, Bool.and_true]
theorem bag_call {k : Nat} (hk : 1 ≤ k) {ns : List Int} (hl : ns.length ≤ 63) (h : HH) : ∃ bo, callN P k i__law_bag [.bor (ns.map D.int)] h = .ok (.newl bo) h ∧ BagAt (h ++ [.lst bo]) h.length 0 := by
  obtain ⟨x', s', e, r1, r2⟩ := bag_loop (o := callN P 0) (x0 := some (.bor (ns.map D.int))) (H := []) ns 3837 none (by decide) (by decide)
  refine ⟨[.lst (ns.map D.int), .int 0, .int 0, .int s', .int 0], ?_, ns, 0, 0, s', 0, by simp [bagO], hl, by decide, r1, r2, by decide, by decide⟩
  refine Ans.call (k := 0) ?_ (lends1 (lend_bor (flats_int ns))) hk
  have hline : (ns.map D.int).length ≤ line := by
    rw [List.length_map]
    unfold line
    omega
  refine ans_of fn__law_bag rfl rfl (d := .ref 0) (h1 := [.lst [.lst (ns.map D.int), .int 0, .int 0, .int s', .int 0]]) ?_ ?_
  · simp only [lpB, b__law_bag] at e
    have s1 : ∀ H, sliceD false (.bor (ns.map D.int)) none (some 63) H = .ok (.lst (ns.map D.int)) H := fun H => by
      show mkL false (cutL _ none (some 63)) H = _
      rw [cut63 (by simpa using hl), mkL_f hline]
    have s2 : ∀ H, listD false [.lst (ns.map D.int)] H = .ok (.lst (ns.map D.int)) H := fun H => (list_seq rfl).trans (mkL_f hline)
    simp [F__law_bag, b__law_bag, startE, partD, E.isNil, s1, s2, e]
  · show (if D.flats _ = true then _ else _) = _
    rw [if_pos (by simp [D.flats, D.flat, flats_int])]
theorem of_call {m : Nat} {h : HH} {n c : Nat} {l : List MV.D} (hm : 2 ≤ m) (b : BagAt h n c) (hl : 0 < l.length) (hl2 : l.length < 2 ^ 62) (hc : c < 2 ^ 62) : ∃ (i : Nat) (d : MV.D) (h' : HH), callN P m i__law_of [.ref n, .lst l] h = .ok (.val d) h' ∧ l[i]? = some d ∧ BagAt h' n (c + 1) ∧ Ch n h h' ∧ h'.length = h.length := by
  obtain ⟨r, h', e, h1, h2, h3, h4⟩ := pull_c (m := 1) b (Nat.le_refl _) hl hl2 hc
  refine ⟨r, l[r], h', callN_mono hm ?_ (by intro z; cases z), List.getElem?_eq_getElem h1, h2, h3, h4⟩
  refine callN_sh fn__law_of rfl (body_rt rfl ?_)
  simp [F__law_of, b__law_of, startE, e, ixAt_nat h1, List.getElem?_eq_getElem h1]
theorem prime_call {m : Nat} {h : HH} {n c : Nat} (hm : 3 ≤ m) (b : BagAt h n c) (hc : c < 2 ^ 62) : ∃ (p : Int) (h' : HH), callN P m i__law_prime [.ref n] h = .ok (.val (.int p)) h' ∧ IsP p ∧ BagAt h' n (c + 1) ∧ Ch n h h' ∧ h'.length = h.length := by
  obtain ⟨i, d, h', e, e1, r⟩ := of_call (m := 2) (l := [.int 5, .int 5, .int 5, .int 13, .int 17, .int 29]) (Nat.le_refl _) b (by decide) (by decide) hc
  have hp : ∃ p, d = .int p ∧ IsP p := by
    match i, e1 with
    | 0, e1 | 1, e1 | 2, e1 => exact ⟨5, (Option.some.inj e1).symm, .inl rfl⟩
    | 3, e1 => exact ⟨13, (Option.some.inj e1).symm, .inr (.inl rfl)⟩
    | 4, e1 => exact ⟨17, (Option.some.inj e1).symm, .inr (.inr (.inl rfl))⟩
    | 5, e1 => exact ⟨29, (Option.some.inj e1).symm, .inr (.inr (.inr rfl))⟩
    | i + 6, e1 => simp at e1
  obtain ⟨p, rfl, hp⟩ := hp
  refine ⟨p, h', callN_mono hm ?_ (by intro z; cases z), hp, r⟩
  refine callN_sh fn__law_prime rfl (body_rt rfl ?_)
  simp [F__law_prime, b__law_prime, startE, e]
theorem hall_call {p : Int} (hp : IsP p) {k : Nat} (hk : 5 ≤ k) (h : HH) : callN P k i__law_hall [.int p] h = .ok (.val (hall p h.length (h.length + 1))) (h ++ [.dct [] []] ++ [.dct [] []]) := by
  refine callN_mono hk ?_ (by intro z; cases z)
  have t1 : ∀ H, callN P 4 i__law_letters [.int p] H = .ok (.val (.lst ((LT p).map Sp.D))) H := fun H => (letters_ans hp).call rfl (Nat.le_refl _)
  have t2 : ∀ H, callN P 4 i__law_quarters [] H = .ok (.newl (QT.map Mat.D)) H := fun H => quarters_ans.call rfl (Nat.le_refl _)
  refine callN_sh fn__law_hall rfl (body_rt rfl ?_)
  simp [F__law_hall, b__law_hall, startE, t1, t2, hall]

end MV.X

set_option maxRecDepth 100000
set_option maxHeartbeats 4000000
namespace MV.X
open MV
open PySem (Str Operator)
/-! models that are drawn -/
theorem small_nat {k : Nat} (h : k < 2 ^ 62) : smallI (k : Int) = true := by
  unfold smallI
  simp
  omega
theorem range_len (k : Nat) : (rangeL 0 (k : Int)).length = k := by
  unfold rangeL
  simp
def cmpE : S → E
  | .seq (.asg _ e) _ => e
  | _ => .nil
def elE : E → E
  | .comp _ _ _ _ _ el => el
  | e => e
theorem drawn_comp {p : Int} (hp : IsP p) {m : Nat} (hm : 1 ≤ m) {n a b : Nat} {x2 x3 x4 x5 : Option MV.D} : ∀ (L : List MV.D) (h : HH) (c : Nat), BagAt h n c → c + L.length < 2 ^ 60 →
    ∃ w h', compL (cf P (callN P m) (.t_n 5) .nil (elE (cmpE b__law_drawn)) [some (.ref n), some (hall p a b), x2, x3, x4, x5]) L h = .ok (ln w) h' ∧ w.length = L.length ∧ Lw p w ∧ BagAt h' n (c + L.length) ∧ Ch n h h' ∧ h'.length = h.length
  | [], h, c, bg, _ => ⟨[], h, rfl, rfl, (fun x hx => by cases hx), bg, .refl n h, rfl⟩
  | x :: L, h, c, bg, hc => by
    rw [List.length_cons] at hc
    have np : 0 < (LT p).length := by rcases hp with rfl | rfl | rfl | rfl <;> decide
    have np2 : (LT p).length < 2 ^ 62 := by rcases hp with rfl | rfl | rfl | rfl <;> decide
    obtain ⟨r, h1, e1, r1, bg1, ch1, hl1⟩ := pull_c (m := m) (k := (LT p).length) bg hm np np2 (by omega)
    obtain ⟨w, h2, e2, w1, w2, bg2, ch2, hl2⟩ := drawn_comp hp hm (a := a) (b := b) (x2 := x2) (x3 := x3) (x4 := x4) (x5 := x5) L h1 (c + 1) bg1 (by omega)
    refine ⟨r :: w, h2, ?_, by simp [w1], fun y hy => ?_, ?_, ch1.trans ch2, hl2.trans hl1⟩
    · rw [compL_cons]
      have eL : ln (r :: w) = .int (r : Nat) :: ln w := (rfl)
      simp only [elE, cmpE, b__law_drawn] at e2
      simp [elE, cmpE, b__law_drawn, hall_1, e1, e2, eL]
    · rcases List.mem_cons.mp hy with z | z
      · rw [z]
        exact r1
      · exact w2 y z
    · rw [List.length_cons, show c + (L.length + 1) = c + 1 + L.length by omega]
      exact bg2
theorem drawn_call {p : Int} (hp : IsP p) {most : Nat} (hmost : most < 1000) {m : Nat} (hm : 5 ≤ m) {n a b c : Nat} {h : HH} (bg : BagAt h n c) (hc : c < 2 ^ 59) :
    ∃ (w : List Nat) (q : Nat) (h' : HH), callN P m i__law_drawn [.ref n, hall p a b, .int (most : Nat)] h = .ok (.val (mdl w q)) h' ∧ Lw p w ∧ Rdc p w ∧ w.length ≤ most ∧ q < 24 ∧ BagAt h' n (c + most + 3) ∧ Ch n h h' := by
  obtain ⟨r, h1, e1, r1, bg1, ch1, hl1⟩ := pull_c (m := 4) (k := most + 1) bg (by decide) (by omega) (by omega) (by omega)
  obtain ⟨w, h2, e2, w1, w2, bg2, ch2, hl2⟩ := drawn_comp hp (m := 4) (by decide) (n := n) (a := a) (b := b) (x2 := some (.int (most : Nat))) (x3 := none) (x4 := none) (x5 := none) (rangeL 0 (r : Nat)) h1 (c + 1) bg1 (by rw [range_len]; omega)
  rw [range_len] at w1 bg2
  have q1 : ((most + 1 : Nat) : Int) = (most : Int) + 1 := by omega
  have q2 : ((2 : Nat) : Int) = 2 := by omega
  have q24 : ((24 : Nat) : Int) = 24 := by omega
  rw [q1] at e1
  obtain ⟨r3, h3, e3, r31, bg3, ch3, hl3⟩ := pull_c (m := 4) (k := 2) bg2 (by decide) (by omega) (by omega) (by omega)
  rw [q2] at e3
  have mlen : ∀ (H : HH), mkL false (ln w) H = .ok (.lst (ln w)) H := fun H => mkL_f (by rw [ln_length]; unfold line; omega)
  simp only [elE, cmpE, b__law_drawn] at e2
  by_cases hz : r3 = 0
  · subst hz
    have t4 := lred_call hp w2 (by omega) (k := 4) (a := a) (b := b) (Nat.le_refl _) h3
    refine ⟨red p w, 23, h3 ++ [.lst (ln (red p w))], callN_mono hm ?_ (by intro z; cases z), red_lw w2, red_rdc p w, Nat.le_trans (red_len p w) (by omega), by decide, (bg3.le (by omega)).app _, ((ch1.trans ch2).trans ch3).trans (.app n h3 _)⟩
    refine callN_sh fn__law_drawn rfl (body_rt rfl ?_)
    simp [F__law_drawn, b__law_drawn, startE, e1, small_nat (show r < 2 ^ 62 by omega), e2, mlen, e3, t4, mdl]
  · obtain ⟨r4, h4, e4, r41, bg4, ch4, hl4⟩ := pull_c (m := 4) (k := 24) bg3 (by decide) (by omega) (by omega) (by omega)
    rw [q24] at e4
    have t4 := lred_call hp w2 (by omega) (k := 4) (a := a) (b := b) (Nat.le_refl _) h4
    refine ⟨red p w, r4, h4 ++ [.lst (ln (red p w))], callN_mono hm ?_ (by intro z; cases z), red_lw w2, red_rdc p w, Nat.le_trans (red_len p w) (by omega), r41, (bg4.le (by omega)).app _, (((ch1.trans ch2).trans ch3).trans ch4).trans (.app n h4 _)⟩
    refine callN_sh fn__law_drawn rfl (body_rt rfl ?_)
    have hz2 : ¬ (r3 : Int) = 0 := by omega
    simp [F__law_drawn, b__law_drawn, startE, e1, small_nat (show r < 2 ^ 62 by omega), e2, mlen, e3, hz, hz2, e4, t4, mdl]
theorem made_call {p : Int} (hp : IsP p) {w : List Nat} (hw : Lw p w) (hr : Rdc p w) (hl : w.length < 10000) {q : Nat} (hq : q < 24) {k : Nat} (hk : 7 ≤ k) {a b : Nat} (h : HH) : callN P k i__law_made [hall p a b, mdl w q] h = .ok (.val (pose p w q)) h := by
  refine callN_mono hk ?_ (by intro z; cases z)
  have t := fun H => pose_call hp hw hl hq (x := .tup (ln w)) (.inl rfl) (k := 6) (Nat.le_refl _) H
  rw [red_id hr] at t
  refine callN_sh fn__law_made rfl (body_rt rfl ?_)
  have m0 : ∀ H, itemD P.wd (mdl w q) (.int 0) H = some (.tup (ln w)) := fun _ => rfl
  have m1 : ∀ H, itemD P.wd (mdl w q) (.int 1) H = some (.int (q : Nat)) := fun _ => rfl
  simp [F__law_made, b__law_made, startE, hall_0, m0, m1, t]

end MV.X

set_option maxRecDepth 100000
set_option maxHeartbeats 4000000
namespace MV.X
open MV
open PySem (Str Operator)
/-! the law's own comparison tells True of equal data -/
mutual
inductive Sim : Nat → MV.D → MV.D → Prop
  | int (n : Nat) (i : Int) : Sim n (.int i) (.int i)
  | bl (n : Nat) (b : Bool) : Sim n (.bl b) (.bl b)
  | non (n : Nat) : Sim n .non .non
  | seq {n : Nat} {x y : MV.D} {xs ys : List MV.D} : ((x = .tup xs ∨ x = .wtup xs) ∧ (y = .tup ys ∨ y = .wtup ys)) ∨ ((x = .lst xs ∨ x = .bor xs) ∧ (y = .lst ys ∨ y = .bor ys)) → SimL n xs ys → xs.length ≤ line → Sim (n + 1) x y
inductive SimL : Nat → List MV.D → List MV.D → Prop
  | nil (n : Nat) : SimL n [] []
  | cons {n : Nat} {x y : MV.D} {xs ys : List MV.D} : x.flat = true → y.flat = true → Sim n x y → SimL n xs ys → SimL n (x :: xs) (y :: ys)
end
theorem SimL.len : ∀ {n : Nat} {xs ys : List MV.D}, SimL n xs ys → xs.length = ys.length
  | _, _, _, .nil _ => rfl
  | _, _, _, .cons _ _ _ t => congrArg Nat.succ t.len
theorem SimL.at : ∀ {n : Nat} {xs ys : List MV.D}, SimL n xs ys → ∀ i, i < xs.length → ∃ x y, xs[i]? = some x ∧ ys[i]? = some y ∧ x.flat = true ∧ y.flat = true ∧ Sim n x y
  | _, _, _, .nil _, i, h => by cases h
  | _, _, _, .cons a b c t, 0, _ => ⟨_, _, rfl, rfl, a, b, c⟩
  | _, _, _, .cons a b c t, i + 1, h => t.at i (Nat.lt_of_succ_lt_succ h)
theorem SimL.flats : ∀ {n : Nat} {xs ys : List MV.D}, SimL n xs ys → D.flats xs = true ∧ D.flats ys = true
  | _, _, _, .nil _ => ⟨rfl, rfl⟩
  | _, _, _, .cons a b c t => by
    obtain ⟨h1, h2⟩ := t.flats
    simp only [D.flats, a, b, h1, h2, Bool.and_self, and_self]
theorem eq_bb {a b : Bool} {h : HH} : eqD (.bl a) (.bl b) h = some (a == b) := by cases a <;> cases b <;> rfl
theorem lend_fl {h : HH} {d : MV.D} (f : d.flat = true) : lend h d = some d := by
  cases d <;> first | rfl | (cases f; done) | skip
  · exact lend_tup (by simpa only [D.flat] using f)
  · exact lend_wtup (by simpa only [D.flat] using f)
  · exact lend_lst (by simpa only [D.flat] using f)
  · unfold lend
    simp only [f, if_pos]
  · exact lend_obj (by simpa only [D.flat] using f)
theorem bls_rep : ∀ n : Nat, bls (List.replicate n (.bl true)) = some (List.replicate n true)
  | 0 => rfl
  | n + 1 => by
    rw [List.replicate_succ, bls_cons, bls_rep n]
    rfl
theorem bls_true (l : List Nat) : bls (l.map fun _ => MV.D.bl true) = some (l.map fun _ => true) := by
  induction l with
  | nil => rfl
  | cons a l ih =>
    rw [List.map_cons, bls_cons, ih]
    rfl
def thenS : S → S
  | .ite _ s _ => s
  | s => s
def fstS : S → S
  | .seq s _ => s
  | s => s
def sndS : S → S
  | .seq _ t => t
  | s => s
def retE : S → E
  | .ret e => e
  | _ => .nil
/-- the comprehension in it -/
def sameC : E := match retE (fstS (sndS (thenS (fstS b__law_same)))) with
  | .band _ (.b1 (.blt _ _ (.cons c .nil))) => c
  | e => e
theorem same_comp {k : Nat} {x y : MV.D} {xs : List MV.D} {h : HH} (h1 : ∀ j, j < xs.length → ∃ a b, itemD P.wd x (.int (j : Nat)) h = some a ∧ itemD P.wd y (.int (j : Nat)) h = some b ∧ callN P k i__law_same [a, b] h = .ok (.val (.bl true)) h) : ∀ (L : List Nat), (∀ j ∈ L, j < xs.length) →
    compL (cf P (callN P k) (.t_n 2) .nil (elE sameC) [some x, some y, none]) (L.map fun (j : Nat) => .int (j : Nat)) h = .ok (L.map fun _ => .bl true) h
  | [], _ => rfl
  | j :: L, hL => by
    have ih := same_comp h1 L fun i hi => hL i (List.mem_cons_of_mem _ hi)
    obtain ⟨a, b, e1, e2, e3⟩ := h1 j (hL j (List.mem_cons_self ..))
    rw [List.map_cons, compL_cons]
    simp only [sameC, retE, fstS, sndS, thenS, b__law_same, elE] at ih
    simp [sameC, retE, fstS, sndS, thenS, b__law_same, elE, e1, e2, e3, ih]
theorem range_map (n : Nat) : rangeL 0 (n : Int) = (List.range n).map fun (j : Nat) => .int (j : Nat) := by
  unfold rangeL
  simp
theorem ty_tup {l : List MV.D} {h : HH} {ts : List Ty} : isiD P.nc (.tup l) h ts = some (ts.any (tyIs .tup)) := (rfl)
theorem ty_wtup {l : List MV.D} {h : HH} {ts : List Ty} : isiD P.nc (.wtup l) h ts = some (ts.any (tyIs .tup)) := (rfl)
theorem ty_lst {l : List MV.D} {h : HH} {ts : List Ty} : isiD P.nc (.lst l) h ts = some (ts.any (tyIs .lst)) := (rfl)
theorem ty_bor {l : List MV.D} {h : HH} {ts : List Ty} : isiD P.nc (.bor l) h ts = some (ts.any (tyIs .lst)) := (rfl)
theorem ty_int {i : Int} {h : HH} {ts : List Ty} : isiD P.nc (.int i) h ts = some (ts.any (tyIs .int)) := (rfl)
theorem ty_bl {i : Bool} {h : HH} {ts : List Ty} : isiD P.nc (.bl i) h ts = some (ts.any (tyIs .bl)) := (rfl)
theorem ty_non {h : HH} {ts : List Ty} : isiD P.nc .non h ts = some (ts.any (tyIs .non)) := (rfl)
theorem ty_str {x : Str} {h : HH} {ts : List Ty} : isiD P.nc (.str x) h ts = some (ts.any (tyIs .str)) := (rfl)
theorem item_any {W : Wds} {x : MV.D} {l : List MV.D} {j : Nat} {d : MV.D} {h : HH} (hx : x = .tup l ∨ x = .wtup l ∨ x = .lst l ∨ x = .bor l) (e : l[j]? = some d) : itemD W x (.int (j : Nat)) h = some d := by
  have hj : j < l.length := (List.getElem?_eq_some_iff.mp e).1
  rcases hx with rfl | rfl | rfl | rfl
  · rw [it_tup, ixAt_nat hj, Option.bind_some, e]
  · rw [it_wtup, ixAt_nat hj, Option.bind_some, e]
  · rw [it_lst, ixAt_nat hj, Option.bind_some, e]
  · rw [it_bor, ixAt_nat hj, Option.bind_some, e]
theorem same_seq {m : Nat} {x y : MV.D} {xs ys : List MV.D} (hxy : ((x = .tup xs ∨ x = .wtup xs) ∧ (y = .tup ys ∨ y = .wtup ys)) ∨ ((x = .lst xs ∨ x = .bor xs) ∧ (y = .lst ys ∨ y = .bor ys))) (ln : xs.length = ys.length) (hl : xs.length ≤ line)
    (hc : ∀ j, j < xs.length → ∃ a b, itemD P.wd x (.int (j : Nat)) [] = some a ∧ itemD P.wd y (.int (j : Nat)) [] = some b ∧ callN P m i__law_same [a, b] [] = .ok (.val (.bl true)) []) : Ans P m i__law_same [x, y] (.val (.bl true)) := by
  have e := same_comp hc (List.range xs.length) (fun j hj => List.mem_range.mp hj)
  have hb := bls_true (List.range xs.length)
  have hal : ((List.range xs.length).map fun _ => true).all id = true := by simp
  have hq : mkL false ((List.range xs.length).map fun _ => MV.D.bl true) [] = .ok (.lst ((List.range xs.length).map fun _ => MV.D.bl true)) [] := mkL_f (by simpa using hl)
  simp only [sameC, retE, fstS, sndS, thenS, b__law_same, elE] at e
  have sm : smallI (xs.length : Int) = true := small_nat (Nat.lt_of_le_of_lt hl (by decide))
  have ra := range_map xs.length
  refine ans_of fn__law_same rfl rfl (d := .bl true) (h1 := []) ?_ rfl
  rcases hxy with ⟨rfl | rfl, rfl | rfl⟩ | ⟨rfl | rfl, rfl | rfl⟩
  · simp [F__law_same, b__law_same, startE, ty_tup, ty_wtup, ty_lst, ty_bor, tyIs, eq_bb, ra, e, hq, all_lst, hb, hal, ← ln, sm, noneD]
  · simp [F__law_same, b__law_same, startE, ty_tup, ty_wtup, ty_lst, ty_bor, tyIs, eq_bb, ra, e, hq, all_lst, hb, hal, ← ln, sm, noneD]
  · simp [F__law_same, b__law_same, startE, ty_tup, ty_wtup, ty_lst, ty_bor, tyIs, eq_bb, ra, e, hq, all_lst, hb, hal, ← ln, sm, noneD]
  · simp [F__law_same, b__law_same, startE, ty_tup, ty_wtup, ty_lst, ty_bor, tyIs, eq_bb, ra, e, hq, all_lst, hb, hal, ← ln, sm, noneD]
  · simp [F__law_same, b__law_same, startE, ty_tup, ty_wtup, ty_lst, ty_bor, tyIs, eq_bb, ra, e, hq, all_lst, hb, hal, ← ln, sm, noneD]
  · simp [F__law_same, b__law_same, startE, ty_tup, ty_wtup, ty_lst, ty_bor, tyIs, eq_bb, ra, e, hq, all_lst, hb, hal, ← ln, sm, noneD]
  · simp [F__law_same, b__law_same, startE, ty_tup, ty_wtup, ty_lst, ty_bor, tyIs, eq_bb, ra, e, hq, all_lst, hb, hal, ← ln, sm, noneD]
  · simp [F__law_same, b__law_same, startE, ty_tup, ty_wtup, ty_lst, ty_bor, tyIs, eq_bb, ra, e, hq, all_lst, hb, hal, ← ln, sm, noneD]
theorem same_ans : ∀ {n : Nat} {x y : MV.D}, Sim n x y → Ans P (n + 1) i__law_same [x, y] (.val (.bl true))
  | n, _, _, .int _ i => by
    refine ans_of fn__law_same rfl rfl (d := .bl true) (h1 := []) ?_ rfl
    simp [F__law_same, b__law_same, startE, ty_int, tyIs, eq_bb, noneD]
  | n, _, _, .bl _ i => by
    refine ans_of fn__law_same rfl rfl (d := .bl true) (h1 := []) ?_ rfl
    simp [F__law_same, b__law_same, startE, ty_bl, tyIs, eq_bb, noneD]
  | n, _, _, .non _ => by
    refine ans_of fn__law_same rfl rfl (d := .bl true) (h1 := []) ?_ rfl
    simp [F__law_same, b__law_same, startE, ty_non, tyIs, eq_bb, noneD]
  | _, x, y, .seq (n := n) (xs := xs) (ys := ys) hxy sl hl => by
    refine same_seq hxy sl.len hl fun j hj => ?_
    obtain ⟨a, b, e1, e2, f1, f2, s⟩ := sl.at j hj
    exact ⟨a, b, item_any (l := xs) (by rcases hxy with ⟨h, _⟩ | ⟨h, _⟩ <;> rcases h with h | h <;> simp [h]) e1, item_any (l := ys) (by rcases hxy with ⟨_, h⟩ | ⟨_, h⟩ <;> rcases h with h | h <;> simp [h]) e2, (same_ans s).call (lends2 (lend_fl f1) (lend_fl f2)) (Nat.le_refl _)⟩

end MV.X

set_option maxRecDepth 100000
set_option maxHeartbeats 4000000
namespace MV.X
open MV
open PySem (Str Operator)
/-! spins: products, the gcd, primitive -/
def Sp.X (b : Bool) (s : Sp) : MV.D := cs b s.W s.D
theorem Sp.Bd.mul {k n : Nat} {s t : Sp} (a : s.Bd k) (b : t.Bd n) : (s.mul t).Bd (k + n + 3) := by
  obtain ⟨a1, a2, a3, a4⟩ := a
  obtain ⟨b1, b2, b3, b4⟩ := b
  have q : ∀ {x y z w : Int}, MV.Bd (k + n) x → MV.Bd (k + n) y → MV.Bd (k + n) z → MV.Bd (k + n) w → MV.Bd (k + n + 3) (x - y - z - w) := fun h1 h2 h3 h4 => ((h1.sub h2).sub (h3.le (by omega))).sub (h4.le (by omega))
  have q1 : ∀ {x y z w : Int}, MV.Bd (k + n) x → MV.Bd (k + n) y → MV.Bd (k + n) z → MV.Bd (k + n) w → MV.Bd (k + n + 3) (x + y + z - w) := fun h1 h2 h3 h4 => ((h1.add h2).add (h3.le (by omega))).sub (h4.le (by omega))
  have q2 : ∀ {x y z w : Int}, MV.Bd (k + n) x → MV.Bd (k + n) y → MV.Bd (k + n) z → MV.Bd (k + n) w → MV.Bd (k + n + 3) (x - y + z + w) := fun h1 h2 h3 h4 => ((h1.sub h2).add (h3.le (by omega))).add (h4.le (by omega))
  have q3 : ∀ {x y z w : Int}, MV.Bd (k + n) x → MV.Bd (k + n) y → MV.Bd (k + n) z → MV.Bd (k + n) w → MV.Bd (k + n + 3) (x + y - z + w) := fun h1 h2 h3 h4 => ((h1.add h2).sub (h3.le (by omega))).add (h4.le (by omega))
  exact ⟨q (a1.mul b1) (a2.mul b2) (a3.mul b3) (a4.mul b4), q1 (a1.mul b2) (a2.mul b1) (a3.mul b4) (a4.mul b3), q2 (a1.mul b3) (a2.mul b4) (a3.mul b1) (a4.mul b2), q3 (a1.mul b4) (a2.mul b3) (a3.mul b2) (a4.mul b1)⟩
theorem mulS_ans {k n m : Nat} {s t : Sp} {x y : Bool} (hs : s.Bd n) (ht : t.Bd m) (hn : n + m < 900000) : Ans P k i_multiply [s.X x, t.X y] (.val (s.mul t).D) := by
  obtain ⟨a1, a2, a3, a4⟩ := hs
  obtain ⟨b1, b2, b3, b4⟩ := ht
  have q : ∀ {i j : Int}, MV.Bd n i → MV.Bd m j → mulOk i j = true := fun a b => a.ok b (by omega)
  refine ans_of fn_multiply rfl rfl (d := (s.mul t).D) (h1 := []) ?_ rfl
  cases x <;> cases y <;> simp [F_multiply, b_multiply, startE, Sp.X, Sp.W, Sp.D, Sp.mul, q, a1, a2, a3, a4, b1, b2, b3, b4]
theorem spx_lends {s t : Sp} {x y : Bool} {h : HH} : lends h [s.X x, t.X y] = some [s.X x, t.X y] := by cases x <;> cases y <;> rfl
theorem mulS_call {n k m : Nat} {s t : Sp} {x y : Bool} {h : HH} (hs : s.Bd k) (ht : t.Bd m) (hk : k + m < 900000) (hn : 1 ≤ n) : callN P n i_multiply [s.X x, t.X y] h = .ok (.val (s.mul t).D) h := (mulS_ans (k := 0) hs ht hk).call spx_lends hn
def whC : S → E
  | .seq _ (.seq (.whil c _) _) => c
  | _ => .nil
def whB : S → S
  | .seq _ (.seq (.whil _ b) _) => b
  | s => s
theorem wh_t {c : Env → HH → R Bool} {f : Env → HH → RS} {k : Nat} {ρ ρ1 : Env} {h h1 : HH} (e1 : c ρ h = .ok true h) (e2 : f ρ h = .nx ρ1 h1) : whileL c f (k + 1) ρ h = whileL c f k ρ1 h1 := by
  rw [whileL, e1]
  show (match f ρ h with
      | .nx ρ1 h1 => whileL c f k ρ1 h1
      | .ct ρ1 h1 => whileL c f k ρ1 h1
      | .bk ρ1 h1 => .nx ρ1 h1
      | z => z) = _
  rw [e2]
theorem wh_f {c : Env → HH → R Bool} {f : Env → HH → RS} {k : Nat} {ρ : Env} {h : HH} (e1 : c ρ h = .ok false h) : whileL c f (k + 1) ρ h = .nx ρ h := by
  rw [whileL, e1]
  rfl
theorem fmod_nat (a b : Nat) : Int.fmod (a : Int) (b : Int) = ((a % b : Nat) : Int) := by
  rw [Int.fmod_eq_emod_of_nonneg _ (Int.natCast_nonneg b)]
  exact Int.natCast_emod a b |>.symm
theorem gcd_c {o : Orc} {h : HH} (a b : Nat) : tst P o (whC b_common_divisor) [some (.int a), some (.int b)] h = .ok (decide (0 < b)) h := by
  simp [whC, b_common_divisor]
theorem gcd_b {o : Orc} {h : HH} (a b : Nat) (hb : 0 < b) : run P o (whB b_common_divisor) [some (.int a), some (.int b)] h = .nx [some (.int b), some (.int (a % b : Nat))] h := by
  have h0 : ((b : Int) != 0) = true := by simp; omega
  simp [whB, b_common_divisor, h0, fmod_nat]
theorem gcd_wh {o : Orc} {h : HH} : ∀ (n a b K : Nat), b < 2 ^ n → 2 * n + 1 ≤ K → whileL (tst P o (whC b_common_divisor)) (run P o (whB b_common_divisor)) K [some (.int a), some (.int b)] h = .nx [some (.int (Nat.gcd a b)), some (.int (0 : Nat))] h
  | _, _, _, 0, _, hk => absurd hk (by omega)
  | 0, a, b, K + 1, hb, _ => by
    have : b = 0 := by simpa using hb
    subst this
    rw [wh_f (gcd_c a 0), Nat.gcd_zero_right]
  | n + 1, a, b, K + 1, hb, hk => by
    by_cases h0 : b = 0
    · subst h0
      rw [wh_f (gcd_c a 0), Nat.gcd_zero_right]
    · have hb0 : 0 < b := by omega
      rw [wh_t (by rw [gcd_c, decide_eq_true hb0]) (gcd_b a b hb0)]
      have g1 : Nat.gcd a b = Nat.gcd b (a % b) := by rw [Nat.gcd_comm, Nat.gcd_rec, Nat.gcd_comm]
      by_cases h1 : a % b < 2 ^ n
      · rw [gcd_wh n b (a % b) K h1 (by omega), ← g1]
      · obtain ⟨K2, rfl⟩ : ∃ K2, K = K2 + 1 := ⟨K - 1, by omega⟩
        have hr : 0 < a % b := by have := Nat.two_pow_pos n; omega
        rw [wh_t (by rw [gcd_c, decide_eq_true hr]) (gcd_b b (a % b) hr)]
        have hlt := Nat.mod_lt a hb0
        have g2 : Nat.gcd b (a % b) = Nat.gcd (a % b) (b % (a % b)) := by rw [Nat.gcd_comm, Nat.gcd_rec, Nat.gcd_comm]
        have hp : 2 ^ (n + 1) = 2 ^ n + 2 ^ n := by rw [Nat.pow_succ]; omega
        have h2 : b % (a % b) < 2 ^ n := by
          have : b % (a % b) = b - a % b := by
            rw [Nat.mod_eq_sub_mod (by omega), Nat.mod_eq_of_lt (by omega)]
          omega
        rw [gcd_wh n (a % b) (b % (a % b)) K2 h2 (by omega), ← g2, ← g1]
theorem abs_nat (i : Int) : (if i < 0 then -i else i) = (i.natAbs : Int) := by
  split <;> omega
theorem gcd_ans {k : Nat} {a b : Int} {n : Nat} (hb : MV.Bd n b) (hn : n < 400000) : Ans P k i_common_divisor [.int a, .int b] (.val (.int (Nat.gcd a.natAbs b.natAbs : Nat))) := by
  have e := gcd_wh (o := callN P k) (h := []) n a.natAbs b.natAbs fuel hb (by unfold fuel; omega)
  simp only [whC, whB, b_common_divisor] at e
  refine ans_of fn_common_divisor rfl rfl (d := .int (Nat.gcd a.natAbs b.natAbs : Nat)) (h1 := []) ?_ rfl
  simp [F_common_divisor, b_common_divisor, startE, abs_nat, r_whil, e]
theorem gcd_call {n : Nat} {a b : Int} {h : HH} {k : Nat} (hb : MV.Bd k b) (hk : k < 400000) (hn : 1 ≤ n) : callN P n i_common_divisor [.int a, .int b] h = .ok (.val (.int (Nat.gcd a.natAbs b.natAbs : Nat))) h := (gcd_ans (k := 0) hb hk).call rfl hn
def Sp.g (s : Sp) : Nat := Nat.gcd (Nat.gcd (Nat.gcd s.a.natAbs s.b.natAbs) s.c.natAbs) s.d.natAbs
/-- the first entry that is not 0 -/
def Sp.hd (s : Sp) : Int := if s.a = 0 then (if s.b = 0 then (if s.c = 0 then s.d else s.c) else s.b) else s.a
def Sp.sg (s : Sp) : Int := if s.hd < 0 then -(s.g : Int) else s.g
def Sp.prim (s : Sp) : Sp := ⟨s.a.fdiv s.sg, s.b.fdiv s.sg, s.c.fdiv s.sg, s.d.fdiv s.sg⟩
theorem Sp.g_0 {s : Sp} (h : s.hd ≠ 0) : s.g ≠ 0 := by
  intro z
  unfold Sp.g at z
  simp only [Nat.gcd_eq_zero_iff, Int.natAbs_eq_zero] at z
  unfold Sp.hd at h
  simp [z] at h
theorem prim_loop {n : Nat} (hn : 1 ≤ n) {k : Nat} (hk : k < 400000) {s : Sp} (hs : s.Bd k) {x0 : MV.D} {h : HH} : loopL (lf P (callN P n) (.t_n 2) (lpB b_primitive)) [.int s.a, .int s.b, .int s.c, .int s.d] [some x0, some (.int 0), none] h = .nx [some x0, some (.int (s.g : Nat)), some (.int s.d)] h := by
  obtain ⟨h1, h2, h3, h4⟩ := hs
  have c : ∀ {g : Int} {x : Int}, MV.Bd k x → callN P n i_common_divisor [.int g, .int x] h = .ok (.val (.int (Nat.gcd g.natAbs x.natAbs : Nat))) h := fun hx => gcd_call hx hk hn
  simp [loopL_cons, lpB, b_primitive, c, h1, h2, h3, h4, Sp.g]
/-- the entries that are not 0 -/
def Sp.nz (s : Sp) : List MV.D := ([s.a, s.b, s.c, s.d].filter fun i => !decide (i = 0)).map .int
theorem nz_len (s : Sp) : s.nz.length ≤ line := by
  unfold Sp.nz
  rw [List.length_map]
  exact Nat.le_trans (List.length_filter_le ..) (show 4 ≤ line by decide)
theorem nz_comp {f : MV.D → HH → R (Option MV.D)} {h : HH} (hf : ∀ i : Int, f (.int i) h = .ok (cs (decide (i = 0)) none (some (.int i))) h) : ∀ l : List Int, compL f (l.map .int) h = .ok ((l.filter fun i => !decide (i = 0)).map .int) h
  | [] => rfl
  | i :: l => by
    rw [List.map_cons, compL_cons, hf, bind_ok', nz_comp hf l, bind_ok']
    by_cases h0 : i = 0 <;> simp [h0]
theorem nz_0 {W : Wds} {s : Sp} {h : HH} (hd : s.hd ≠ 0) : itemD W (.lst s.nz) (.int 0) h = some (.int s.hd) := by
  unfold Sp.nz
  unfold Sp.hd at hd ⊢
  by_cases ha : s.a = 0 <;> by_cases hb : s.b = 0 <;> by_cases hc : s.c = 0 <;> by_cases h4 : s.d = 0 <;> simp [ha, hb, hc, h4, ixAt] at hd ⊢
def es4 (s : Sp) : List MV.D := [s.a, s.b, s.c, s.d].map .int
theorem X_seq {s : Sp} {x : Bool} {h : HH} : seqOf (s.X x) h = some (es4 s) := by cases x <;> rfl
theorem itm_X {o : Orc} {i : Nat} {ρ : Env} {s : Sp} {x : Bool} {h : HH} (e : eg ρ i = some (s.X x)) : itm P o (.i_e (.v i)) ρ h = .ok (.items (es4 s)) h := by
  rw [i_ie, e_v, e]
  cases x <;> rfl
theorem itm_X0 {o : Orc} {ρ : Env} {s : Sp} {x : Bool} {h : HH} : itm P o (.i_e (.v 0)) (some (s.X x) :: ρ) h = .ok (.items (es4 s)) h := itm_X (by rfl)
theorem Sp.hd_bd {k : Nat} {s : Sp} (h : s.Bd k) : MV.Bd k s.hd := by
  obtain ⟨h1, h2, h3, h4⟩ := h
  unfold Sp.hd
  split
  · split
    · split
      · exact h4
      · exact h3
    · exact h2
  · exact h1
theorem Sp.g_dvd (s : Sp) : s.g ∣ s.a.natAbs ∧ s.g ∣ s.b.natAbs ∧ s.g ∣ s.c.natAbs ∧ s.g ∣ s.d.natAbs := by
  unfold Sp.g
  have h1 := Nat.gcd_dvd_left (Nat.gcd (Nat.gcd s.a.natAbs s.b.natAbs) s.c.natAbs) s.d.natAbs
  have h2 := Nat.gcd_dvd_left (Nat.gcd s.a.natAbs s.b.natAbs) s.c.natAbs
  exact ⟨Nat.dvd_trans (Nat.dvd_trans h1 h2) (Nat.gcd_dvd_left ..), Nat.dvd_trans (Nat.dvd_trans h1 h2) (Nat.gcd_dvd_right ..), Nat.dvd_trans h1 (Nat.gcd_dvd_right ..), Nat.gcd_dvd_right ..⟩
theorem Sp.g_log {k : Nat} {s : Sp} (h : s.Bd k) (hd : s.hd ≠ 0) (hk : k < 8000) : s.g.log2 < 9000 := by
  have b := Sp.hd_bd h
  have dv : s.g ∣ s.hd.natAbs := by
    obtain ⟨h1, h2, h3, h4⟩ := s.g_dvd
    unfold Sp.hd
    split
    · split
      · split
        · exact h4
        · exact h3
      · exact h2
    · exact h1
  have le : s.g ≤ s.hd.natAbs := Nat.le_of_dvd (by omega) dv
  have := log2_lt_of (Nat.lt_of_le_of_lt le b)
  omega
theorem prim_ans {n k : Nat} (hk : k < 8000) {s : Sp} (hs : s.Bd k) (hd : s.hd ≠ 0) {x : Bool} : Ans P (n + 1) i_primitive [s.X x] (.val s.prim.D) := by
  have e := prim_loop (n := n + 1) (by omega) (by omega) hs (x0 := s.X x) (h := [])
  simp only [lpB, b_primitive] at e
  have g0 := Sp.g_0 hd
  have g0' : ¬ (s.g : Int) = 0 := by omega
  have gl := Sp.g_log hs hd hk
  have dv : divOk (s.g : Int) = true := by unfold divOk; simpa using ⟨g0, gl⟩
  have dv' : divOk (-(s.g : Int)) = true := by unfold divOk; simpa using ⟨g0, gl⟩
  have l1 : [MV.D.int s.a, MV.D.int s.b, MV.D.int s.c, MV.D.int s.d] = es4 s := rfl
  rw [l1] at e
  have c1 := nz_comp (f := cf P (callN P (n + 1)) (E.t_n 2) ((E.cmp PySem.CmpOp.NotEq (E.v 2) (E.c (D.int 0))).cons E.nil) (E.v 2) [some (s.X x), some (.int (s.g : Nat)), none]) (h := []) (fun i => by by_cases h0 : i = 0 <;> simp [h0]) [s.a, s.b, s.c, s.d]
  rw [show [s.a, s.b, s.c, s.d].map MV.D.int = es4 s from rfl, show ([s.a, s.b, s.c, s.d].filter fun i => !decide (i = 0)).map MV.D.int = s.nz from rfl] at c1
  refine ans_of fn_primitive rfl rfl (d := s.prim.D) (h1 := []) ?_ rfl
  by_cases hlt : s.hd < 0
  · have sg : s.sg = -(s.g : Int) := by unfold Sp.sg; rw [if_pos hlt]
    have d1 : ∀ h, compL (cf P (callN P (n + 1)) (E.t_n 2) E.nil (E.bin Operator.FloorDiv false (E.v 2) (E.v 1)) [some (s.X x), some (.int (-(s.g : Int))), none]) (es4 s) h = .ok [.int s.prim.a, .int s.prim.b, .int s.prim.c, .int s.prim.d] h := fun h => by
      simp [es4, compL_cons, dv', Sp.prim, sg]
    simp [F_primitive, b_primitive, startE, itm_X0, e, g0, c1, mkL_f (nz_len s), nz_0 hd, hlt, d1, Sp.D, line, mkL_f, -i_ie]
  · have sg : s.sg = (s.g : Int) := by unfold Sp.sg; rw [if_neg hlt]
    have d1 : ∀ h, compL (cf P (callN P (n + 1)) (E.t_n 2) E.nil (E.bin Operator.FloorDiv false (E.v 2) (E.v 1)) [some (s.X x), some (.int (s.g : Int)), none]) (es4 s) h = .ok [.int s.prim.a, .int s.prim.b, .int s.prim.c, .int s.prim.d] h := fun h => by
      simp [es4, compL_cons, dv, Sp.prim, sg]
    simp [F_primitive, b_primitive, startE, itm_X0, e, g0, c1, mkL_f (nz_len s), nz_0 hd, hlt, d1, Sp.D, line, mkL_f, -i_ie]
theorem prim_call {n k : Nat} (hk : k < 8000) {s : Sp} (hs : s.Bd k) (hd : s.hd ≠ 0) {x : Bool} {h : HH} (hn : 2 ≤ n) : callN P n i_primitive [s.X x] h = .ok (.val s.prim.D) h := (prim_ans (n := 0) hk hs hd (x := x)).call (by cases x <;> rfl) hn
def wsf (p : Int) (s : Sp) (w : List Nat) : Sp := w.foldl (fun s l => s.mul (lt p l)) s
def Sp.one : Sp := ⟨1, 0, 0, 0⟩
def ws (p : Int) (w : List Nat) : Sp := wsf p Sp.one w
theorem wsf_bd {p : Int} (hp : IsP p) : ∀ {w : List Nat} {m : Sp} {k : Nat}, m.Bd k → (wsf p m w).Bd (k + 6 * w.length)
  | [], m, k, h => h
  | l :: w, m, k, h => by
    have q := wsf_bd hp (w := w) (h.mul (lt_bd hp l))
    rw [List.length_cons]
    exact q.le (by omega)
/-- spins in either form -/
def spl (xs : List (Sp × Bool)) : List MV.D := xs.map fun z => z.1.X z.2
def prodS (m : Sp) (xs : List (Sp × Bool)) : Sp := xs.foldl (fun m z => m.mul z.1) m
theorem js_loop {n : Nat} (hn : 1 ≤ n) {y : MV.D} {h : HH} : ∀ (xs : List (Sp × Bool)) (m : Sp) (s : Bool) (x : Option MV.D) (k : Nat), (∀ z ∈ xs, z.1.Bd 3) → m.Bd k → k + 6 * xs.length ≤ 3900 →
    ∃ x' s', loopL (lf P (callN P n) (.t_n 2) (lpB b_joined_spins)) (spl xs) [some y, some (m.X s), x] h = .nx [some y, some ((prodS m xs).X s'), x'] h
  | [], m, s, x, k, _, _, _ => ⟨x, s, rfl⟩
  | (t, b) :: xs, m, s, x, k, hx, hm, hk => by
    rw [List.length_cons] at hk
    have ht : t.Bd 3 := hx (t, b) (List.mem_cons_self ..)
    obtain ⟨x', s', ih⟩ := js_loop hn (y := y) (h := h) xs (m.mul t) false (some (t.X b)) (k + 6) (fun z hz => hx z (List.mem_cons_of_mem _ hz)) ((hm.mul ht).le (by omega)) (by omega)
    refine ⟨x', s', ?_⟩
    rw [show prodS m ((t, b) :: xs) = prodS (m.mul t) xs from rfl, ← ih]
    show loopL _ (t.X b :: spl xs) _ _ = _
    rw [loopL_cons]
    have t2 : ∀ H, callN P n i_multiply [m.X s, t.X b] H = .ok (.val (m.mul t).D) H := fun H => mulS_call hm ht (by omega) hn
    have xf : (m.mul t).X false = (m.mul t).D := rfl
    simp [lpB, b_joined_spins, t2, xf]
theorem spl_flats : ∀ xs : List (Sp × Bool), D.flats (spl xs) = true
  | [] => rfl
  | (t, b) :: xs => by
    show (D.flat (t.X b) && D.flats (spl xs)) = true
    rw [spl_flats xs]
    cases b <;> rfl
theorem js_call {n : Nat} (hn : 2 ≤ n) {h : HH} {xs : List (Sp × Bool)} (hx : ∀ z ∈ xs, z.1.Bd 3) (hl : xs.length ≤ 300) : ∃ s, callN P n i_joined_spins [.lst (spl xs)] h = .ok (.val ((prodS Sp.one xs).X s)) h := by
  obtain ⟨x', s', e⟩ := js_loop (n := 1) (Nat.le_refl _) (y := .lst (spl xs)) (h := []) xs Sp.one true none 3 hx (by unfold Sp.one Sp.Bd MV.Bd; decide) (by omega)
  refine ⟨s', Ans.call (k := 1) ?_ (lends1 (lend_lst (spl_flats xs))) hn⟩
  simp only [lpB, b_joined_spins] at e
  have o1 : d_ONE = Sp.one.X true := rfl
  refine ans_of fn_joined_spins rfl rfl (d := (prodS Sp.one xs).X s') (h1 := []) ?_ (by cases s' <;> rfl)
  simp [F_joined_spins, b_joined_spins, startE, o1, e]
theorem prodS_app (m : Sp) (xs : List (Sp × Bool)) (z : Sp × Bool) : prodS m (xs ++ [z]) = (prodS m xs).mul z.1 := by
  unfold prodS
  rw [List.foldl_append]
  rfl
theorem prodS_w (p : Int) : ∀ (w : List Nat) (m : Sp), prodS m (w.map fun l => (lt p l, true)) = wsf p m w
  | [], _ => rfl
  | l :: w, m => prodS_w p w (m.mul (lt p l))
def sqB : Bool := SQ.all spB3
theorem sq_bd (q : Nat) : (sq q).Bd 3 := spB3_ok (all_at (by kernel_rfl) _ (by decide) q)
/-- the spin of a pose, unreduced -/
def full (p : Int) (w : List Nat) (q : Nat) : Sp := (ws p w).mul (sq q)
theorem full_bd {p : Int} (hp : IsP p) (w : List Nat) (q : Nat) : (full p w q).Bd (9 + 6 * w.length) := ((wsf_bd hp (w := w) (m := Sp.one) (k := 3) (by unfold Sp.one Sp.Bd MV.Bd; decide)).mul (sq_bd q)).le (by omega)
theorem sp_comp {p : Int} (hp : IsP p) {o : Orc} {w0 : List Nat} {q : Nat} {h : HH} : ∀ w : List Nat, Lw p w → compL (cf P o (E.t_n 2) E.nil (((E.g 1).ix ((E.v 0).att 3 [])).ix (E.v 2)) [some (pose p w0 q), none, none]) (ln w) h = .ok (w.map fun l => (lt p l).W) h
  | [], _ => rfl
  | l :: w, hw => by
    have ih := sp_comp hp (o := o) (w0 := w0) (q := q) (h := h) w fun x hx => hw x (List.mem_cons_of_mem _ hx)
    show compL _ (.int (l : Nat) :: ln w) _ = _
    rw [compL_cons]
    have hl1 : l < nl p := hw l (List.mem_cons_self ..)
    simp [pj, fd_p, ↓wdp hp, ↓lt_atW hl1, ih]
theorem spin_call {p : Int} (hp : IsP p) {w : List Nat} (hw : Lw p w) (hl : w.length ≤ 200) {q : Nat} (hq : q < 24) (hd : (full p w q).hd ≠ 0) {n : Nat} (hn : 12 ≤ n) (h : HH) : callN P n i_Pose_spin [pose p w q] h = .ok (.val (full p w q).prim.D) h := by
  refine Ans.call (k := 11) ?_ (pose_lends p w q h) hn
  have e := sp_comp hp (o := callN P 11) (w0 := w) (q := q) (h := []) w hw
  have t0 : ∀ H, callN P 11 i_quarter_spin [.int (q : Nat)] H = .ok (.val (sq q).D) H := fun H => (qspin_ans q hq).call rfl (by decide)
  obtain ⟨s, t1⟩ := js_call (n := 11) (by decide) (h := []) (xs := (w.map fun l => (lt p l, true)) ++ [(sq q, false)]) (fun z hz => by
    rcases List.mem_append.mp hz with m | m
    · obtain ⟨l, _, rfl⟩ := List.mem_map.mp m
      exact lt_bd hp l
    · rw [List.mem_singleton.mp m]
      exact sq_bd q) (by simp; omega)
  rw [prodS_app, prodS_w] at t1
  have sl : spl ((w.map fun l => (lt p l, true)) ++ [(sq q, false)]) = (w.map fun l => (lt p l).W) ++ [(sq q).D] := by
    unfold spl
    rw [List.map_append, List.map_map]
    rfl
  rw [sl] at t1
  have t2 := prim_call (n := 11) (k := 9 + 6 * w.length) (by omega) (full_bd hp w q) hd (x := s) (h := []) (by decide)
  have fe : (wsf p Sp.one w).mul (sq q, false).1 = full p w q := rfl
  rw [fe] at t1
  refine ans_of fn_Pose_spin rfl rfl (d := (full p w q).prim.D) (h1 := []) ?_ rfl
  have hl1 : w.length ≤ line := by unfold line; omega
  have hl2 : w.length + 1 ≤ line := by unfold line; omega
  simp [F_Pose_spin, b_Pose_spin, startE, pj, fd_l, fd_q, e, t0, t1, t2, mkL_f, hl1, hl2]

end MV.X

set_option maxRecDepth 100000
set_option maxHeartbeats 4000000
namespace MV.X
open MV
open PySem (Str Operator)
/-! reduced words: some entry is no multiple of the prime -/
/-- a unit mod p -/
def Un (p x : Int) : Prop := ∃ y k, x * y = 1 + p * k
theorem Un.mul {p x y : Int} (a : Un p x) (b : Un p y) : Un p (x * y) := by
  obtain ⟨x', k, h1⟩ := a
  obtain ⟨y', j, h2⟩ := b
  exact ⟨x' * y', k + j + p * k * j, by grind⟩
theorem Un.of {p x y k : Int} (a : Un p y) (e : x = y + p * k) : Un p x := by
  obtain ⟨y', j, h⟩ := a
  exact ⟨y', j + k * y', by grind⟩
theorem Un.not {p x : Int} (hp : 2 ≤ p) (a : Un p x) : ¬ p ∣ x := by
  rintro ⟨z, rfl⟩
  obtain ⟨y, k, e⟩ := a
  have h : p ∣ 1 := ⟨z * y - k, by grind⟩
  have := Int.le_of_dvd (by decide) h
  omega
structure V3 where
  (a b c : Int)
  deriving DecidableEq
/-- a row times a matrix -/
def V3.mul (v : V3) (m : Mat) : V3 := ⟨v.a*m.a+v.b*m.d+v.c*m.g, v.a*m.b+v.b*m.e+v.c*m.h, v.a*m.c+v.b*m.f+v.c*m.i⟩
def V3.Eqm (p : Int) (v w : V3) (c : Int) : Prop := ∃ i j k, v.a = c * w.a + p * i ∧ v.b = c * w.b + p * j ∧ v.c = c * w.c + p * k
def Mat.row (m : Mat) : Nat → V3
  | 0 => ⟨m.a, m.b, m.c⟩
  | 1 => ⟨m.d, m.e, m.f⟩
  | _ => ⟨m.g, m.h, m.i⟩
theorem row_mul (m n : Mat) : ∀ i, (m.mul n).row i = (m.row i).mul n
  | 0 => rfl
  | 1 => rfl
  | n + 2 => rfl
theorem eqm_mul {p : Int} {v w u : V3} {c d : Int} {m : Mat} (h : V3.Eqm p v w c) (h2 : V3.Eqm p (w.mul m) u d) : V3.Eqm p (v.mul m) u (c * d) := by
  obtain ⟨i, j, k, e1, e2, e3⟩ := h
  obtain ⟨x, y, z, g1, g2, g3⟩ := h2
  have q : ∀ {v1 v2 v3 w1 w2 w3 m1 m2 m3 u t : Int}, v1 = c * w1 + p * i → v2 = c * w2 + p * j → v3 = c * w3 + p * k → w1 * m1 + w2 * m2 + w3 * m3 = d * u + p * t → v1 * m1 + v2 * m2 + v3 * m3 = c * d * u + p * (i * m1 + j * m2 + k * m3 + c * t) := fun {v1 v2 v3 w1 w2 w3 m1 m2 m3 u t} e1 e2 e3 g => by
    subst e1 e2 e3
    have h1 : (c * w1 + p * i) * m1 + (c * w2 + p * j) * m2 + (c * w3 + p * k) * m3 = c * (w1 * m1 + w2 * m2 + w3 * m3) + p * (i * m1 + j * m2 + k * m3) := by grind
    rw [h1, g]
    grind
  exact ⟨_, _, _, q e1 e2 e3 g1, q e1 e2 e3 g2, q e1 e2 e3 g3⟩
/-- a row of a letter's matrix that is not 0 mod p -/
def vl (p : Int) (l : Nat) : V3 := let m := (lt p l).tab
  if m.a % p ≠ 0 ∨ m.b % p ≠ 0 ∨ m.c % p ≠ 0 then m.row 0 else if m.d % p ≠ 0 ∨ m.e % p ≠ 0 ∨ m.f % p ≠ 0 then m.row 1 else m.row 2
/-- the inverse mod p, by search -/
def inv (p x : Int) : Int := ((List.range p.toNat).find? fun (y : Nat) => (x * y) % p == 1).getD 0
def lead (p : Int) (v : V3) : Int := if v.a % p ≠ 0 then v.a else if v.b % p ≠ 0 then v.b else v.c
/-- the factor between two rows -/
def fac (p : Int) (v u : V3) : Int := if u.a % p ≠ 0 then (v.a * inv p u.a) % p else if u.b % p ≠ 0 then (v.b * inv p u.b) % p else (v.c * inv p u.c) % p
def okU (p x : Int) : Bool := (x * inv p x) % p == 1
def okP (p : Int) (l m : Nat) : Bool := l == un p m || (let v := (vl p l).mul (lt p m).tab; let u := vl p m; let d := fac p v u; okU p d && (v.a - d * u.a) % p == 0 && (v.b - d * u.b) % p == 0 && (v.c - d * u.c) % p == 0)
def okA (p : Int) : Bool := (List.range (nl p)).all fun l => okU p (lead p (vl p l)) && (List.range (nl p)).all fun m => okP p l m
theorem okU_un {p x : Int} (h : okU p x = true) : Un p x := by
  unfold okU at h
  have h := beq_iff_eq.mp h
  exact ⟨inv p x, (x * inv p x) / p, by have := Int.emod_add_mul_ediv (x * inv p x) p; rw [h] at this; omega⟩
theorem okA_5 : okA 5 = true := by kernel_rfl
theorem okA_13 : okA 13 = true := by kernel_rfl
theorem okA_17 : okA 17 = true := by kernel_rfl
theorem okA_29 : okA 29 = true := by kernel_rfl
theorem okA_p {p : Int} (hp : IsP p) : okA p = true := by
  rcases hp with rfl | rfl | rfl | rfl
  · exact okA_5
  · exact okA_13
  · exact okA_17
  · exact okA_29
theorem okl {p : Int} (hp : IsP p) {l : Nat} (hl : l < nl p) : Un p (lead p (vl p l)) ∧ ∀ m, m < nl p → okP p l m = true := by
  have h := List.all_eq_true.mp (okA_p hp) l (List.mem_range.mpr hl)
  rw [Bool.and_eq_true] at h
  exact ⟨okU_un h.1, fun m hm => List.all_eq_true.mp h.2 m (List.mem_range.mpr hm)⟩
theorem vl_row (p : Int) (l : Nat) : ∃ i, (lt p l).tab.row i = vl p l := by
  unfold vl
  dsimp only
  split
  · exact ⟨0, rfl⟩
  · split
    · exact ⟨1, rfl⟩
    · exact ⟨2, rfl⟩
theorem step_eqm {p : Int} (hp : IsP p) {l m : Nat} (hl : l < nl p) (hm : m < nl p) (hn : l ≠ un p m) : ∃ d, Un p d ∧ V3.Eqm p ((vl p l).mul (lt p m).tab) (vl p m) d := by
  have h := (okl hp hl).2 m hm
  unfold okP at h
  rw [Bool.or_eq_true] at h
  rcases h with h | h
  · exact absurd (beq_iff_eq.mp h) hn
  · simp only [Bool.and_eq_true, beq_iff_eq] at h
    obtain ⟨⟨⟨h1, h2⟩, h3⟩, h4⟩ := h
    obtain ⟨i, h2⟩ := Int.dvd_of_emod_eq_zero h2
    obtain ⟨j, h3⟩ := Int.dvd_of_emod_eq_zero h3
    obtain ⟨k, h4⟩ := Int.dvd_of_emod_eq_zero h4
    exact ⟨_, okU_un h1, i, j, k, by omega, by omega, by omega⟩
theorem wmf_row {p : Int} (hp : IsP p) : ∀ (w : List Nat) (l : Nat) (m : Mat) (i : Nat) (c : Int), Lw p (l :: w) → Rdc p (l :: w) → Un p c → V3.Eqm p (m.row i) (vl p l) c →
    ∃ z c', z < nl p ∧ Un p c' ∧ V3.Eqm p ((wmf p m w).row i) (vl p z) c'
  | [], l, m, i, c, hw, _, hc, e => ⟨l, c, hw l (List.mem_cons_self ..), hc, e⟩
  | k :: w, l, m, i, c, hw, hr, hc, e => by
    obtain ⟨d, hd, e2⟩ := step_eqm hp (hw l (List.mem_cons_self ..)) (hw k (List.mem_cons_of_mem _ (List.mem_cons_self ..))) hr.1
    exact wmf_row hp w k (m.mul (lt p k).tab) i (c * d) (fun x hx => hw x (List.mem_cons_of_mem _ hx)) hr.2 (hc.mul hd) (by rw [row_mul]; exact eqm_mul e e2)
def Mat.Dv (p : Int) (m : Mat) : Prop := p ∣ m.a ∧ p ∣ m.b ∧ p ∣ m.c ∧ p ∣ m.d ∧ p ∣ m.e ∧ p ∣ m.f ∧ p ∣ m.g ∧ p ∣ m.h ∧ p ∣ m.i
theorem Mat.Dv.row {p : Int} {m : Mat} (h : m.Dv p) : ∀ i, p ∣ (m.row i).a ∧ p ∣ (m.row i).b ∧ p ∣ (m.row i).c
  | 0 => ⟨h.1, h.2.1, h.2.2.1⟩
  | 1 => ⟨h.2.2.2.1, h.2.2.2.2.1, h.2.2.2.2.2.1⟩
  | n + 2 => ⟨h.2.2.2.2.2.2.1, h.2.2.2.2.2.2.2.1, h.2.2.2.2.2.2.2.2⟩
theorem isP_2 {p : Int} (hp : IsP p) : 2 ≤ p := by
  rcases hp with rfl | rfl | rfl | rfl <;> decide
theorem wm_nd {p : Int} (hp : IsP p) {w : List Nat} (hw : Lw p w) (hr : Rdc p w) (hn : w ≠ []) : ¬ (wm p w).Dv p := by
  cases w with
  | nil => exact absurd rfl hn
  | cons l w =>
    obtain ⟨i, e⟩ := vl_row p l
    obtain ⟨z, c, hz, hc, e2⟩ := wmf_row hp w l (Mat.one.mul (lt p l).tab) i 1 hw hr ⟨1, 0, by omega⟩ (by rw [one_mul', e]; exact ⟨0, 0, 0, by omega, by omega, by omega⟩)
    intro d
    have d2 := Mat.Dv.row d i
    have hu := (okl hp hz).1
    obtain ⟨x, y, k, g1, g2, g3⟩ := e2
    have hu2 := hc.mul hu
    have h2 := isP_2 hp
    unfold lead at hu2
    have rr : (wm p (l :: w)).row i = (wmf p (Mat.one.mul (lt p l).tab) w).row i := rfl
    rw [rr] at d2
    split at hu2
    · exact (Un.of hu2 g1).not h2 d2.1
    · split at hu2
      · exact (Un.of hu2 g2).not h2 d2.2.1
      · exact (Un.of hu2 g3).not h2 d2.2.2
theorem Mat.Dv.mul {p : Int} {m n : Mat} (h : m.Dv p) : (m.mul n).Dv p := by
  obtain ⟨h1, h2, h3, h4, h5, h6, h7, h8, h9⟩ := h
  have q : ∀ {x y z a b c : Int}, p ∣ x → p ∣ y → p ∣ z → p ∣ x * a + y * b + z * c := fun {x y z a b c} h1 h2 h3 => Int.dvd_add (Int.dvd_add (Int.dvd_mul_of_dvd_left h1) (Int.dvd_mul_of_dvd_left h2)) (Int.dvd_mul_of_dvd_left h3)
  exact ⟨q h1 h2 h3, q h1 h2 h3, q h1 h2 h3, q h4 h5 h6, q h4 h5 h6, q h4 h5 h6, q h7 h8 h9, q h7 h8 h9, q h7 h8 h9⟩
def Mat.tr (m : Mat) : Mat := ⟨m.a, m.d, m.g, m.b, m.e, m.h, m.c, m.f, m.i⟩
def trB (m : Mat) : Bool := decide (m.mul m.tr = Mat.one)
theorem qt_tr (q : Nat) : (qt q).mul (qt q).tr = Mat.one := by
  have h : trB (qt q) = true := all_at (l := QT) (by decide) _ (by decide) q
  exact of_decide_eq_true h
theorem due_nd {p : Int} (hp : IsP p) {w : List Nat} (hw : Lw p w) (hr : Rdc p w) (hn : w ≠ []) (q : Nat) : ¬ ((wm p w).mul (qt q)).Dv p := fun d => by
  have := d.mul (n := (qt q).tr)
  rw [mulA, qt_tr, mul_one'] at this
  exact wm_nd hp hw hr hn this
/-! spins -/
def Sp.sm (c : Int) (s : Sp) : Sp := ⟨c * s.a, c * s.b, c * s.c, c * s.d⟩
def Mat.sm (c : Int) (m : Mat) : Mat := ⟨c * m.a, c * m.b, c * m.c, c * m.d, c * m.e, c * m.f, c * m.g, c * m.h, c * m.i⟩
theorem tab_sm (c : Int) (s : Sp) : (s.sm c).tab = s.tab.sm (c * c) := by
  unfold Sp.sm Sp.tab Mat.sm
  simp only [Mat.mk.injEq]
  refine ⟨?_, ?_, ?_, ?_, ?_, ?_, ?_, ?_, ?_⟩ <;> grind
theorem norm_sm (c : Int) (s : Sp) : (s.sm c).norm = c * c * s.norm := by
  unfold Sp.sm Sp.norm
  grind
theorem mul_sm (c : Int) (m n : Mat) : m.mul (n.sm c) = (m.mul n).sm c := by
  unfold Mat.mul Mat.sm
  simp only [Mat.mk.injEq]
  refine ⟨?_, ?_, ?_, ?_, ?_, ?_, ?_, ?_, ?_⟩ <;> grind
theorem sm_sm (c d : Int) (m : Mat) : (m.sm c).sm d = m.sm (d * c) := by
  unfold Mat.sm
  simp only [Mat.mk.injEq, Int.mul_assoc, and_self]
theorem sm_can {c : Int} (hc : c ≠ 0) {m n : Mat} (h : m.sm c = n.sm c) : m = n := by
  unfold Mat.sm at h
  cases m
  cases n
  simp only [Mat.mk.injEq] at h ⊢
  obtain ⟨h1, h2, h3, h4, h5, h6, h7, h8, h9⟩ := h
  exact ⟨Int.eq_of_mul_eq_mul_left hc h1, Int.eq_of_mul_eq_mul_left hc h2, Int.eq_of_mul_eq_mul_left hc h3, Int.eq_of_mul_eq_mul_left hc h4, Int.eq_of_mul_eq_mul_left hc h5, Int.eq_of_mul_eq_mul_left hc h6, Int.eq_of_mul_eq_mul_left hc h7, Int.eq_of_mul_eq_mul_left hc h8, Int.eq_of_mul_eq_mul_left hc h9⟩
theorem wsf_tab (p : Int) : ∀ (w : List Nat) (s : Sp), (wsf p s w).tab = wmf p s.tab w
  | [], _ => rfl
  | l :: w, s => by
    show (wsf p (s.mul (lt p l)) w).tab = wmf p (s.tab.mul (lt p l).tab) w
    rw [wsf_tab p w, tab_mul]
def ltN (p : Int) : Bool := (LT p).all fun s => decide (s.norm = p)
theorem lt_norm {p : Int} (hp : IsP p) {l : Nat} (hl : l < nl p) : (lt p l).norm = p := by
  have h : ltN p = true := by rcases hp with rfl | rfl | rfl | rfl <;> kernel_rfl
  have := List.all_eq_true.mp h (lt p l) (by unfold lt; rw [List.getD_eq_getElem?_getD, List.getElem?_eq_getElem hl]; exact List.getElem_mem hl)
  exact of_decide_eq_true this
theorem wsf_norm {p : Int} (hp : IsP p) : ∀ (w : List Nat) (s : Sp), Lw p w → (wsf p s w).norm = s.norm * p ^ w.length
  | [], s, _ => by simp [wsf]
  | l :: w, s, hw => by
    show (wsf p (s.mul (lt p l)) w).norm = _
    rw [wsf_norm hp w _ fun x hx => hw x (List.mem_cons_of_mem _ hx), norm_mul, lt_norm hp (hw l (List.mem_cons_self ..)), List.length_cons, Int.pow_succ, Int.mul_assoc, Int.mul_comm p]
/-- a quarter's spin: 1, 2 or 4 times its matrix -/
def sqN (q : Nat) : Bool := decide ((sq q).norm = 1 ∨ (sq q).norm = 2 ∨ (sq q).norm = 4) && decide ((sq q).tab = (qt q).sm (sq q).norm)
theorem sq_n {q : Nat} (hq : q < 24) : ((sq q).norm = 1 ∨ (sq q).norm = 2 ∨ (sq q).norm = 4) ∧ (sq q).tab = (qt q).sm (sq q).norm := by
  have h : ((List.range 24).all sqN) = true := by kernel_rfl
  have h := List.all_eq_true.mp h q (List.mem_range.mpr hq)
  unfold sqN at h
  rw [Bool.and_eq_true] at h
  exact ⟨of_decide_eq_true h.1, of_decide_eq_true h.2⟩
theorem full_tab {p : Int} {w : List Nat} {q : Nat} (hq : q < 24) : (full p w q).tab = ((wm p w).mul (qt q)).sm (sq q).norm := by
  unfold full ws
  rw [tab_mul, wsf_tab, (sq_n hq).2, mul_sm]
  rfl
theorem full_norm {p : Int} (hp : IsP p) {w : List Nat} (hw : Lw p w) {q : Nat} : (full p w q).norm = p ^ w.length * (sq q).norm := by
  unfold full ws
  rw [norm_mul, wsf_norm hp w _ hw]
  show (1 * p ^ w.length) * _ = _
  rw [Int.one_mul]
theorem hd_of_norm {s : Sp} (h : s.norm ≠ 0) : s.hd ≠ 0 := by
  intro z
  apply h
  unfold Sp.hd at z
  unfold Sp.norm
  split at z
  · split at z
    · split at z
      · simp [*]
      · exact absurd z (by assumption)
    · exact absurd z (by assumption)
  · exact absurd z (by assumption)
theorem full_hd {p : Int} (hp : IsP p) {w : List Nat} (hw : Lw p w) {q : Nat} (hq : q < 24) : (full p w q).hd ≠ 0 := by
  apply hd_of_norm
  rw [full_norm hp hw]
  have h2 := isP_2 hp
  have : p ^ w.length ≠ 0 := Int.pow_ne_zero (by omega)
  refine Int.mul_ne_zero this ?_
  rcases (sq_n hq).1 with h | h | h <;> rw [h] <;> decide
theorem fdiv_dvd {c x : Int} (hc : c ≠ 0) (h : c ∣ x) : x = c * x.fdiv c := by
  obtain ⟨y, rfl⟩ := h
  rw [Int.mul_fdiv_cancel_left _ hc]
theorem prim_sm {s : Sp} (h : s.hd ≠ 0) : s = s.prim.sm s.sg ∧ s.sg ≠ 0 ∧ 0 < s.prim.hd := by
  have g0 := Sp.g_0 h
  have s0 : s.sg ≠ 0 := by unfold Sp.sg; split <;> omega
  have dv : ∀ {x : Int}, s.g ∣ x.natAbs → s.sg ∣ x := fun {x} d => by
    have : (s.g : Int) ∣ x := Int.ofNat_dvd_left.mpr d
    unfold Sp.sg
    split
    · exact Int.neg_dvd.mpr this
    · exact this
  obtain ⟨h1, h2, h3, h4⟩ := s.g_dvd
  have e1 := fdiv_dvd s0 (dv h1)
  have e2 := fdiv_dvd s0 (dv h2)
  have e3 := fdiv_dvd s0 (dv h3)
  have e4 := fdiv_dvd s0 (dv h4)
  have e : s = s.prim.sm s.sg := by
    show s = ⟨s.sg * s.a.fdiv s.sg, s.sg * s.b.fdiv s.sg, s.sg * s.c.fdiv s.sg, s.sg * s.d.fdiv s.sg⟩
    rw [← e1, ← e2, ← e3, ← e4]
  refine ⟨e, s0, ?_⟩
  have hh : s.hd = s.sg * s.prim.hd := by
    have q : ∀ (t : Sp) (c : Int), c ≠ 0 → (t.sm c).hd = c * t.hd := fun t c hc => by
      unfold Sp.hd Sp.sm
      simp only [Int.mul_eq_zero, hc, false_or]
      split
      · split
        · split <;> rfl
        · rfl
      · rfl
    rw [← q _ _ s0, ← e]
  unfold Sp.sg at hh
  split at hh
  · rename_i hl
    have gp : 0 < (s.g : Int) := by omega
    have : 0 < (s.g : Int) * s.prim.hd := by grind
    exact Int.pos_of_mul_pos_left (by rw [Int.mul_comm]; exact this) gp
  · have gp : 0 < (s.g : Int) := by omega
    have : 0 < (s.g : Int) * s.prim.hd := by omega
    exact Int.pos_of_mul_pos_left (by rw [Int.mul_comm]; exact this) gp
theorem isP_cop {p : Int} (hp : IsP p) {c : Int} (h : ¬ p ∣ c) : Nat.Coprime c.natAbs p.natAbs := by
  have d1 := Nat.gcd_dvd_right c.natAbs p.natAbs
  have d2 := Nat.gcd_dvd_left c.natAbs p.natAbs
  have key : Nat.gcd c.natAbs p.natAbs = 1 ∨ Nat.gcd c.natAbs p.natAbs = p.natAbs := by
    generalize Nat.gcd c.natAbs p.natAbs = g at d1 d2 ⊢
    have q : ∀ n : Nat, g ∣ n → 0 < n → (List.range (n + 1)).all (fun g => n % g != 0 || (g == 1 || g == n)) = true → g = 1 ∨ g = n := fun n hd hn ha => by
      have := List.all_eq_true.mp ha g (List.mem_range.mpr (Nat.lt_succ_of_le (Nat.le_of_dvd hn hd)))
      rw [Nat.mod_eq_zero_of_dvd hd] at this
      simpa using this
    rcases hp with rfl | rfl | rfl | rfl <;> exact q _ d1 (by decide) (by decide)
  rcases key with k | k
  · exact k
  · rw [k] at d2
    exact absurd (Int.natAbs_dvd_natAbs.mp d2) h
theorem four_dv {p : Int} (hp : IsP p) {n x : Int} (hn : n = 1 ∨ n = 2 ∨ n = 4) (h : p ∣ n * x) : p ∣ x := by
  rcases hp with rfl | rfl | rfl | rfl <;> rcases hn with rfl | rfl | rfl <;> omega
theorem Mat.Dv.sm {p n : Int} {m : Mat} (hp : IsP p) (hn : n = 1 ∨ n = 2 ∨ n = 4) (h : (m.sm n).Dv p) : m.Dv p := by
  obtain ⟨h1, h2, h3, h4, h5, h6, h7, h8, h9⟩ := h
  exact ⟨four_dv hp hn h1, four_dv hp hn h2, four_dv hp hn h3, four_dv hp hn h4, four_dv hp hn h5, four_dv hp hn h6, four_dv hp hn h7, four_dv hp hn h8, four_dv hp hn h9⟩
theorem Mat.Dv.of_sm {p c : Int} {m : Mat} (h : p ∣ c) : (m.sm c).Dv p := ⟨Int.dvd_mul_of_dvd_left h, Int.dvd_mul_of_dvd_left h, Int.dvd_mul_of_dvd_left h, Int.dvd_mul_of_dvd_left h, Int.dvd_mul_of_dvd_left h, Int.dvd_mul_of_dvd_left h, Int.dvd_mul_of_dvd_left h, Int.dvd_mul_of_dvd_left h, Int.dvd_mul_of_dvd_left h⟩
theorem spin_good {p : Int} (hp : IsP p) {w : List Nat} (hw : Lw p w) (hr : Rdc p w) {q : Nat} (hq : q < 24) :
    0 < (full p w q).prim.hd ∧ ((full p w q).prim.norm = p ^ w.length ∨ (full p w q).prim.norm = 2 * p ^ w.length ∨ (full p w q).prim.norm = 4 * p ^ w.length) ∧ (full p w q).prim.tab.sm (p ^ w.length) = ((wm p w).mul (qt q)).sm (full p w q).prim.norm := by
  obtain ⟨e, s0, h0⟩ := prim_sm (full_hd hp hw hq)
  have nm := full_norm hp hw (q := q)
  have tb := full_tab (p := p) (w := w) hq
  obtain ⟨n3, _⟩ := sq_n hq
  generalize (full p w q).prim = t at *
  generalize (full p w q).sg = c at *
  rw [e] at nm tb
  rw [norm_sm] at nm
  rw [tab_sm] at tb
  generalize (sq q).norm = n at *
  have c2 : c * c ≠ 0 := Int.mul_ne_zero s0 s0
  refine ⟨h0, ?_, ?_⟩
  · -- the size
    have cd : c.natAbs * c.natAbs ∣ n.natAbs := by
      have d0 : c.natAbs * c.natAbs ∣ p.natAbs ^ w.length * n.natAbs := by
        have : (c * c * t.norm).natAbs = (p ^ w.length * n).natAbs := by rw [nm]
        rw [Int.natAbs_mul, Int.natAbs_mul, Int.natAbs_mul, Int.natAbs_pow] at this
        exact ⟨_, this.symm⟩
      by_cases hn : w = []
      · subst hn
        simpa using d0
      · have nd : ¬ p ∣ c := fun z => by
          have : (t.tab.sm (c * c)).Dv p := Mat.Dv.of_sm (Int.dvd_mul_of_dvd_left z)
          rw [tb] at this
          exact due_nd hp hw hr hn q (this.sm hp n3)
        have cp := isP_cop hp nd
        have cp2 : Nat.Coprime (c.natAbs * c.natAbs) (p.natAbs ^ w.length) := Nat.Coprime.pow_right _ (Nat.Coprime.mul_left cp cp)
        exact cp2.dvd_of_dvd_mul_left d0
    have np : 0 < n.natAbs := by rcases n3 with rfl | rfl | rfl <;> decide
    have n4 : n.natAbs ≤ 4 := by rcases n3 with rfl | rfl | rfl <;> decide
    have le := Nat.le_of_dvd np cd
    have c3 : c.natAbs = 1 ∨ c.natAbs = 2 := by
      have h1 : c.natAbs ≠ 0 := by omega
      have h2 : c.natAbs < 3 := by
        apply Nat.lt_of_not_le
        intro h3
        have := Nat.mul_le_mul h3 h3
        omega
      omega
    have cc : c * c = (c.natAbs * c.natAbs : Nat) := Int.natAbs_mul_self.symm
    generalize p ^ w.length = z at *
    rcases c3 with c3 | c3 <;> rw [c3] at cc cd <;> rw [cc] at nm <;> rcases n3 with rfl | rfl | rfl <;> first | omega | (exfalso; revert cd; decide)
  · apply sm_can c2
    rw [sm_sm, sm_sm]
    have h1 : t.tab.sm (c * c * p ^ w.length) = (t.tab.sm (c * c)).sm (p ^ w.length) := by rw [sm_sm, Int.mul_comm]
    rw [h1, tb, sm_sm, nm]

end MV.X

set_option maxRecDepth 100000
set_option maxHeartbeats 4000000
namespace MV.X
open MV
open PySem (Str Operator)
/-! the law's small defs -/
theorem isP_bd {p : Int} (hp : IsP p) : MV.Bd 5 p := by
  rcases hp with rfl | rfl | rfl | rfl <;> (unfold MV.Bd; decide)
theorem pow_bd {p : Int} (hp : IsP p) : ∀ k : Nat, MV.Bd (5 * k + 1) (p ^ k)
  | 0 => by
    rw [Int.pow_zero]
    unfold MV.Bd
    decide
  | k + 1 => by
    rw [Int.pow_succ]
    exact ((pow_bd hp k).mul (isP_bd hp)).le (by omega)
theorem pw_loop {p : Int} (hp : IsP p) {o : Orc} {x1 : Option MV.D} {h : HH} : ∀ (L : List MV.D) (k : Nat) (x : Option MV.D), k + L.length < 1000 → ∃ x', loopL (lf P o (.t_n 3) (lpB b__law_power)) L [some (.int p), x1, some (.int (p ^ k)), x] h = .nx [some (.int p), x1, some (.int (p ^ (k + L.length))), x'] h
  | [], k, x, _ => ⟨x, rfl⟩
  | d :: L, k, x, hl => by
    rw [List.length_cons] at hl
    obtain ⟨x', ih⟩ := pw_loop hp (o := o) (x1 := x1) (h := h) L (k + 1) (some d) (by omega)
    refine ⟨x', ?_⟩
    rw [List.length_cons, show k + (L.length + 1) = k + 1 + L.length by omega, ← ih, loopL_cons]
    have mo : mulOk (p ^ k) p = true := (pow_bd hp k).ok (isP_bd hp) (by omega)
    simp [lpB, b__law_power, mo, Int.pow_succ]
theorem pw_call {p : Int} (hp : IsP p) {k n : Nat} (hk : k < 900) (hn : 1 ≤ n) (h : HH) : callN P n i__law_power [.int p, .int (k : Nat)] h = .ok (.val (.int (p ^ k))) h := by
  refine Ans.call (k := 0) ?_ rfl hn
  obtain ⟨x', e⟩ := pw_loop hp (o := callN P 0) (x1 := some (.int (k : Nat))) (h := []) (rangeL 0 (k : Nat)) 0 none (by rw [range_len]; omega)
  rw [range_len, Int.pow_zero, Nat.zero_add] at e
  simp only [lpB, b__law_power] at e
  refine ans_of fn__law_power rfl rfl (d := .int (p ^ k)) (h1 := []) ?_ rfl
  have sm : smallI (k : Int) = true := small_nat (by omega)
  simp [F__law_power, b__law_power, startE, sm, e]
theorem nm_call {s : Sp} {k : Nat} (hs : s.Bd k) (hk : k + k < 900000) {n : Nat} (hn : 1 ≤ n) (h : HH) : callN P n i__law_norm [s.D] h = .ok (.val (.int s.norm)) h := by
  refine Ans.call (k := 0) ?_ rfl hn
  obtain ⟨h1, h2, h3, h4⟩ := hs
  have m : ∀ {i : Int}, MV.Bd k i → mulOk i i = true := fun a => a.ok a (by omega)
  refine ans_of fn__law_norm rfl rfl (d := .int s.norm) (h1 := []) ?_ rfl
  have e : s.a * s.a + (s.b * s.b + (s.c * s.c + s.d * s.d)) = s.norm := by unfold Sp.norm; omega
  simp [F__law_norm, b__law_norm, startE, Sp.D, compL_cons, m, h1, h2, h3, h4, e]
theorem sm_rows (m : Mat) (c : Int) : (m.sm c).rows = [.tup [.int (m.a * c), .int (m.b * c), .int (m.c * c)], .tup [.int (m.d * c), .int (m.e * c), .int (m.f * c)], .tup [.int (m.g * c), .int (m.h * c), .int (m.i * c)]] := by
  unfold Mat.sm Mat.rows
  simp only [Int.mul_comm]
theorem sc_call {m : Mat} {k j : Nat} {c : Int} (hm : m.Bd k) (hc : MV.Bd j c) (hk : k + j < 900000) {n : Nat} (hn : 1 ≤ n) (h : HH) : callN P n i__law_scaled [.lst m.rows, .int c] h = .ok (.newl (m.sm c).rows) h := by
  refine Ans.call (k := 0) ?_ rfl hn
  rw [sm_rows]
  obtain ⟨h1, h2, h3, h4, h5, h6, h7, h8, h9⟩ := hm
  have q : ∀ {i : Int}, MV.Bd k i → mulOk i c = true := fun a => a.ok hc (by omega)
  refine ans_of fn__law_scaled rfl rfl (d := .ref 0) (h1 := [.lst [.tup [.int (m.a * c), .int (m.b * c), .int (m.c * c)], .tup [.int (m.d * c), .int (m.e * c), .int (m.f * c)], .tup [.int (m.g * c), .int (m.h * c), .int (m.i * c)]]]) ?_ rfl
  simp [F__law_scaled, b__law_scaled, startE, Mat.rows, compL_cons, q, h1, h2, h3, h4, h5, h6, h7, h8, h9]
theorem eq_rows (m : Mat) (h : HH) : eqD (.lst m.rows) (.lst m.rows) h = some true := by
  unfold eqD
  have s : shown (.lst m.rows) h = .lst m.rows := rfl
  rw [s]
  have c1 : D.cmp 60 (.lst m.rows) = true := rfl
  rw [c1]
  show some (D.eqv (.lst m.rows) (.lst m.rows)) = _
  simp [Mat.rows, D.eqv, D.eqvs]
theorem eq_tnil {w : List Nat} {h : HH} : eqD (.tup (ln w)) (.tup []) h = some w.isEmpty := by
  unfold eqD
  have s : shown (.tup (ln w)) h = .tup (ln w) := rfl
  rw [s]
  have c1 : D.cmp 60 (.tup (ln w)) = true := by
    simp only [D.cmp]
    exact cmps_ln 59 w
  rw [c1]
  show some (D.eqv (.tup (ln w)) (.tup [])) = _
  simp only [D.eqv, eqvs_nil]
  cases w <;> rfl
theorem in3 {a b c d : Int} {h : HH} : inD (.int a) (.tup [.int b, .int c, .int d]) h = some (b == a || (c == a || d == a)) := by
  unfold inD
  have e : dctOf (.tup [.int b, .int c, .int d]) h = none := rfl
  rw [e]
  dsimp only
  rw [seq_tup]
  show some _ = _
  simp [D.eqv]
theorem row_sim (a b c : Int) : Sim 1 (.tup [.int a, .int b, .int c]) (.tup [.int a, .int b, .int c]) := .seq (xs := [.int a, .int b, .int c]) (ys := [.int a, .int b, .int c]) (.inl ⟨.inl rfl, .inl rfl⟩) (.cons rfl rfl (.int 0 a) (.cons rfl rfl (.int 0 b) (.cons rfl rfl (.int 0 c) (.nil 0)))) (show 3 ≤ line by decide)
theorem rows_simL (m : Mat) : SimL 1 m.rows m.rows := .cons rfl rfl (row_sim ..) (.cons rfl rfl (row_sim ..) (.cons rfl rfl (row_sim ..) (.nil 1)))
theorem same_b (m : Mat) : Sim 2 (.bor m.rows) (.lst m.rows) := .seq (xs := m.rows) (ys := m.rows) (.inr ⟨.inr rfl, .inl rfl⟩) (rows_simL m) (show 3 ≤ line by decide)
theorem same_l (m : Mat) : Sim 2 (.lst m.rows) (.lst m.rows) := .seq (xs := m.rows) (ys := m.rows) (.inr ⟨.inl rfl, .inl rfl⟩) (rows_simL m) (show 3 ≤ line by decide)
theorem same_ref {m : Mat} {k n : Nat} {h : HH} (e : h[k]? = some (.lst m.rows)) (hn : 4 ≤ n) : callN P n i__law_same [.ref k, .lst m.rows] h = .ok (.val (.bl true)) h := (same_ans (same_b m)).call (lends2 (lend_ref e rfl) (lend_lst rfl)) hn
theorem same_lst {m : Mat} {n : Nat} {h : HH} (hn : 4 ≤ n) : callN P n i__law_same [.lst m.rows, .lst m.rows] h = .ok (.val (.bl true)) h := (same_ans (same_l m)).call (lends2 (lend_lst rfl) (lend_lst rfl)) hn
/-- the entries' test -/
def ents (m : Mat) : List Int := [m.a, m.b, m.c, m.d, m.e, m.f, m.g, m.h, m.i]
theorem ents_all {p : Int} (hp : IsP p) {m : Mat} (h : ¬ m.Dv p) : ((ents m).map fun i => decide (i.fmod p = 0)).all id = false := by
  have h2 := isP_2 hp
  have q : ∀ i : Int, decide (i.fmod p = 0) = true → p ∣ i := fun i e => by
    have e := of_decide_eq_true e
    rw [Int.fmod_eq_emod_of_nonneg _ (by omega)] at e
    exact Int.dvd_of_emod_eq_zero e
  rw [Bool.eq_false_iff]
  intro z
  apply h
  simp only [ents, List.map_cons, List.map_nil, List.all_cons, List.all_nil, id, Bool.and_true, Bool.and_eq_true] at z
  obtain ⟨a1, a2, a3, a4, a5, a6, a7, a8, a9⟩ := z
  exact ⟨q _ a1, q _ a2, q _ a3, q _ a4, q _ a5, q _ a6, q _ a7, q _ a8, q _ a9⟩
theorem mj0 {p : Int} {w : List Nat} {q : Nat} {h : HH} : methJ [(0, 7)] 0 (insOf (pose p w q) h) = some 7 := (rfl)
theorem mj1 {p : Int} {w : List Nat} {q : Nat} {h : HH} : methJ [(0, 9)] 1 (insOf (pose p w q) h) = some 9 := (rfl)
theorem row_at0 {W : Wds} {m : Mat} {h : HH} : itemD W (.lst m.rows) (.int 0) h = some (.tup [.int m.a, .int m.b, .int m.c]) := (rfl)
theorem row_at1 {W : Wds} {m : Mat} {h : HH} : itemD W (.lst m.rows) (.int 1) h = some (.tup [.int m.d, .int m.e, .int m.f]) := (rfl)
theorem row_at2 {W : Wds} {m : Mat} {h : HH} : itemD W (.lst m.rows) (.int 2) h = some (.tup [.int m.g, .int m.h, .int m.i]) := (rfl)
theorem prim_bd {s : Sp} {k : Nat} (h : s.Bd k) (hd : s.hd ≠ 0) : s.prim.Bd k := by
  obtain ⟨e, s0, _⟩ := prim_sm hd
  have q : ∀ x : Int, MV.Bd k (s.sg * x) → MV.Bd k x := fun x b => by
    unfold MV.Bd at b ⊢
    rw [Int.natAbs_mul] at b
    have : 1 ≤ s.sg.natAbs := by omega
    exact Nat.lt_of_le_of_lt (by simpa using Nat.mul_le_mul_right x.natAbs this) b
  rw [e] at h
  exact ⟨q _ h.1, q _ h.2.1, q _ h.2.2.1, q _ h.2.2.2⟩
theorem norm_bd {s : Sp} {k : Nat} (h : s.Bd k) : MV.Bd (k + k + 3) s.norm := (((h.1.mul h.1).add (h.2.1.mul h.2.1)).add ((h.2.2.1.mul h.2.2.1).le (by omega))).add ((h.2.2.2.mul h.2.2.2).le (by omega))
theorem mkT_6 {a b c d e f : MV.D} {h : HH} : mkT [a, b, c, d, e, f] h = .ok (.tup [a, b, c, d, e, f]) h := (rfl)
theorem mkT_9 {a b c d e f g i j : MV.D} {h : HH} : mkT [a, b, c, d, e, f, g, i, j] h = .ok (.tup [a, b, c, d, e, f, g, i, j]) h := (rfl)
theorem mkL_9 {a b c d e f g i j : MV.D} {h : HH} : mkL false [a, b, c, d, e, f, g, i, j] h = .ok (.lst [a, b, c, d, e, f, g, i, j]) h := (rfl)

end MV.X

set_option maxRecDepth 100000
set_option maxHeartbeats 4000000
namespace MV.X
open MV
open PySem (Str Operator)
/-! the law -/
theorem law_turn {m : Nat} (hm : 30 ≤ m) {n c : Nat} {h : HH} (bg : BagAt h n c) (hc : c < 2 ^ 58) {x0 x2 x3 x4 x5 x6 x7 x8 x9 x10 : Option MV.D} (t : MV.D) :
    ∃ (y2 y3 y4 y5 y6 y7 y8 y9 y10 : Option MV.D) (h' : HH), lf P (callN P m) (.t_n 2) (lpB b_law) t [x0, some (.ref n), x2, x3, x4, x5, x6, x7, x8, x9, x10] h = .nx [x0, some (.ref n), y2, y3, y4, y5, y6, y7, y8, y9, y10] h' ∧ BagAt h' n (c + 20) := by
  obtain ⟨p, h1, f1, hp, bg1, _, _⟩ := prime_call (m := m) (by omega) bg (by omega)
  have f2 := hall_call hp (k := m) (by omega) h1
  have bg2 := (bg1.app [.dct [] []]).app [.dct [] []]
  generalize hall_e : hall p h1.length (h1.length + 1) = hl at f2
  have hh0 : ∀ (W : Wds) (H : HH), itemD W hl (.int 0) H = some (.int p) := by
    intro W H
    rw [← hall_e]
    rfl
  obtain ⟨w, q, h3, f3, hw, hr, hlen, hq, bg3, _⟩ := drawn_call hp (most := 10) (by decide) (m := m) (by omega) bg2 (by omega) (a := h1.length) (b := h1.length + 1)
  rw [hall_e] at f3
  rw [show ((10 : Nat) : Int) = 10 from rfl] at f3
  generalize h1 ++ [.dct [] []] ++ [.dct [] []] = h2 at f2 f3 bg2
  have f4 : ∀ H, callN P m i__law_made [hl, mdl w q] H = .ok (.val (pose p w q)) H := fun H => by rw [← hall_e]; exact made_call hp hw hr (by omega) hq (by omega) H
  have f5 : ∀ H, callN P m i__law_rows [hl, mdl w q] H = .ok (.val (.lst ((wm p w).mul (qt q)).rows)) H := fun H => by rw [← hall_e]; exact lrows_call hp hw (by omega) hq (by omega) H
  have f6 : ∀ H, callN P m i_Pose_matrix [pose p w q] H = .ok (.newl ((wm p w).mul (qt q)).rows) H := fun H => mat_call hp hw (by omega) hq (by omega) H
  have f7 : callN P m i__law_same [.ref h3.length, .lst ((wm p w).mul (qt q)).rows] (h3 ++ [.lst ((wm p w).mul (qt q)).rows]) = .ok (.val (.bl true)) (h3 ++ [.lst ((wm p w).mul (qt q)).rows]) := same_ref (by simp) (by omega)
  have f8 : ∀ H, callN P m i__law_same [.lst ((wm p w).mul (qt q)).rows, .lst ((wm p w).mul (qt q)).rows] H = .ok (.val (.bl true)) H := fun H => same_lst (by omega)
  have f9 : ∀ H, callN P m i_Pose_spin [pose p w q] H = .ok (.val (.tup (es4 (full p w q).prim))) H := fun H => spin_call hp hw (by omega) hq (full_hd hp hw hq) (by omega) H
  have f10 : ∀ H, callN P m i__law_power [.int p, .int (w.length : Nat)] H = .ok (.val (.int (p ^ w.length))) H := fun H => pw_call hp (by omega) (by omega) H
  have fb := full_bd hp w q
  have tb : (full p w q).prim.Bd 100 := (prim_bd fb (full_hd hp hw hq)).le (by omega)
  obtain ⟨hpos, hnorm, heq⟩ := spin_good hp hw hr hq
  have ht0 : (full p w q).prim.hd ≠ 0 := by omega
  have f11 : ∀ H, callN P m i__law_norm [.tup (es4 (full p w q).prim)] H = .ok (.val (.int (full p w q).prim.norm)) H := fun H => nm_call tb (by decide) (by omega) H
  have f12 : ∀ H, callN P m i__law_table [.tup (es4 (full p w q).prim)] H = .ok (.newl (full p w q).prim.tab.rows) H := fun H => ltable_call tb (by decide) (by omega)
  have f13 : ∀ H, callN P m i__law_scaled [.lst (full p w q).prim.tab.rows, .int (p ^ w.length)] H = .ok (.newl (((wm p w).mul (qt q)).sm (full p w q).prim.norm).rows) H := fun H => by rw [← heq]; exact sc_call tb.tab (pow_bd hp w.length) (by omega) (by omega) H
  have f14 : ∀ H, callN P m i__law_scaled [.lst ((wm p w).mul (qt q)).rows, .int (full p w q).prim.norm] H = .ok (.newl (((wm p w).mul (qt q)).sm (full p w q).prim.norm).rows) H := fun H => sc_call ((wmf_bd hp one_bd).mul (qt_bd q)) (norm_bd tb) (by omega) (by omega) H
  have hk9 : ∃ k, ((wm p w).mul (qt q)) = k := ⟨_, rfl⟩
  have dnd : w ≠ [] → ¬ ((wm p w).mul (qt q)).Dv p := fun hn => due_nd hp hw hr hn q
  generalize (wm p w).mul (qt q) = M at *
  generalize (full p w q).prim = T at *
  have m0 : ∀ H, itemD P.wd (mdl w q) (.int 0) H = some (.tup (ln w)) := fun _ => rfl
  have bg5 : BagAt (List.set (h3 ++ [O.lst M.rows]) h3.length (O.lst [])) n (c + 20) := by
    have := bg3.lt
    obtain ⟨cells, i, big, salt, cnt, e, r1, r2, r3, r4, r5, r6⟩ := bg3.app [O.lst M.rows]
    exact ⟨cells, i, big, salt, cnt, by rw [List.getElem?_set_ne (by omega)]; exact e, r1, r2, r3, r4, r5, by omega⟩
  have z2 : ∀ H, inD (.int T.norm) (.tup [.int (p ^ w.length), .int (2 * p ^ w.length), .int (4 * p ^ w.length)]) H = some true := fun H => by
    rw [in3]
    rcases hnorm with e | e | e <;> rw [e] <;> simp
  have mo2 : mulOk 2 (p ^ w.length) = true := bd2.ok (pow_bd hp w.length) (by omega)
  have mo4 : mulOk 4 (p ^ w.length) = true := MV.Bd.ok (k := 3) (show (4 : Int).natAbs < 2 ^ 3 by decide) (pow_bd hp w.length) (by omega)
  have p0 : ((p : Int) != 0) = true := by have := isP_2 hp; simp; omega
  have g1 : ∀ (a0 a1 a2 a3 a4 a5 a6 a7 a8 a9 : Option MV.D) (H : HH), compL (cf P (callN P m) (E.t_n 10) ((E.cmp PySem.CmpOp.NotEq (E.v 10) (E.c (D.int 0))).cons E.nil) (E.v 10) [a0, a1, a2, a3, a4, a5, a6, a7, a8, a9, none]) (es4 T) H = .ok T.nz H := fun a0 a1 a2 a3 a4 a5 a6 a7 a8 a9 H => nz_comp (fun i => by by_cases h0 : i = 0 <;> simp [h0]) [T.a, T.b, T.c, T.d]
  have g2 : ∀ (a0 a1 a2 a3 a4 a5 a6 a7 a8 a9 : Option MV.D) (H : HH), compL (cf P (callN P m) (E.t_n 10) E.nil (((E.v 10).isi [.int]).band ((((E.v 10).isi [.bool]).bnot).b1)) [a0, a1, a2, a3, a4, a5, a6, a7, a8, a9, none]) (es4 T) H = .ok [.bl true, .bl true, .bl true, .bl true] H := fun a0 a1 a2 a3 a4 a5 a6 a7 a8 a9 H => by
    simp [es4, compL_cons, ty_int, tyIs]
  have g3 : (es4 T).length = 4 := rfl
  have g4 : ¬ T.hd < 0 := by omega
  have g5 : ∀ (W : Wds) (H : HH), itemD W (.lst T.nz) (.int 0) H = some (.int T.hd) := fun W H => nz_0 ht0
  refine ⟨some t, some hl, some (mdl w q), some (pose p w q), some (.lst M.rows), some (.ref h3.length), some (.tup (es4 T)), some (.int (p ^ w.length)), x10, _, ?_, bg5⟩
  by_cases hn : w = []
  · have en : w.isEmpty = true := by simpa using hn
    simp [lpB, b_law, f1, f2, f3, f4, f5, f6, f7, f8, f9, f10, f11, f12, f13, f14, mj0, mj1, m0, eq_tnil, en, ↓row_at0, ↓row_at1, ↓row_at2, mkT_6, mkT_9, mkL_9, hh0, p0, compL_cons, clear_def, mo2, mo4, z2, eq_rows, g1, g2, g3, g4, g5, ty_tup, tyIs, mkL_f (nz_len T)]
  · have en : w.isEmpty = false := by simpa using hn
    have al := ents_all hp (dnd hn)
    simp only [ents, List.map_cons, List.map_nil] at al
    simp [lpB, b_law, f1, f2, f3, f4, f5, f6, f7, f8, f9, f10, f11, f12, f13, f14, mj0, mj1, m0, eq_tnil, en, ↓row_at0, ↓row_at1, ↓row_at2, al, mkT_6, mkT_9, mkL_9, hh0, p0, compL_cons, clear_def, mo2, mo4, z2, eq_rows, g1, g2, g3, g4, g5, ty_tup, tyIs, mkL_f (nz_len T)]
theorem law_loop {m : Nat} (hm : 30 ≤ m) {n : Nat} {x0 : Option MV.D} : ∀ (L : List MV.D) (c : Nat) (h : HH) (x2 x3 x4 x5 x6 x7 x8 x9 x10 : Option MV.D), BagAt h n c → c + 20 * L.length < 2 ^ 58 →
    ∃ (y2 y3 y4 y5 y6 y7 y8 y9 y10 : Option MV.D) (h' : HH), loopL (lf P (callN P m) (.t_n 2) (lpB b_law)) L [x0, some (.ref n), x2, x3, x4, x5, x6, x7, x8, x9, x10] h = .nx [x0, some (.ref n), y2, y3, y4, y5, y6, y7, y8, y9, y10] h'
  | [], _, h, x2, x3, x4, x5, x6, x7, x8, x9, x10, _, _ => ⟨x2, x3, x4, x5, x6, x7, x8, x9, x10, h, rfl⟩
  | t :: L, c, h, x2, x3, x4, x5, x6, x7, x8, x9, x10, bg, hc => by
    rw [List.length_cons] at hc
    obtain ⟨y2, y3, y4, y5, y6, y7, y8, y9, y10, h1, e1, bg1⟩ := law_turn hm bg (by omega) (x0 := x0) (x2 := x2) (x3 := x3) (x4 := x4) (x5 := x5) (x6 := x6) (x7 := x7) (x8 := x8) (x9 := x9) (x10 := x10) t
    obtain ⟨z2, z3, z4, z5, z6, z7, z8, z9, z10, h2, e2⟩ := law_loop hm L (c + 20) h1 y2 y3 y4 y5 y6 y7 y8 y9 y10 bg1 (by omega)
    refine ⟨z2, z3, z4, z5, z6, z7, z8, z9, z10, h2, ?_⟩
    rw [loopL_cons, e1, tn_nx, e2]
def Mx : Mat := ⟨5, 0, 0, 0, -3, -4, 0, 4, -3⟩
def T0x : Sp := ⟨1, 2, 0, 0⟩
theorem Mx_e : (wm 5 [5]).mul (qt 23) = Mx := by kernel_rfl
theorem T0x_e : (full 5 [5] 23).prim = T0x := by kernel_rfl
theorem Tx_h : (full 5 [5] 23).hd ≠ 0 := by decide
theorem lw5 : Lw 5 [5] := fun x hx => by
  rw [List.mem_singleton.mp hx]
  decide
theorem main (ns : List Int) (hl : ns.length ≤ 63) : ∃ h', MV.body P (MV.callN P 40) F_law [.bor (ns.map .int)] [] = .ok (.bl true) h' := by
  obtain ⟨bo, e0, bg⟩ := bag_call (k := 40) (by decide) hl []
  obtain ⟨y2, y3, y4, y5, y6, y7, y8, y9, y10, h', e1⟩ := law_loop (m := 40) (by decide) (x0 := some (.bor (ns.map .int))) (n := 0) (rangeL 0 5) 0 [.lst bo] none none none none none none none none none bg (by decide)
  simp only [lpB, b_law] at e1
  have hp : IsP 5 := .inl rfl
  have t0 : ∀ H, callN P 40 i_Pose___init__ [.int 5, .lst [.int 5], .int 23] H = .ok (.val (pose 5 [5] 23)) H := fun H => pose_call hp lw5 (by decide) (q := 23) (by decide) (x := .lst (ln [5])) (.inr rfl) (by decide) H
  have t1 : ∀ H, callN P 40 i_Pose_matrix [pose 5 [5] 23] H = .ok (.newl Mx.rows) H := fun H => by
    rw [← Mx_e]
    exact mat_call hp lw5 (by decide) (by decide) (by decide) H
  have t2 : ∀ H, callN P 40 i_Pose_spin [pose 5 [5] 23] H = .ok (.val (.tup [.int 1, .int 2, .int 0, .int 0])) H := fun H => by
    rw [show MV.D.tup [.int 1, .int 2, .int 0, .int 0] = T0x.D from rfl, ← T0x_e]
    exact spin_call hp lw5 (by decide) (by decide) Tx_h (by decide) H
  have sm : Sim 3 (.lst [.lst Mx.rows, .tup [.int 1, .int 2, .int 0, .int 0]]) (.lst [.lst Mx.rows, .tup [.int 1, .int 2, .int 0, .int 0]]) := .seq (.inr ⟨.inl rfl, .inl rfl⟩) (.cons rfl rfl (same_l Mx) (.cons rfl rfl (.seq (.inl ⟨.inl rfl, .inl rfl⟩) (.cons rfl rfl (.int 1 1) (.cons rfl rfl (.int 1 2) (.cons rfl rfl (.int 1 0) (.cons rfl rfl (.int 1 0) (.nil 1))))) (show 4 ≤ line by decide)) (.nil 2))) (show 2 ≤ line by decide)
  have t3 : ∀ H, callN P 40 i__law_same [.lst [.lst Mx.rows, .tup [.int 1, .int 2, .int 0, .int 0]], .lst [.lst Mx.rows, .tup [.int 1, .int 2, .int 0, .int 0]]] H = .ok (.val (.bl true)) H := fun H => (same_ans sm).call (lends2 (lend_lst rfl) (lend_lst rfl)) (by decide)
  have mr : [MV.D.tup [.int 5, .int 0, .int 0], .tup [.int 0, .int (-3), .int (-4)], .tup [.int 0, .int 4, .int (-3)]] = Mx.rows := rfl
  have mk3 : ∀ H, mkL false Mx.rows H = .ok (.lst Mx.rows) H := fun _ => rfl
  refine ⟨h', body_rt rfl ?_⟩
  have s5 : smallI 5 = true := (rfl)
  simp [F_law, b_law, startE, e0, s5, e1, t0, t1, t2, t3, mr, mk3, mj0, mj1]

end MV.X

set_option maxRecDepth 100000
set_option maxHeartbeats 4000000
/-! the text of the law, by gen.py -/
namespace MV.X
open PySem PySem.Spec PyProof.Rows L2 MV
def topS (i : Nat) : Stmt := PySem.Challenge.pw_peelpose_k08_matrices_of_poses.main.body.getD i (.Pass ⟨0, 0, 0, 0⟩)
def clsAt (s : Stmt) (j : Nat) : Stmt := match s with
  | .ClassDef _ _ _ b _ _ _ _ _ _ _ => b.getD j (.Pass ⟨0, 0, 0, 0⟩)
  | _ => .Pass ⟨0, 0, 0, 0⟩
def pgA (K : PySem.W.Frag) (C : Addr) (m : Str) : Addr := match PySem.W.findIn K (.ref C) m with
  | some (some (.ref p)) => (match PySem.W.recIn K p "property" with
    | some (.ref a :: _) => a
    | _ => 0)
  | _ => 0
def es : List FnE := [
  { adr := fun K => He.ga K "law", name := "law", qual := "law", params := defArgs (topS 63), bd := defBody (topS 63), scope := defScope (topS 63), N := ["_law_script", "_law_bag_here", "_law_turn", "_law_hall_here", "_law_model", "_law_pose_z", "_law_due", "_law_found_z", "_law_spin_z", "_law_size", "_law_entry"], ps := ["_law_script"], f := F_law },
  { adr := fun K => He.ga K "_law_bag", name := "_law_bag", qual := "_law_bag", params := defArgs (topS 45), bd := defBody (topS 45), scope := defScope (topS 45), N := ["_law_script", "_law_salt", "_law_cell"], ps := ["_law_script"], f := F__law_bag },
  { adr := fun K => He.ga K "_law_hall", name := "_law_hall", qual := "_law_hall", params := defArgs (topS 54), bd := defBody (topS 54), scope := defScope (topS 54), N := ["_law_p"], ps := ["_law_p"], f := F__law_hall },
  { adr := fun K => He.ga K "_law_prime", name := "_law_prime", qual := "_law_prime", params := defArgs (topS 62), bd := defBody (topS 62), scope := defScope (topS 62), N := ["_law_bag_here"], ps := ["_law_bag_here"], f := F__law_prime },
  { adr := fun K => He.ga K "_law_drawn", name := "_law_drawn", qual := "_law_drawn", params := defArgs (topS 57), bd := defBody (topS 57), scope := defScope (topS 57), N := ["_law_bag_here", "_law_hall_here", "_law_most_z", "_law_some", "_law_turn", "_law_k"], ps := ["_law_bag_here", "_law_hall_here", "_law_most_z"], f := F__law_drawn },
  { adr := fun K => He.ga K "_law_made", name := "_law_made", qual := "_law_made", params := defArgs (topS 58), bd := defBody (topS 58), scope := defScope (topS 58), N := ["_law_hall_here", "_law_model"], ps := ["_law_hall_here", "_law_model"], f := F__law_made },
  { adr := fun K => He.ga K "_law_rows", name := "_law_rows", qual := "_law_rows", params := defArgs (topS 59), bd := defBody (topS 59), scope := defScope (topS 59), N := ["_law_hall_here", "_law_model", "_law_found_z", "_law_letter_z"], ps := ["_law_hall_here", "_law_model"], f := F__law_rows },
  { adr := fun K => He.ma K (He.ga K "Pose") "matrix", name := "matrix", qual := "Pose.matrix", params := defArgs (clsAt (topS 43) 9), bd := defBody (clsAt (topS 43) 9), scope := defScope (clsAt (topS 43) 9), N := ["self", "rows", "letter"], ps := ["self"], f := F_Pose_matrix },
  { adr := fun K => He.ga K "_law_same", name := "_law_same", qual := "_law_same", params := defArgs (topS 48), bd := defBody (topS 48), scope := defScope (topS 48), N := ["_law_found_z", "_law_due", "_law_k"], ps := ["_law_found_z", "_law_due"], f := F__law_same },
  { adr := fun K => He.ma K (He.ga K "Pose") "spin", name := "spin", qual := "Pose.spin", params := defArgs (clsAt (topS 43) 10), bd := defBody (clsAt (topS 43) 10), scope := defScope (clsAt (topS 43) 10), N := ["self", "spins", "letter"], ps := ["self"], f := F_Pose_spin },
  { adr := fun K => He.ga K "_law_power", name := "_law_power", qual := "_law_power", params := defArgs (topS 61), bd := defBody (topS 61), scope := defScope (topS 61), N := ["_law_p", "_law_many_z", "_law_found_z", "_law_k"], ps := ["_law_p", "_law_many_z"], f := F__law_power },
  { adr := fun K => He.ga K "_law_norm", name := "_law_norm", qual := "_law_norm", params := defArgs (topS 49), bd := defBody (topS 49), scope := defScope (topS 49), N := ["_law_spin_z", "_law_entry"], ps := ["_law_spin_z"], f := F__law_norm },
  { adr := fun K => He.ga K "_law_scaled", name := "_law_scaled", qual := "_law_scaled", params := defArgs (topS 60), bd := defBody (topS 60), scope := defScope (topS 60), N := ["_law_rows_z", "_law_size", "_law_row_z", "_law_entry"], ps := ["_law_rows_z", "_law_size"], f := F__law_scaled },
  { adr := fun K => He.ga K "_law_table", name := "_law_table", qual := "_law_table", params := defArgs (topS 50), bd := defBody (topS 50), scope := defScope (topS 50), N := ["_law_spin_z", "_law_a", "_law_b", "_law_c", "_law_d"], ps := ["_law_spin_z"], f := F__law_table },
  { adr := fun K => He.ma K (He.ga K "Pose") "__init__", name := "__init__", qual := "Pose.__init__", params := defArgs (clsAt (topS 43) 0), bd := defBody (clsAt (topS 43) 0), scope := defScope (clsAt (topS 43) 0), dfl := [(.wtup [])], kwd := [("quarter", (.int 23))], N := ["self", "prime", "letters", "quarter", "letter"], ps := ["self", "prime", "letters", "quarter"], f := F_Pose___init__ },
  { adr := fun K => He.ga K "_law_letters", name := "_law_letters", qual := "_law_letters", params := defArgs (topS 52), bd := defBody (topS 52), scope := defScope (topS 52), N := ["_law_p", "_law_found_z", "_law_a", "_law_b", "_law_c", "_law_d"], ps := ["_law_p"], f := F__law_letters },
  { adr := fun K => He.ga K "_law_quarters", name := "_law_quarters", qual := "_law_quarters", params := defArgs (topS 53), bd := defBody (topS 53), scope := defScope (topS 53), N := ["_law_axes", "_law_found_z", "_law_a", "_law_b", "_law_c", "_law_d", "_law_e", "_law_f"], ps := [], f := F__law_quarters },
  { adr := fun K => He.ga K "_law_of", name := "_law_of", qual := "_law_of", params := defArgs (topS 47), bd := defBody (topS 47), scope := defScope (topS 47), N := ["_law_bag_here", "_law_some"], ps := ["_law_bag_here", "_law_some"], f := F__law_of },
  { adr := fun K => He.ga K "_law_pull", name := "_law_pull", qual := "_law_pull", params := defArgs (topS 46), bd := defBody (topS 46), scope := defScope (topS 46), N := ["_law_bag_here", "_law_sides_z", "_law_cell", "_law_got", "_law_seed"], ps := ["_law_bag_here", "_law_sides_z"], f := F__law_pull },
  { adr := fun K => He.ga K "_law_reduced", name := "_law_reduced", qual := "_law_reduced", params := defArgs (topS 56), bd := defBody (topS 56), scope := defScope (topS 56), N := ["_law_hall_here", "_law_word_z", "_law_found_z", "_law_letter_z"], ps := ["_law_hall_here", "_law_word_z"], f := F__law_reduced },
  { adr := fun K => He.ga K "_law_mult", name := "_law_mult", qual := "_law_mult", params := defArgs (topS 51), bd := defBody (topS 51), scope := defScope (topS 51), N := ["_law_one_z", "_law_other_z", "_law_found_z", "_law_row_z", "_law_at_z"], ps := ["_law_one_z", "_law_other_z"], f := F__law_mult },
  { adr := fun K => He.ga K "quarter_rows", name := "quarter_rows", qual := "quarter_rows", params := defArgs (topS 30), bd := defBody (topS 30), scope := defScope (topS 30), N := ["quarter", "axis"], ps := ["quarter"], f := F_quarter_rows },
  { adr := fun K => He.ga K "product_rows", name := "product_rows", qual := "product_rows", params := defArgs (topS 42), bd := defBody (topS 42), scope := defScope (topS 42), N := ["one", "other", "row", "at", "k"], ps := ["one", "other"], f := F_product_rows },
  { adr := fun K => He.ga K "table_of", name := "table_of", qual := "table_of", params := defArgs (topS 20), bd := defBody (topS 20), scope := defScope (topS 20), N := ["spin", "a", "b", "c", "d"], ps := ["spin"], f := F_table_of },
  { adr := fun K => He.ga K "primitive", name := "primitive", qual := "primitive", params := defArgs (topS 19), bd := defBody (topS 19), scope := defScope (topS 19), N := ["spin", "divisor", "entry"], ps := ["spin"], f := F_primitive },
  { adr := fun K => He.ga K "joined_spins", name := "joined_spins", qual := "joined_spins", params := defArgs (topS 38), bd := defBody (topS 38), scope := defScope (topS 38), N := ["spins", "found", "spin"], ps := ["spins"], f := F_joined_spins },
  { adr := fun K => He.ga K "quarter_spin", name := "quarter_spin", qual := "quarter_spin", params := defArgs (topS 37), bd := defBody (topS 37), scope := defScope (topS 37), N := ["quarter", "rows", "near", "size", "a", "b", "c", "d", "spin", "due", "row", "entry"], ps := ["quarter"], f := F_quarter_spin },
  { adr := fun K => He.ga K "check_prime", name := "check_prime", qual := "check_prime", params := defArgs (topS 13), bd := defBody (topS 13), scope := defScope (topS 13), N := ["prime"], ps := ["prime"], f := F_check_prime },
  { adr := fun K => He.ga K "check_quarter", name := "check_quarter", qual := "check_quarter", params := defArgs (topS 25), bd := defBody (topS 25), scope := defScope (topS 25), N := ["quarter"], ps := ["quarter"], f := F_check_quarter },
  { adr := fun K => He.ga K "joined", name := "joined", qual := "joined", params := defArgs (topS 41), bd := defBody (topS 41), scope := defScope (topS 41), N := ["prime", "word", "more", "found", "letter"], ps := ["prime", "word", "more"], f := F_joined },
  { adr := fun K => He.ga K "_law_undone", name := "_law_undone", qual := "_law_undone", params := defArgs (topS 55), bd := defBody (topS 55), scope := defScope (topS 55), N := ["_law_hall_here", "_law_letter_z", "_law_a", "_law_b", "_law_c", "_law_d"], ps := ["_law_hall_here", "_law_letter_z"], f := F__law_undone },
  { adr := fun K => He.ga K "sides", name := "sides", qual := "sides", params := defArgs (topS 28), bd := defBody (topS 28), scope := defScope (topS 28), N := ["quarter", "first", "second"], ps := ["quarter"], f := F_sides },
  { adr := fun K => He.ga K "common_divisor", name := "common_divisor", qual := "common_divisor", params := defArgs (topS 18), bd := defBody (topS 18), scope := defScope (topS 18), N := ["one", "other"], ps := ["one", "other"], f := F_common_divisor },
  { adr := fun K => He.ga K "multiply", name := "multiply", qual := "multiply", params := defArgs (topS 17), bd := defBody (topS 17), scope := defScope (topS 17), N := ["one", "other", "a", "b", "c", "d", "e", "f", "g", "h", "first"], ps := ["one", "other"], f := F_multiply },
  { adr := fun K => He.ga K "norm", name := "norm", qual := "norm", params := defArgs (topS 15), bd := defBody (topS 15), scope := defScope (topS 15), N := ["spin", "entry"], ps := ["spin"], f := F_norm },
  { adr := fun K => He.ga K "undone_letter", name := "undone_letter", qual := "undone_letter", params := defArgs (topS 14), bd := defBody (topS 14), scope := defScope (topS 14), N := ["prime", "letter"], ps := ["prime", "letter"], f := F_undone_letter },
  { adr := fun K => He.ga K "others_of", name := "others_of", qual := "others_of", params := defArgs (topS 26), bd := defBody (topS 26), scope := defScope (topS 26), N := ["axis", "other"], ps := ["axis"], f := F_others_of },
  { adr := fun K => He.ga K "cross", name := "cross", qual := "cross", params := defArgs (topS 27), bd := defBody (topS 27), scope := defScope (topS 27), N := ["one", "other", "a", "b", "c", "d", "e", "f"], ps := ["one", "other"], f := F_cross },
  { adr := fun K => He.ga K "opposite", name := "opposite", qual := "opposite", params := defArgs (topS 16), bd := defBody (topS 16), scope := defScope (topS 16), N := ["spin", "a", "b", "c", "d"], ps := ["spin"], f := F_opposite }
]
def ss : List ShE := [
  ⟨.glob, "law", 1, [], 0, [.a 0]⟩,
  ⟨.glob, "_law_bag", 1, [], 1, [.a 0]⟩,
  ⟨.glob, "_law_hall", 1, [], 2, [.a 0]⟩,
  ⟨.glob, "_law_prime", 1, [], 3, [.a 0]⟩,
  ⟨.glob, "_law_drawn", 3, [], 4, [.a 0, .a 1, .a 2]⟩,
  ⟨.glob, "_law_made", 2, [], 5, [.a 0, .a 1]⟩,
  ⟨.glob, "_law_rows", 2, [], 6, [.a 0, .a 1]⟩,
  ⟨(.meth 0), "matrix", 1, [], 7, [.a 0]⟩,
  ⟨.glob, "_law_same", 2, [], 8, [.a 0, .a 1]⟩,
  ⟨(.meth 0), "spin", 1, [], 9, [.a 0]⟩,
  ⟨.glob, "_law_power", 2, [], 10, [.a 0, .a 1]⟩,
  ⟨.glob, "_law_norm", 1, [], 11, [.a 0]⟩,
  ⟨.glob, "_law_scaled", 2, [], 12, [.a 0, .a 1]⟩,
  ⟨.glob, "_law_table", 1, [], 13, [.a 0]⟩,
  ⟨.glob, "Pose", 2, [], 14, [.a 0, .a 1, .kd 0]⟩,
  ⟨.glob, "_law_letters", 1, [], 15, [.a 0]⟩,
  ⟨.glob, "_law_quarters", 0, [], 16, []⟩,
  ⟨.glob, "_law_of", 2, [], 17, [.a 0, .a 1]⟩,
  ⟨.glob, "_law_pull", 2, [], 18, [.a 0, .a 1]⟩,
  ⟨.glob, "_law_reduced", 2, [], 19, [.a 0, .a 1]⟩,
  ⟨.glob, "Pose", 2, ["quarter"], 14, [.a 0, .a 1, .a 2]⟩,
  ⟨.glob, "_law_mult", 2, [], 20, [.a 0, .a 1]⟩,
  ⟨.glob, "quarter_rows", 1, [], 21, [.a 0]⟩,
  ⟨.glob, "product_rows", 2, [], 22, [.a 0, .a 1]⟩,
  ⟨.glob, "table_of", 1, [], 23, [.a 0]⟩,
  ⟨.glob, "primitive", 1, [], 24, [.a 0]⟩,
  ⟨.glob, "joined_spins", 1, [], 25, [.a 0]⟩,
  ⟨.glob, "quarter_spin", 1, [], 26, [.a 0]⟩,
  ⟨.glob, "check_prime", 1, [], 27, [.a 0]⟩,
  ⟨.glob, "check_quarter", 1, [], 28, [.a 0]⟩,
  ⟨.glob, "joined", 3, [], 29, [.a 0, .a 1, .a 2]⟩,
  ⟨.glob, "_law_undone", 2, [], 30, [.a 0, .a 1]⟩,
  ⟨.glob, "sides", 1, [], 31, [.a 0]⟩,
  ⟨.glob, "common_divisor", 2, [], 32, [.a 0, .a 1]⟩,
  ⟨.glob, "multiply", 2, [], 33, [.a 0, .a 1]⟩,
  ⟨.glob, "norm", 1, [], 34, [.a 0]⟩,
  ⟨.glob, "undone_letter", 2, [], 35, [.a 0, .a 1]⟩,
  ⟨.glob, "others_of", 1, [], 36, [.a 0]⟩,
  ⟨.glob, "cross", 2, [], 37, [.a 0, .a 1]⟩,
  ⟨.glob, "opposite", 1, [], 38, [.a 0]⟩
]
def T : Tx := { nm := ["matrix", "spin", "own_letters", "own_prime", "own_quarter"], gn := ["STILL", "LETTERS", "AXES", "ONE", "PRIMES", "QUARTERS"], cn := ["Pose"], wn := ["LETTERS"], sn := ss.map fun s => (s.sk, s.nm, s.n, s.ks) }
theorem bnd0 : ShE.bind es (ss.getD 0 ⟨.glob, "", 0, [], 0, []⟩) := bind_0 rfl rfl fun _ _ _ _ _ _ us ws h1 h2 => match us, ws, h1, h2 with | [_], [], _, _ => rfl
theorem bnd1 : ShE.bind es (ss.getD 1 ⟨.glob, "", 0, [], 0, []⟩) := bind_0 rfl rfl fun _ _ _ _ _ _ us ws h1 h2 => match us, ws, h1, h2 with | [_], [], _, _ => rfl
theorem bnd2 : ShE.bind es (ss.getD 2 ⟨.glob, "", 0, [], 0, []⟩) := bind_0 rfl rfl fun _ _ _ _ _ _ us ws h1 h2 => match us, ws, h1, h2 with | [_], [], _, _ => rfl
theorem bnd3 : ShE.bind es (ss.getD 3 ⟨.glob, "", 0, [], 0, []⟩) := bind_0 rfl rfl fun _ _ _ _ _ _ us ws h1 h2 => match us, ws, h1, h2 with | [_], [], _, _ => rfl
theorem bnd4 : ShE.bind es (ss.getD 4 ⟨.glob, "", 0, [], 0, []⟩) := bind_0 rfl rfl fun _ _ _ _ _ _ us ws h1 h2 => match us, ws, h1, h2 with | [_, _, _], [], _, _ => rfl
theorem bnd5 : ShE.bind es (ss.getD 5 ⟨.glob, "", 0, [], 0, []⟩) := bind_0 rfl rfl fun _ _ _ _ _ _ us ws h1 h2 => match us, ws, h1, h2 with | [_, _], [], _, _ => rfl
theorem bnd6 : ShE.bind es (ss.getD 6 ⟨.glob, "", 0, [], 0, []⟩) := bind_0 rfl rfl fun _ _ _ _ _ _ us ws h1 h2 => match us, ws, h1, h2 with | [_, _], [], _, _ => rfl
theorem bnd7 : ShE.bind es (ss.getD 7 ⟨.glob, "", 0, [], 0, []⟩) := bind_0 rfl rfl fun _ _ _ _ _ _ us ws h1 h2 => match us, ws, h1, h2 with | [_], [], _, _ => rfl
theorem bnd8 : ShE.bind es (ss.getD 8 ⟨.glob, "", 0, [], 0, []⟩) := bind_0 rfl rfl fun _ _ _ _ _ _ us ws h1 h2 => match us, ws, h1, h2 with | [_, _], [], _, _ => rfl
theorem bnd9 : ShE.bind es (ss.getD 9 ⟨.glob, "", 0, [], 0, []⟩) := bind_0 rfl rfl fun _ _ _ _ _ _ us ws h1 h2 => match us, ws, h1, h2 with | [_], [], _, _ => rfl
theorem bnd10 : ShE.bind es (ss.getD 10 ⟨.glob, "", 0, [], 0, []⟩) := bind_0 rfl rfl fun _ _ _ _ _ _ us ws h1 h2 => match us, ws, h1, h2 with | [_, _], [], _, _ => rfl
theorem bnd11 : ShE.bind es (ss.getD 11 ⟨.glob, "", 0, [], 0, []⟩) := bind_0 rfl rfl fun _ _ _ _ _ _ us ws h1 h2 => match us, ws, h1, h2 with | [_], [], _, _ => rfl
theorem bnd12 : ShE.bind es (ss.getD 12 ⟨.glob, "", 0, [], 0, []⟩) := bind_0 rfl rfl fun _ _ _ _ _ _ us ws h1 h2 => match us, ws, h1, h2 with | [_, _], [], _, _ => rfl
theorem bnd13 : ShE.bind es (ss.getD 13 ⟨.glob, "", 0, [], 0, []⟩) := bind_0 rfl rfl fun _ _ _ _ _ _ us ws h1 h2 => match us, ws, h1, h2 with | [_], [], _, _ => rfl
theorem bnd14 : ShE.bind es (ss.getD 14 ⟨.glob, "", 0, [], 0, []⟩) := bind_2 (List.cons_ne_nil _ _) (List.cons_ne_nil _ _) fun _ _ _ _ _ _ _ us its mv ws h1 h2 h3 h4 => match us, its, mv, ws, h1, h2, h3, h4 with | [_, _, _], [_], [_], [], _, _, _, _ => ⟨_, rfl, ⟨_, _, _, _, _, _, rfl, rfl, rfl⟩⟩
theorem bnd15 : ShE.bind es (ss.getD 15 ⟨.glob, "", 0, [], 0, []⟩) := bind_0 rfl rfl fun _ _ _ _ _ _ us ws h1 h2 => match us, ws, h1, h2 with | [_], [], _, _ => rfl
theorem bnd16 : ShE.bind es (ss.getD 16 ⟨.glob, "", 0, [], 0, []⟩) := bind_0 rfl rfl fun _ _ _ _ _ _ us ws h1 h2 => match us, ws, h1, h2 with | [], [], _, _ => rfl
theorem bnd17 : ShE.bind es (ss.getD 17 ⟨.glob, "", 0, [], 0, []⟩) := bind_0 rfl rfl fun _ _ _ _ _ _ us ws h1 h2 => match us, ws, h1, h2 with | [_, _], [], _, _ => rfl
theorem bnd18 : ShE.bind es (ss.getD 18 ⟨.glob, "", 0, [], 0, []⟩) := bind_0 rfl rfl fun _ _ _ _ _ _ us ws h1 h2 => match us, ws, h1, h2 with | [_, _], [], _, _ => rfl
theorem bnd19 : ShE.bind es (ss.getD 19 ⟨.glob, "", 0, [], 0, []⟩) := bind_0 rfl rfl fun _ _ _ _ _ _ us ws h1 h2 => match us, ws, h1, h2 with | [_, _], [], _, _ => rfl
theorem bnd20 : ShE.bind es (ss.getD 20 ⟨.glob, "", 0, [], 0, []⟩) := bind_3 (List.cons_ne_nil _ _) rfl fun _ _ _ _ _ _ _ us its ws h1 h2 h3 => match us, its, ws, h1, h2, h3 with | [_, _, _], [_], [_], _, _, _ => ⟨_, rfl, rfl⟩
theorem bnd21 : ShE.bind es (ss.getD 21 ⟨.glob, "", 0, [], 0, []⟩) := bind_0 rfl rfl fun _ _ _ _ _ _ us ws h1 h2 => match us, ws, h1, h2 with | [_, _], [], _, _ => rfl
theorem bnd22 : ShE.bind es (ss.getD 22 ⟨.glob, "", 0, [], 0, []⟩) := bind_0 rfl rfl fun _ _ _ _ _ _ us ws h1 h2 => match us, ws, h1, h2 with | [_], [], _, _ => rfl
theorem bnd23 : ShE.bind es (ss.getD 23 ⟨.glob, "", 0, [], 0, []⟩) := bind_0 rfl rfl fun _ _ _ _ _ _ us ws h1 h2 => match us, ws, h1, h2 with | [_, _], [], _, _ => rfl
theorem bnd24 : ShE.bind es (ss.getD 24 ⟨.glob, "", 0, [], 0, []⟩) := bind_0 rfl rfl fun _ _ _ _ _ _ us ws h1 h2 => match us, ws, h1, h2 with | [_], [], _, _ => rfl
theorem bnd25 : ShE.bind es (ss.getD 25 ⟨.glob, "", 0, [], 0, []⟩) := bind_0 rfl rfl fun _ _ _ _ _ _ us ws h1 h2 => match us, ws, h1, h2 with | [_], [], _, _ => rfl
theorem bnd26 : ShE.bind es (ss.getD 26 ⟨.glob, "", 0, [], 0, []⟩) := bind_0 rfl rfl fun _ _ _ _ _ _ us ws h1 h2 => match us, ws, h1, h2 with | [_], [], _, _ => rfl
theorem bnd27 : ShE.bind es (ss.getD 27 ⟨.glob, "", 0, [], 0, []⟩) := bind_0 rfl rfl fun _ _ _ _ _ _ us ws h1 h2 => match us, ws, h1, h2 with | [_], [], _, _ => rfl
theorem bnd28 : ShE.bind es (ss.getD 28 ⟨.glob, "", 0, [], 0, []⟩) := bind_0 rfl rfl fun _ _ _ _ _ _ us ws h1 h2 => match us, ws, h1, h2 with | [_], [], _, _ => rfl
theorem bnd29 : ShE.bind es (ss.getD 29 ⟨.glob, "", 0, [], 0, []⟩) := bind_0 rfl rfl fun _ _ _ _ _ _ us ws h1 h2 => match us, ws, h1, h2 with | [_], [], _, _ => rfl
theorem bnd30 : ShE.bind es (ss.getD 30 ⟨.glob, "", 0, [], 0, []⟩) := bind_0 rfl rfl fun _ _ _ _ _ _ us ws h1 h2 => match us, ws, h1, h2 with | [_, _, _], [], _, _ => rfl
theorem bnd31 : ShE.bind es (ss.getD 31 ⟨.glob, "", 0, [], 0, []⟩) := bind_0 rfl rfl fun _ _ _ _ _ _ us ws h1 h2 => match us, ws, h1, h2 with | [_, _], [], _, _ => rfl
theorem bnd32 : ShE.bind es (ss.getD 32 ⟨.glob, "", 0, [], 0, []⟩) := bind_0 rfl rfl fun _ _ _ _ _ _ us ws h1 h2 => match us, ws, h1, h2 with | [_], [], _, _ => rfl
theorem bnd33 : ShE.bind es (ss.getD 33 ⟨.glob, "", 0, [], 0, []⟩) := bind_0 rfl rfl fun _ _ _ _ _ _ us ws h1 h2 => match us, ws, h1, h2 with | [_, _], [], _, _ => rfl
theorem bnd34 : ShE.bind es (ss.getD 34 ⟨.glob, "", 0, [], 0, []⟩) := bind_0 rfl rfl fun _ _ _ _ _ _ us ws h1 h2 => match us, ws, h1, h2 with | [_, _], [], _, _ => rfl
theorem bnd35 : ShE.bind es (ss.getD 35 ⟨.glob, "", 0, [], 0, []⟩) := bind_0 rfl rfl fun _ _ _ _ _ _ us ws h1 h2 => match us, ws, h1, h2 with | [_], [], _, _ => rfl
theorem bnd36 : ShE.bind es (ss.getD 36 ⟨.glob, "", 0, [], 0, []⟩) := bind_0 rfl rfl fun _ _ _ _ _ _ us ws h1 h2 => match us, ws, h1, h2 with | [_, _], [], _, _ => rfl
theorem bnd37 : ShE.bind es (ss.getD 37 ⟨.glob, "", 0, [], 0, []⟩) := bind_0 rfl rfl fun _ _ _ _ _ _ us ws h1 h2 => match us, ws, h1, h2 with | [_], [], _, _ => rfl
theorem bnd38 : ShE.bind es (ss.getD 38 ⟨.glob, "", 0, [], 0, []⟩) := bind_0 rfl rfl fun _ _ _ _ _ _ us ws h1 h2 => match us, ws, h1, h2 with | [_, _], [], _, _ => rfl
theorem bnd39 : ShE.bind es (ss.getD 39 ⟨.glob, "", 0, [], 0, []⟩) := bind_0 rfl rfl fun _ _ _ _ _ _ us ws h1 h2 => match us, ws, h1, h2 with | [_], [], _, _ => rfl
theorem bnds : BindAll es ss := ⟨bnd0, bnd1, bnd2, bnd3, bnd4, bnd5, bnd6, bnd7, bnd8, bnd9, bnd10, bnd11, bnd12, bnd13, bnd14, bnd15, bnd16, bnd17, bnd18, bnd19, bnd20, bnd21, bnd22, bnd23, bnd24, bnd25, bnd26, bnd27, bnd28, bnd29, bnd30, bnd31, bnd32, bnd33, bnd34, bnd35, bnd36, bnd37, bnd38, bnd39, trivial⟩
theorem cks : es.all (·.ckB T.toTb) = true := by decide +kernel
theorem fits : Fits T P es ss := ⟨rfl, rfl, rfl, cks, bnds⟩
def nms0 : List PySem.Str := ["_wall", "PoseError", "InvalidPrime", "InvalidSpin", "InvalidLetter", "InvalidQuarter", "PrimesDiffer", "InvalidNumber", "PRIMES", "ONE", "LETTERS", "check_prime", "undone_letter", "norm", "opposite", "multiply", "common_divisor", "primitive", "table_of", "QUARTERS", "STILL", "AXES", "check_quarter", "others_of", "cross", "sides", "number_of", "quarter_rows", "line_of", "compose"]
def nms1 : List PySem.Str := ["inverse", "inverse_quarters", "turned_spin", "turned_letter", "quarter_spin", "joined_spins", "MOST_POWER", "joined", "product_rows", "Pose", "_law_bag", "_law_pull", "_law_of", "_law_same", "_law_norm", "_law_table", "_law_mult", "_law_letters", "_law_quarters", "_law_hall", "_law_undone", "_law_reduced", "_law_drawn", "_law_made", "_law_rows", "_law_scaled", "_law_power", "_law_prime"]
def nms : List PySem.Str := nms0 ++ nms1
abbrev R : PySem.W.OpenRow := PySem.W.OpenLaw.row PySem.Challenge.rw_peelpose_k08_matrices_of_poses
abbrev hk : PySem.W.Hook := hookM 6 T P es ss
def ob (s : PySem.W.SharedT) : AlM := obsMG 6 T P es ss (HandSHeadRun.getT s)
theorem ob_eq (s : PySem.W.SharedT) : ob s = hk.obs s.abs := obsMG_eq (HandSHeadRun.getT_eq s)
theorem run (w : World) : HandSHeadRun.RunEq R (PySem.W.view R.prog [63]) hk ob 6000 nms w := by
  refine PySem.W.byRow2 "special-get-raises" (P := fun w => HandSHeadRun.RunEq R (PySem.W.view R.prog [63]) hk ob 6000 nms w) (fun w os => ?_) (fun w os => ?_) w
  · kernel_rfl
  · kernel_rfl
theorem lawB (kV doc pm : Value) (an : Option Addr) (cdv ct : Value) (u : Value) : bindArgs (PySem.W.fnOf "law" "law" (defArgs (topS 63)) (defBody (topS 63)) (defScope (topS 63)) .none kV doc pm an cdv ct) ⟨[u], []⟩ = pure [(("_law_script" : Str), u)] := rfl
end MV.X

open PySem PySem.W PySem.Calls PyProof.Rows
set_option maxRecDepth 100000 in
set_option maxHeartbeats 8000000 in
theorem PySem.Challenge.cw_peelpose_k08_matrices_of_poses_holds : PySem.Challenge.rw_peelpose_k08_matrices_of_poses.Holds := by
  w_on; o_law
  refine HandSHeadRun.head_any (r := OpenLaw.row PySem.Challenge.rw_peelpose_k08_matrices_of_poses) (q := view (OpenLaw.row PySem.Challenge.rw_peelpose_k08_matrices_of_poses).prog [63]) (H := MV.X.hk) (ob := MV.X.ob) (M := 6000) (loose := MV.X.nms) (d := HandSHeadRun.topDef (OpenLaw.row PySem.Challenge.rw_peelpose_k08_matrices_of_poses).prog 63) (kwd := []) MV.X.ob_eq
    (by kernel_rfl) (fun s => by kernel_rfl) MV.X.run (by kernel_rfl) (by kernel_rfl) (by kernel_rfl) (by rfl) (by first | assumption | decide +kernel) (by decide +kernel) ⟨rfl, rfl, rfl, rfl, rfl, by decide +kernel⟩ ?hw ?hc
  case hw => w_witness2
  case hc =>
    refine MV.walk_ofW (l := PySem.Challenge.rw_peelpose_k08_matrices_of_poses) (n := 63) (k := 2 * 40 + 1) (x := "_law_script") (CX := fun w => L2.CX (PySem.Challenge.rw_peelpose_k08_matrices_of_poses).prog w) rfl (by decide) (by kernel_rfl) ⟨rfl, by decide, by decide⟩ ?F (fun _ _ _ _ _ z => by
      obtain ⟨_, _, _, _, _, _, _, _, _, _, _, _, z⟩ := z
      exact z.elim)
    intro w mg fa h Y G hmg0
    obtain ⟨K, KX, c⟩ := Y
    have hmg : mg ("law" : PySem.Str) = some (.ref fa) := by
      have e : (HandSHeadRun.topDef (OpenLaw.row PySem.Challenge.rw_peelpose_k08_matrices_of_poses).prog 63).name = ("law" : PySem.Str) := by kernel_rfl
      rw [← e]
      exact hmg0
    obtain ⟨fd, sp, h1, h2, h3⟩ := MV.law_F (T := MV.X.T) (P := MV.X.P) (es := MV.X.es) (ss := MV.X.ss) (pg := (PySem.Challenge.rw_peelpose_k08_matrices_of_poses).prog) (w := w) (il := 0) (m := 40) (n := 63) (x := "_law_script") (lw := "law") MV.X.fits (MV.told_of c) KX G hmg (List.mem_cons_self ..) rfl rfl rfl rfl MV.X.lawB MV.X.main
    exact ⟨K, fd, sp, KX, h1, h2, h3⟩
