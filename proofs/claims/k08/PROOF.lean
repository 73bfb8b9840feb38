import PyProof.Rows.All
import Wide.All
import OpenK.AllK
import Wide.FinOn
import HandS.ForMost
import HandS.ForExc
import HandS.Walk
import HandS.IsInst
import HandS.Deep
import HandS.Zip
import HandS.SortInts
import HandS.Text
import HandS.Dict
import HandS.Iter
import HandS.Exc
import HandS.SetFor
import HandS.Strs
import HandS.Rev
import HandS.Conv
import HandS.Style
import KE.KRevSl
import HandS.More
import HandS.TupSets
import KE.GoesNew
import KE.GoesMore
import KE.GoesEnum
import KE.KItemsList
import HandS.ExcValue
import HandS.TupMul
import HandS.TupAny
import HandS.TupLe
import KE.KSortedM
import KE.DatumOrd
import HandS.ExcOwn
import HandS.ExcInit
import HandS.WordsExc
import KE.KDictZip
import KE.KExcIs
import HandS.ExcIs
import HandS.ExcField
import HandS.RaiseMore
import HandS.Small
import PySem.Challenge.RW_wishstrike_k08_refusals_apart
set_option Elab.async false
set_option linter.all false
set_option maxRecDepth 100000
/-! A small interpreter for the part of Python that the program and its laws are written in: values are trees, a list that one name alone holds is changed in its slot. -/
namespace Wa
open PySem PySem.Spec PyProof.Rows L2

/-- values -/
inductive D where
  | non | bl (b : Bool) | int (i : Int) | str (s : Str) | tup (xs : List D) | lst (xs : List D) | dic (kvs : List (Key × D)) | pen | exc (c : Str) (n : Option Int)

/-! ### equality of data -/
mutual
def toPy : D → PyData
  | .non => .none
  | .bl b => .bool b
  | .int i => .int i
  | .str s => .str s
  | .tup xs => .tuple (toPys xs)
  | .lst xs => .list (toPys xs)
  | _ => .none
def toPys : List D → List PyData
  | [] => []
  | x :: xs => toPy x :: toPys xs
end
def eqd (d e : D) : Bool := PyData.eqv (toPy d) (toPy e)
/-! plain data, nested at most so deep -/
mutual
def shp : D → Nat → Bool
  | .non, _ => true
  | .bl _, _ => true
  | .int _, _ => true
  | .str s, _ => PyData.strOk s
  | .tup xs, n => match n with | 0 => false | n + 1 => shps xs n
  | .lst xs, n => match n with | 0 => false | n + 1 => shps xs n
  | _, _ => false
def shps : List D → Nat → Bool
  | [], _ => true
  | x :: xs, n => shp x n && shps xs n
end

/-! ### slots -/
inductive Sl where
  | no | sh (d : D) | ow (d : D)
abbrev Env := List Sl
def slD : Sl → Option D
  | .no => none
  | .sh d => some d
  | .ow d => some d
def slAt (r : Env) (i : Nat) : Option D := match r[i]? with
  | some s => slD s
  | none => none

/-- a list that this name alone holds -/
def owAt (r : Env) (i : Nat) : Option (List D) := match r[i]? with
  | some (.ow (.lst xs)) => some xs
  | _ => none

/-- what a name shares -/
def shAt (r : Env) (i : Nat) : Option D := match r[i]? with
  | some (.sh d) => some d
  | _ => none

/-- a dict that this name alone holds -/
def dicAt (r : Env) (i : Nat) : Option (List (Key × D)) := match r[i]? with
  | some (.ow (.dic xs)) => some xs
  | _ => none

/-! ### built-in operations by value -/
inductive Ty where
  | int | bool | tuple | list | str | dict
inductive P where
  | isi (t : Ty) | len | all | any | tuple | list | sorted | sum | max2 | min2 | max1 | min1 | minT | abs | toInt | toStr
  | add | sub | mul | mod | fdiv | pow | neg
  | eq | ne | lt | le | gt | ge | inn | nin | isN | isnN | isB | isnB
  | ix | rev | lenset | sortset | count | index | split | join | upper
  | dix | din | dnin | dgt | dmk | slen | dzip | exi (c : Str) | exn | idx
def isiD : Ty → D → Bool
  | .int, .int _ => true
  | .int, .bl _ => true
  | .bool, .bl _ => true
  | .tuple, .tup _ => true
  | .list, .lst _ => true
  | .str, .str _ => true
  | .dict, .dic _ => true
  | _, _ => false
def isData : D → Bool
  | .pen => false
  | .exc _ _ => false
  | _ => true
def boolsD : List D → Option (List Bool)
  | [] => some []
  | .bl b :: r => (boolsD r).map fun x => b :: x
  | _ => none
def intsD : List D → Option (List Int)
  | [] => some []
  | .int b :: r => (intsD r).map fun x => b :: x
  | _ => none
def insI (x : Int) : List Int → List Int
  | [] => [x]
  | y :: r => if x ≤ y then x :: y :: r else y :: insI x r
def sortI (l : List Int) : List Int := l.foldr insI []
def maxI : List Int → Int
  | [] => 0
  | [x] => x
  | x :: r => if maxI r ≤ x then x else maxI r
def minI : List Int → Int
  | [] => 0
  | [x] => x
  | x :: r => if x ≤ minI r then x else minI r
/-- without what came already -/
def dedupI : List Int → List Int
  | [] => []
  | x :: r => if r.contains x then dedupI r else x :: dedupI r
def dedupL : List (List Int) → List (List Int)
  | [] => []
  | x :: r => if r.contains x then dedupL r else x :: dedupL r
/-- tuples of whole numbers -/
def intssD : List D → Option (List (List Int))
  | [] => some []
  | .tup xs :: r => (intsD xs).bind fun ns => (intssD r).map fun x => ns :: x
  | _ => none
def cutD (xs : List D) (lo hi : Option Int) : List D := (xs.drop (HT.sIx xs.length 0 lo)).take (HT.sIx xs.length xs.length hi - HT.sIx xs.length 0 lo)
def big : Nat := 16777216
def okI (b : Bool) (d : D) : Option (Bool × D) := if b then some (false, d) else none
/-- no int, bool, None, text: a flat thing -/
def flatD : D → Bool
  | .non => true
  | .bl _ => true
  | .int _ => true
  | .str _ => true
  | _ => false
def inD (x : D) (xs : List D) : Bool := xs.any fun z => eqd z x
def memD (x c : D) : Option Bool := match c with
  | .lst xs => if shp x 60 && shps xs 59 then some (inD x xs) else none
  | .tup xs => if flatD x && xs.all flatD then some (inD x xs) else if shp x 60 && shps xs 59 then some (inD x xs) else none
  | .str z => match x with
    | .str y => some (!(Builtin.Str.occurrences z y 0 z.length 1).isEmpty)
    | _ => none
  | _ => none
def isAt (xs : List D) (i : Int) : Option (Bool × D) := (atI xs i).map fun d => (false, d)
/-! each operation: the value, and whether it is a new list -/
abbrev PR := Option (Bool × D)
def pIsi (t : Ty) : List D → PR
  | [d] => okI (isData d) (.bl (isiD t d))
  | _ => none
def pLen : List D → PR
  | [.lst xs] => some (false, .int (xs.length : Nat))
  | [.tup xs] => some (false, .int (xs.length : Nat))
  | [.str s] => okI (decide (s.length ≤ big)) (.int (s.length : Nat))
  | _ => none
def pAll : List D → PR
  | [.lst xs] => (boolsD xs).map fun bs => (false, .bl (bs.all id))
  | _ => none
def pAny : List D → PR
  | [.lst xs] => (boolsD xs).map fun bs => (false, .bl (bs.any id))
  | _ => none
def pTuple : List D → PR
  | [.lst xs] => some (false, .tup xs)
  | [.tup xs] => some (false, .tup xs)
  | _ => none
def pList : List D → PR
  | [.lst xs] => some (true, .lst xs)
  | [.tup xs] => some (true, .lst xs)
  | _ => none
/-- whole numbers as keys -/
def keysI : List (Key × D) → Option (List Int)
  | [] => some []
  | (.inl i, _) :: r => (keysI r).map fun x => i :: x
  | _ => none
def pSorted : List D → PR
  | [.lst xs] => (intsD xs).map fun ns => (true, .lst ((sortI ns).map .int))
  | [.tup xs] => (intsD xs).bind fun ns => if ns.length < 64 then some (true, .lst ((sortI ns).map .int)) else none
  | [.dic kvs] => (keysI kvs).map fun ns => (true, .lst ((sortI ns).map .int))
  | _ => none
def pSum : List D → PR
  | [.lst xs] => (intsD xs).map fun ns => (false, .int ns.sum)
  | _ => none
def pMax2 : List D → PR
  | [.int i, .int j] => some (false, .int (if j > i then j else i))
  | _ => none
def pMin2 : List D → PR
  | [.int i, .int j] => some (false, .int (if j < i then j else i))
  | _ => none
def pAdd : List D → PR
  | [.int i, .int j] => some (false, .int (i + j))
  | [.lst xs, .lst ys] => if xs.length + ys.length ≤ big then some (true, .lst (xs ++ ys)) else none
  | [.tup xs, .tup ys] => if xs.length + ys.length ≤ big then some (false, .tup (xs ++ ys)) else none
  | [.str x, .str y] => okI (decide (x.length + y.length ≤ big)) (.str (x ++ y))
  | _ => none
def pSub : List D → PR
  | [.int i, .int j] => some (false, .int (i - j))
  | _ => none
def small64 (i : Int) : Bool := decide (-(2 ^ 64) < i) && decide (i < 2 ^ 64)
def pMulI : List D → PR
  | [.int i, .int j] => okI (small64 i || small64 j) (.int (i * j))
  | _ => none
def pMulT : List D → PR
  | [.tup xs, .int k] => okI (decide (0 ≤ k) && decide (k ≤ 1000) && decide (xs.length ≤ 1000) && decide (0 < xs.length)) (.tup (List.replicate k.toNat xs).flatten)
  | _ => none
def pMul : List D → PR
  | [.int i, .int j] => okI (small64 i || small64 j) (.int (i * j))
  | [.tup xs, .int k] => okI (decide (0 ≤ k) && decide (k ≤ 1000) && decide (xs.length ≤ 1000) && decide (0 < xs.length)) (.tup (List.replicate k.toNat xs).flatten)
  | [.lst xs, .int k] => if (decide (0 ≤ k) && decide (k ≤ 1000) && decide (xs.length ≤ 1000)) = true then some (true, .lst (List.replicate k.toNat xs).flatten) else none
  | _ => none
def pMod : List D → PR
  | [.int i, .int j] => okI (decide (j ≠ 0)) (.int (i.fmod j))
  | _ => none
def pFdiv : List D → PR
  | [.int i, .int j] => okI (decide (j ≠ 0) && decide (j.natAbs < 1073741824)) (.int (i.fdiv j))
  | _ => none
def pPow : List D → PR
  | [.int i, .int j] => okI (decide (0 ≤ j) && decide (j ≤ 1000000) && decide (i.natAbs < 2 ^ 64)) (.int (i ^ j.toNat))
  | _ => none
def pNeg : List D → PR
  | [.int i] => some (false, .int (-i))
  | _ => none
def pEq : List D → PR
  | [d, e] => okI (shp d 60 && shp e 60) (.bl (eqd d e))
  | _ => none
def pNe : List D → PR
  | [d, e] => okI (shp d 60 && shp e 60) (.bl (!eqd d e))
  | _ => none
def pCmp (f : Int → Int → Bool) : List D → PR
  | [.int i, .int j] => some (false, .bl (f i j))
  | _ => none
def pIn : List D → PR
  | [x, c] => (memD x c).map fun b => (false, .bl b)
  | _ => none
def pNin : List D → PR
  | [x, c] => (memD x c).map fun b => (false, .bl (!b))
  | _ => none
def isNon : D → Bool
  | .non => true
  | _ => false
def pIsN2 : List D → PR
  | [d, .non] => some (false, .bl (isNon d))
  | _ => none
def pIsnN2 : List D → PR
  | [d, .non] => some (false, .bl (!isNon d))
  | _ => none
def pIx : List D → PR
  | [.lst xs, .int i] => isAt xs i
  | [.tup xs, .int i] => isAt xs i
  | _ => none
def pCut (x : D) (lo hi : Option Int) : PR := match x with
  | .lst xs => some (true, .lst (cutD xs lo hi))
  | .tup xs => some (false, .tup (cutD xs lo hi))
  | .str s => okI (decide (s.length ≤ big)) (.str (cutS s lo hi))
  | _ => none
def pRev : List D → PR
  | [.tup xs] => some (false, .tup xs.reverse)
  | [.lst xs] => some (true, .lst xs.reverse)
  | _ => none
def pLenset : List D → PR
  | [.tup xs] => match intsD xs with
    | some ns => if ns.length < 64 then some (false, .int ((dedupI ns).length : Nat)) else none
    | none => (intssD xs).bind fun ks => if ks.length < 64 then some (false, .int ((dedupL ks).length : Nat)) else none
  | [.lst xs] => (intsD xs).bind fun ns => if ns.length < 64 then some (false, .int ((dedupI ns).length : Nat)) else none
  | _ => none
def pSortset : List D → PR
  | [.lst xs] => (intsD xs).bind fun ns => if ns.length ≤ 1000 then some (true, .lst ((sortI (dedupI ns)).map .int)) else none
  | [.tup xs] => (intsD xs).bind fun ns => if ns.length ≤ 1000 then some (true, .lst ((sortI (dedupI ns)).map .int)) else none
  | _ => none
def pMax1 : List D → PR
  | [.lst xs] => (intsD xs).bind fun ns => if ns.length = 0 then none else some (false, .int (maxI ns))
  | [.tup xs] => (intsD xs).bind fun ns => if ns.length = 0 then none else some (false, .int (maxI ns))
  | _ => none
def pMin1 : List D → PR
  | [.lst xs] => (intsD xs).bind fun ns => if ns.length = 0 then none else some (false, .int (minI ns))
  | [.tup xs] => (intsD xs).bind fun ns => if ns.length = 0 then none else some (false, .int (minI ns))
  | _ => none
/-- the first difference decides, else the shorter is the less -/
def ltT : List Int → List Int → Bool
  | [], [] => false
  | [], _ :: _ => true
  | _ :: _, [] => false
  | x :: xs, y :: ys => if x = y then ltT xs ys else decide (x < y)
/-- the first of the least of tuples -/
def minTs : List (List Int) → List Int
  | [] => []
  | t :: ts => ts.foldl (fun a y => if ltT y a = true then y else a) t
def pMinT : List D → PR
  | [.lst xs] => (intssD xs).bind fun ks => if ks.length = 0 then none else some (false, .tup ((minTs ks).map .int))
  | _ => none
def pAbs : List D → PR
  | [.int i] => some (false, .int (if i < 0 then -i else i))
  | _ => none
def pToInt : List D → PR
  | [.int i] => some (false, .int i)
  | [.bl k] => some (false, .int (if k = true then 1 else 0))
  | _ => none
def pCount : List D → PR
  | [.lst xs, .int k] => (intsD xs).map fun ns => (false, .int (ns.count k : Nat))
  | [.lst xs, .bl k] => (boolsD xs).map fun ns => (false, .int (ns.count k : Nat))
  | _ => none
/-! dicts -/
def keyD : D → Option Key
  | .int i => some (.inl i)
  | .str s => some (.inr s)
  | _ => none
def getK (kvs : List (Key × D)) (k : Key) : Option D := (kvs.find? fun kv => decide (kv.1 = k)).map (·.2)
def putD (kvs : List (Key × D)) (k : Key) (v : D) : List (Key × D) :=
  if (kvs.any fun kv => decide (kv.1 = k)) = true then kvs.map (fun kv => if kv.1 = k then (kv.1, v) else kv) else kvs ++ [(k, v)]
def mergeD (kvs more : List (Key × D)) : List (Key × D) := more.foldl (fun acc kv => putD acc kv.1 kv.2) kvs
def pairsD : List D → Option (List (Key × D))
  | [] => some []
  | .tup [k, v] :: r => (keyD k).bind fun k => (pairsD r).map fun x => (k, v) :: x
  | _ => none
def pDix : List D → PR
  | [.dic kvs, k] => (keyD k).bind fun k => (getK kvs k).map fun d => (false, d)
  | _ => none
def pDin : List D → PR
  | [k, .dic kvs] => (keyD k).map fun k => (false, .bl (getK kvs k).isSome)
  | _ => none
def pDnin : List D → PR
  | [k, .dic kvs] => (keyD k).map fun k => (false, .bl (!(getK kvs k).isSome))
  | _ => none
def pDgt : List D → PR
  | [.dic kvs, k, x] => if flatD x = true then (keyD k).map fun k => (false, (getK kvs k).getD x) else none
  | _ => none
def pDmk : List D → PR
  | [.lst ps] => (pairsD ps).bind fun l => if (mergeD [] l).length ≤ big then some (true, .dic (mergeD [] l)) else none
  | _ => none
def zipL : List D → List D → List D
  | x :: xs, y :: ys => .tup [x, y] :: zipL xs ys
  | _, _ => []
def seqD : D → Option (List D)
  | .lst xs => some xs
  | .tup xs => some xs
  | _ => none
def zipD (d e : D) : Option (List D) := match seqD d, seqD e with
  | some xs, some ys => some (zipL xs ys)
  | _, _ => none
def pDzip : List D → PR
  | [x, y] => (zipD x y).bind fun l => (pairsD l).bind fun ps => if (mergeD [] ps).length ≤ big then some (true, .dic (mergeD [] ps)) else none
  | _ => none
/-! exceptions -/
def exIs (c k : Str) : Bool := decide (c = k) || decide (k = "WishError") || decide (k = "ValueError")
def pExi (k : Str) : List D → PR
  | [.exc c _] => some (false, .bl (exIs c k))
  | [.non] => if k = "ValueError" then none else some (false, .bl false)
  | _ => none
def pExn : List D → PR
  | [.exc _ (some i)] => some (false, .int i)
  | _ => none
/-- the first place -/
def idxD (d : D) : List D → Option Nat
  | [] => none
  | x :: xs => if eqd x d = true then some 0 else (idxD d xs).map (· + 1)
def pIdx : List D → PR
  | [.lst xs, d] => if (flatD d && xs.all flatD) = true then (idxD d xs).map fun i => (false, .int (i : Nat)) else none
  | _ => none
/-! texts -/
def pUpper : List D → PR
  | [.str s] => okI (decide (s.length ≤ 5592405)) (.str (Txt.upper s))
  | _ => none
def strsD : List D → Option (List Str)
  | [] => some []
  | .str b :: r => (strsD r).map fun x => b :: x
  | _ => none
def pJoin : List D → PR
  | [.str s, .lst xs] => (strsD xs).bind fun ys => okI (decide ((ys.map (·.length)).sum + ys.length * s.length ≤ 16777216)) (.str (Txt.join s ys))
  | _ => none
def pSplit : List D → PR
  | [.str s, .str b] => if b.length ≠ 0 ∧ s.length + 2 ≤ big ∧ (Txt.split s b).length ≤ big then some (true, .lst ((Txt.split s b).map .str)) else none
  | _ => none
def pToStr : List D → PR
  | [.int i] => okI (decide (i.natAbs.log2 < 1920)) (.str (toString i))
  | _ => none
def pIsB2 : List D → PR
  | [.bl a, .bl b] => some (false, .bl (decide (a = b)))
  | _ => none
def pIsnB2 : List D → PR
  | [.bl a, .bl b] => some (false, .bl (!decide (a = b)))
  | _ => none
def prim (p : P) (ds : List D) : PR := match p with
  | .isi t => pIsi t ds
  | .len => pLen ds
  | .all => pAll ds
  | .any => pAny ds
  | .tuple => pTuple ds
  | .list => pList ds
  | .sorted => pSorted ds
  | .sum => pSum ds
  | .max2 => pMax2 ds
  | .min2 => pMin2 ds
  | .add => pAdd ds
  | .sub => pSub ds
  | .mul => pMul ds
  | .mod => pMod ds
  | .fdiv => pFdiv ds
  | .pow => pPow ds
  | .neg => pNeg ds
  | .eq => pEq ds
  | .ne => pNe ds
  | .lt => pCmp (fun i j => decide (i < j)) ds
  | .le => pCmp (fun i j => decide (i ≤ j)) ds
  | .gt => pCmp (fun i j => decide (j < i)) ds
  | .ge => pCmp (fun i j => decide (j ≤ i)) ds
  | .inn => pIn ds
  | .nin => pNin ds
  | .isN => pIsN2 ds
  | .isnN => pIsnN2 ds
  | .isB => pIsB2 ds
  | .isnB => pIsnB2 ds
  | .ix => pIx ds
  | .rev => pRev ds
  | .lenset => pLenset ds
  | .max1 => pMax1 ds
  | .min1 => pMin1 ds
  | .minT => pMinT ds
  | .abs => pAbs ds
  | .toInt => pToInt ds
  | .count => pCount ds
  | .sortset => pSortset ds
  | .dix => pDix ds
  | .din => pDin ds
  | .dnin => pDnin ds
  | .dgt => pDgt ds
  | .dmk => pDmk ds
  | .dzip => pDzip ds
  | .upper => pUpper ds
  | .join => pJoin ds
  | .split => pSplit ds
  | .toStr => pToStr ds
  | .exi k => pExi k ds
  | .exn => pExn ds
  | .idx => pIdx ds
  | _ => none

/-! ### the language -/
inductive Pat where
  | nm (i : Nat) | tp (ps : List Pat)
mutual
inductive E where
  | var (i : Nat) | cst (c : D) | glb (x : Str) (i : Int)
  | bi (p : P) (os : Os) | bop (p : P) (a b : O) | cmp (p : P) (a b : O) | una (p : P) (a : O) | ixx (a b : O) | sla (a : O) (lo : E) | slb (a : O) (hi : E) | slab (a : O) (lo hi : E) | tupd (os : Os) | lstd (os : Os) | isi (t : Ty) (a : O)
  | chn (p q : P) (a b : O) (c : E) | call (f : String) (os : Os) | draw (o n : E) | anew (o : E)
  | and (a b : E) | or (a b : E) | not (a : E) | ife (t : T) (a b : E)
  | lc (own : List (Str × Nat)) (p : Pat) (it : I) (c : T) (el : E)
  | pop (i : Nat) | popi (i : Nat) (e : E) | sset (srt : Bool) (o : O) | revx (o : O) | rg1 (tp : Bool) (a : E) | rg2 (tp : Bool) (a b : E) | cnt (a b : O)
  | dnew | dlN (k : Int) | dlit (kvs : List (Str × Int)) | dmk (o : O) | dix (a b : O) | din (p : P) (a b : O) | dgt (a b c : O) | upper (a : O) | join (a b : O) | split (a b : O) | chn3 (p q s : P) (a b c : O) (e : E)
  | pur (e : E) | dls (kvs : List (Str × List Str)) | mov (i : Nat) | tupp (s : Str) (e : E) | fw (s t : Nat) (n : E) (q : Nat) | dzip (a b : O) | exi (c : Str) (o : O) | exn (o : O) | idx (a b : O) | tupm (a : E) (j : Nat) (c : E) | calln (f : String) (a e : E) | xnew0 (c : Str) (e : E) | xnew1 (e : E)
inductive O where
  | bor (i : Nat) | ex (e : E)
inductive Os where
  | nil | cons (o : O) (os : Os)
inductive T where
  | yes | val (e : E) | not (t : T) | and (a b : T) | or (a b : T)
inductive I where
  | seq (e : E) | zip (a b : E) | zipn (a b : E) | enum (a : E) | ezip (a b : E) | rng1 (a : E) | rng2 (a b : E) | rng3 (a b c : E) | keys (e : E) | txt (e : E)
end
/-- a suite that is tried: what is told or stored, by cases -/
inductive L where
  | ite (t : T) (a b : L) | asg (i : Nat) (e : E) | drop (e : E)
inductive Tok where
  | bor (i : Nat) | val (d : D)
/-- lists within what was told, emptied: paths, the last step first -/
inductive Z2 where
  | done | clr (p : List Nat) (k : Z2) | ifw (p : List Nat) (w : Str) (a k : Z2)
/-- what is done with what was told, up to the suite's end -/
inductive Z1 where
  | stop | go (z : Z2) | goapp (p : List Nat) (e : E) | chk (t : T) (z : Z1) | ift (t : T) (z : Z1)
mutual
inductive S where
  | setk (i : Nat) (k e : E) | unpk (p : Pat) (i : Nat) (k e : E) | asg (i : Nat) (e : E) | unp (p : Pat) (e : E) | setix (i : Nat) (k e : E) | app (i : Nat) (e : E) | ext (i : Nat) (e : E) | dropE (e : E) | clear (i : Nat) | revl (i : Nat) | insl (i : Nat) (k e : E)
  | ite (t : T) (a b : B) | for_ (p : Pat) (it : I) (b : B) | while_ (t : T) (b : B)
  | ret (e : E) | retv (i : Nat) | retN | retm (e : E) | raise (c : Str) (n : Option E) | never | try_ (i j : Nat) (b : L) | pass
inductive B where
  | nil | cons (s : S) (b : B) | tells (i : Nat) (e : E) (z : Z1) | loan (b : B)
end
structure Fn where
  name : Str
  ps : List Str
  N : List Str
  body : B

/-! ### what it does -/
def tokD (r : Env) : Tok → Option D
  | .bor i => slAt r i
  | .val d => some d
def isDic : Option D → Bool
  | some (.dic _) => true
  | _ => false
def isStr : Option D → Bool
  | some (.str _) => true
  | _ => false
def isLst : Option D → Bool
  | some (.lst _) => true
  | _ => false
def toks (r : Env) : List Tok → Option (List D)
  | [] => some []
  | t :: ts => match tokD r t, toks r ts with
    | some d, some ds => some (d :: ds)
    | _, _ => none
/-- values alone -/
def toksV : List Tok → Option (List D)
  | [] => some []
  | .val d :: ts => (toksV ts).map fun ds => d :: ds
  | _ => none
/-- an operation at tokens -/
@[irreducible] def ap (p : P) (r : Env) (ts : List Tok) (Q : Bool → D → Env → Prop) : Prop := match toks r ts with
  | some ds => match prim p ds with
    | some (fl, d) => Q fl d r
    | none => False
  | none => False
/-- a slice at a token -/
@[irreducible] def apC (r : Env) (t : Tok) (lo hi : Option Int) (Q : Bool → D → Env → Prop) : Prop := match tokD r t with
  | some d => match pCut d lo hi with
    | some (fl, z) => Q fl z r
    | none => False
  | none => False
mutual
def bindP : Pat → D → Env → Option Env
  | .nm i, d, r => if i < r.length then some (r.set i (.sh d)) else none
  | .tp ps, d, r => match d with
    | .tup ds => bindPs ps ds r
    | _ => none
def bindPs : List Pat → List D → Env → Option Env
  | [], [], r => some r
  | p :: ps, d :: ds, r => match bindP p d r with
    | some r1 => bindPs ps ds r1
    | none => none
  | _, _, _ => none
end
def wipeE (r : Env) : List Nat → Env
  | [] => r
  | v :: vs => (wipeE r vs).set v .no
def noOw (r : Env) (vs : List Nat) : Bool := vs.all fun i => match r[i]? with
  | some (.ow _) => false
  | some _ => true
  | none => false
/-- the block's own slots as they stood ahead -/
def unwipe (r0 r : Env) : List Nat → Env
  | [] => r
  | v :: vs => (unwipe r0 r vs).set v (r0.getD v .no)
abbrev Cl := String → List D → (Bool → D → Prop) → (D → Prop) → Prop
def lcL (body : D → Env → (Option D → Env → Prop) → Prop) : List D → Env → List D → (List D → Env → Prop) → Prop
  | [], r, acc, k => k acc r
  | x :: xs, r, acc, k => body x r fun o r' => match o with
    | some y => lcL body xs r' (acc ++ [y]) k
    | none => lcL body xs r' acc k
def forL (body : D → Env → (Env → Prop) → Prop) : List D → Env → (Env → Prop) → Prop
  | [], r, k => k r
  | x :: xs, r, k => body x r fun r' => forL body xs r' k
def whL (t : Env → (Bool → Env → Prop) → Prop) (b : Env → (Env → Prop) → Prop) : Nat → Env → (Env → Prop) → Prop
  | 0, _, _ => False
  | n + 1, r, k => t r fun c r1 => if c = true then b r1 fun r2 => whL t b n r2 k else k r1
def rangeL (lo c : Int) (n : Nat) : List D := (List.range n).map fun k => D.int (lo + (k : Nat) * c)
def enumL (k : Nat) : List D → List D
  | [] => []
  | x :: xs => .tup [.int (k : Nat), x] :: enumL (k + 1) xs
/-- what is walked -/
def keyV : Key → D
  | .inl i => .int i
  | .inr s => .str s
def walkD : D → Option (List D)
  | .lst xs => some xs
  | .tup xs => some xs
  | .dic kvs => some (kvs.map fun kv => keyV kv.1)
  | _ => none
def enumD (d : D) : Option (List D) := (seqD d).map (enumL 0)
def rgD (tp : Bool) (xs : List D) : D := if tp = true then .tup xs else .lst xs
/-- a truth, and what is handed back -/
def fwQ (z : D) (Q : Bool → List (Key × D) → List D → Prop) : Prop := match z with
  | .tup [.bl b, .dic kvs, .lst xs] => Q b kvs xs
  | _ => False
/-- what a name takes: a pair that is told is shared -/
def owS (fl : Bool) (d : D) : Sl := if fl = true then (match d with
  | .tup _ => .sh d
  | _ => .ow d) else .sh d
/-- a part of data, by the path, the last step first -/
def atD (d : D) : List Nat → Option D
  | [] => some d
  | k :: p => match atD d p with
    | some (.tup xs) => xs[k]?
    | _ => none
/-- a place whose list no one else knows -/
def okP (d : D) (p : List Nat) : Bool := decide (p = [1]) || !isLst (atD d [1])
def isTupD : D → Bool
  | .tup _ => true
  | _ => false
def evZ2 : Z2 → D → Prop
  | .done, _ => True
  | .clr p k, d => okP d p = true ∧ isLst (atD d p) = true ∧ evZ2 k d
  | .ifw p w a k, d => (match atD d p with
    | some (.str s) => ∃ b, prim .eq [.str s, .str w] = some (false, .bl b) ∧ (b = true → evZ2 a d)
    | _ => False) ∧ evZ2 k d
/-! data without a list -/
mutual
def noLst : D → Bool
  | .non => true
  | .bl _ => true
  | .int _ => true
  | .str _ => true
  | .tup xs => noLsts xs
  | _ => false
def noLsts : List D → Bool
  | [] => true
  | x :: xs => noLst x && noLsts xs
end
/-- behind the told lists' change -/
def finS : Sl → Sl → Sl
  | .sh d, _ => .sh d
  | .ow (.lst _), .sh (.lst ys) => if noLsts ys = true then .sh (.lst ys) else .no
  | .ow (.lst _), .ow (.lst ys) => if noLsts ys = true then .ow (.lst ys) else .no
  | _, _ => .no
def finE (i : Nat) (r1 r : Env) : Env := (List.zipWith finS r1 r).set i .no
/-- all lists shared meanwhile -/
def shA : Sl → Sl
  | .sh d => .sh d
  | .ow (.lst xs) => .sh (.lst xs)
  | _ => .no
def shAll (r : Env) : Env := r.map shA
/-- .. and held alone again -/
def unA : Sl → Sl
  | .sh d => .sh d
  | .ow (.lst xs) => .ow (.lst xs)
  | _ => .no
def unAll (r : Env) : Env := r.map unA
def in62 (i : Int) : Bool := decide (-8388608 ≤ i) && decide (i ≤ 8388608)
abbrev X0 : D → Env → Prop := fun _ _ => False
section
variable (cl : Cl)
mutual
def evE : (D → Env → Prop) → E → Env → (Bool → D → Env → Prop) → Prop
  | xp, .var i, r, Q => match r[i]? with
    | some (.sh d) => Q false d r
    | some (.ow d) => Q false d (r.set i (.sh d))
    | _ => False
  | xp, .cst c, r, Q => Q false c r
  | xp, .glb _ i, r, Q => Q false (.int i) r
  | xp, .bi p os, r, Q => evOs xp os r fun ts r1 => ap p r1 ts Q
  | xp, .bop p a b, r, Q => evO xp a r fun x r1 => evO xp b r1 fun y r2 => ap p r2 [x, y] Q
  | xp, .cmp p a b, r, Q => evO xp a r fun x r1 => evO xp b r1 fun y r2 => ap p r2 [x, y] Q
  | xp, .una p a, r, Q => evO xp a r fun x r1 => ap p r1 [x] Q
  | xp, .ixx a b, r, Q => evO xp a r fun x r1 => evO xp b r1 fun y r2 => ap .ix r2 [x, y] Q
  | xp, .sla a b, r, Q => evO xp a r fun x r1 => evE xp b r1 fun _ y r2 => match y with
    | .int i => apC r2 x (some i) none Q
    | _ => False
  | xp, .slb a b, r, Q => evO xp a r fun x r1 => evE xp b r1 fun _ y r2 => match y with
    | .int i => apC r2 x none (some i) Q
    | _ => False
  | xp, .slab a b c, r, Q => evO xp a r fun x r1 => evE xp b r1 fun _ y r2 => match y with
    | .int i => evE xp c r2 fun _ z r3 => match z with
      | .int j => apC r3 x (some i) (some j) Q
      | _ => False
    | _ => False
  | xp, .tupd os, r, Q => evOs xp os r fun ts r1 => match toksV ts with
    | some ds => ds.length ≤ 1000 ∧ Q false (.tup ds) r1
    | none => False
  | xp, .lstd os, r, Q => evOs xp os r fun ts r1 => match toksV ts with
    | some ds => ds.length ≤ 1000 ∧ Q true (.lst ds) r1
    | none => False
  | xp, .isi t a, r, Q => evO xp a r fun x r1 => ap (.isi t) r1 [x] Q
  | xp, .chn p q a b c, r, Q => evO xp a r fun x r1 => evO xp b r1 fun y r2 => ap p r2 [x, y] fun _ z r3 => match z with
    | .bl true => evE xp c r3 fun _ dz r4 => ap q r4 [y, .val dz] fun _ k r5 => match k with
      | .bl b => Q false (.bl b) r5
      | _ => False
    | .bl false => Q false (.bl false) r3
    | _ => False
  | xp, .call f os, r, Q => evOs xp os r fun ts r1 => match toksV ts with
    | some ds => cl f ds (fun fl d => Q fl d r1) (fun x => xp x r1)
    | none => False
  | xp, .draw o n, r, Q => evE xp o r fun _ d r1 => match d with
    | .pen => evE xp n r1 fun _ m r2 => match m with
      | .int m => 1 ≤ m ∧ m < 1073741824 ∧ ∀ k : Int, 0 ≤ k → k < m → Q false (.int k) r2
      | _ => False
    | _ => False
  | xp, .anew o, r, Q => evE xp o r fun _ d r1 => match d with
    | .pen => Q false .pen r1
    | _ => False
  | xp, .and a b, r, Q => evE xp a r fun _ d r1 => match d with
    | .bl true => evE xp b r1 Q
    | .bl false => Q false (.bl false) r1
    | _ => False
  | xp, .or a b, r, Q => evE xp a r fun _ d r1 => match d with
    | .bl true => Q false (.bl true) r1
    | .bl false => evE xp b r1 Q
    | _ => False
  | xp, .not a, r, Q => evE xp a r fun _ d r1 => match d with
    | .bl b => Q false (.bl (!b)) r1
    | _ => False
  | xp, .ife t a b, r, Q => evT xp t r fun c r1 => if c = true then evE xp a r1 Q else evE xp b r1 Q
  | xp, .lc own p it c el, r, Q => evI xp it r fun xs r1 => noOw r1 (own.map (·.2)) = true ∧ lcL (fun x r2 k => match bindP p x (wipeE r2 (own.map (·.2))) with
      | some r3 => evT X0 c r3 fun b r4 => if b = true then evE X0 el r4 fun _ y r5 => k (some y) r5 else k none r4
      | none => False) xs r1 [] fun ys r6 => Q true (.lst ys) (unwipe r1 r6 (own.map (·.2)))
  | xp, .sset b o, r, Q => evO xp o r fun x r1 => ap (if b = true then .sortset else .lenset) r1 [x] Q
  | xp, .revx o, r, Q => evO xp o r fun x r1 => ap .rev r1 [x] Q
  | xp, .rg1 tp a, r, Q => evE xp a r fun _ d r1 => match d with
    | .int j => in62 j = true ∧ Q (!tp) (rgD tp (rangeL 0 1 j.toNat)) r1
    | _ => False
  | xp, .rg2 tp a b, r, Q => evE xp a r fun _ d r1 => evE xp b r1 fun _ e r2 => match d, e with
    | .int i, .int j => in62 i = true ∧ in62 j = true ∧ Q (!tp) (rgD tp (rangeL i 1 (j - i).toNat)) r2
    | _, _ => False
  | xp, .cnt a b, r, Q => evO xp a r fun x r1 => isLst (tokD r1 x) = true ∧ evO xp b r1 fun y r2 => ap .count r2 [x, y] Q
  | xp, .dnew, r, Q => Q true (.dic []) r
  | xp, .dlN k, r, Q => Q true (.dic [(.inl k, .non)]) r
  | xp, .dlit kvs, r, Q => Q true (.dic (mergeD [] (kvs.map fun q => (.inr q.1, .int q.2)))) r
  | xp, .dmk o, r, Q => evO xp o r fun x r1 => ap .dmk r1 [x] Q
  | xp, .dix a b, r, Q => evO xp a r fun x r1 => evO xp b r1 fun y r2 => ap .dix r2 [x, y] Q
  | xp, .din p a b, r, Q => evO xp a r fun x r1 => evO xp b r1 fun y r2 => ap p r2 [x, y] Q
  | xp, .dgt a b c, r, Q => evO xp a r fun x r1 => isDic (tokD r1 x) = true ∧ evO xp b r1 fun y r2 => evO xp c r2 fun z r3 => ap .dgt r3 [x, y, z] Q
  | xp, .upper a, r, Q => evO xp a r fun x r1 => ap .upper r1 [x] Q
  | xp, .join a b, r, Q => evO xp a r fun x r1 => isStr (tokD r1 x) = true ∧ evO xp b r1 fun y r2 => ap .join r2 [x, y] Q
  | xp, .split a b, r, Q => evO xp a r fun x r1 => isStr (tokD r1 x) = true ∧ evO xp b r1 fun y r2 => ap .split r2 [x, y] Q
  | xp, .chn3 p q s a b c e, r, Q => evO xp a r fun x r1 => evO xp b r1 fun y r2 => ap p r2 [x, y] fun _ z r3 => match z with
    | .bl true => evO xp c r3 fun u r4 => ap q r4 [y, u] fun _ k r5 => match k with
      | .bl true => evE xp e r5 fun _ dz r6 => ap s r6 [u, .val dz] fun _ k r7 => match k with
        | .bl b => Q false (.bl b) r7
        | _ => False
      | .bl false => Q false (.bl false) r5
      | _ => False
    | .bl false => Q false (.bl false) r3
    | _ => False
  | xp, .pop i, r, Q => match owAt r i with
    | some xs => match xs.getLast? with
      | some y => Q false y (r.set i (.ow (.lst xs.dropLast)))
      | none => False
    | none => False
  | xp, .pur e, r, Q => evE X0 e (shAll r) fun _ d _ => noLst d = true ∧ Q false d (unAll r)
  | xp, .dls kvs, r, Q => Q true (.dic (mergeD [] (kvs.map fun q => (.inr q.1, .tup (q.2.map .str))))) r
  | xp, .mov i, r, Q => match r[i]? with
    | some (.ow d) => Q true d (r.set i .no)
    | _ => False
  | xp, .tupp s e, r, Q => evE xp e r fun fl d r1 => match fl, d with
    | true, .lst ys => Q true (.tup [.str s, .lst ys]) r1
    | _, _ => False
  | xp, .exi k o, r, Q => evO xp o r fun x r1 => ap (.exi k) r1 [x] Q
  | xp, .exn o, r, Q => evO xp o r fun x r1 => ap .exn r1 [x] Q
  | xp, .idx a b, r, Q => evO xp a r fun x r1 => isLst (tokD r1 x) = true ∧ evO xp b r1 fun y r2 => ap .idx r2 [x, y] Q
  | xp, .dzip a b, r, Q => evO xp a r fun x r1 => evO xp b r1 fun y r2 => ap .dzip r2 [x, y] Q
  | xp, .tupm a j c, r, Q => evE xp a r fun _ da r1 => (owAt r1 j).isSome = true ∧ evE xp c r1 fun _ dc r2 => match owAt r2 j with
    | some ys => Q true (.tup [da, .lst ys, dc]) (r2.set j .no)
    | none => False
  | xp, .xnew0 c e, r, Q => evE xp e r fun _ _ r1 => Q false (.exc c none) r1
  | xp, .xnew1 e, r, Q => evE xp e r fun _ d r1 => match d with
    | .int i => Q false (.exc "NoWish" (some i)) r1
    | _ => False
  | xp, .calln f a e, r, Q => evE xp a r fun _ da r1 => noLst da = true ∧ evE xp e r1 fun fl de r2 => match fl, de with
    | true, .lst ys => noLsts ys = true ∧ cl f [da, .lst ys] (fun _ d => Q (isTupD d) d r2) (fun x => xp x r2)
    | _, _ => False
  | xp, .fw s t n q, r, Q => (slAt r s).isSome = true ∧ (dicAt r t).isSome = true ∧ evE xp n r fun _ d r1 => match d, shAt r1 s, dicAt r1 t, owAt r1 q with
    | .int nm, some sd, some kvs, some xs => cl "find_worth" [sd, .dic kvs, .int nm, .lst xs] (fun _ z => fwQ z fun b kvs' xs' => Q false (.bl b) ((r1.set t (.ow (.dic kvs'))).set q (.ow (.lst xs')))) (fun _ => False)
    | _, _, _, _ => False
  | xp, .popi i e, r, Q => (owAt r i).isSome = true ∧ evE xp e r fun _ k r1 => match k, owAt r1 i with
    | .int k, some xs => match ixN xs.length k with
      | some j => match xs[j]? with
        | some y => Q false y (r1.set i (.ow (.lst (xs.eraseIdx j))))
        | none => False
      | none => False
    | _, _ => False
def evO : (D → Env → Prop) → O → Env → (Tok → Env → Prop) → Prop
  | xp, .bor i, r, Q => match slAt r i with
    | some _ => Q (.bor i) r
    | none => False
  | xp, .ex e, r, Q => evE xp e r fun _ d r1 => Q (.val d) r1
def evOs : (D → Env → Prop) → Os → Env → (List Tok → Env → Prop) → Prop
  | xp, .nil, r, Q => Q [] r
  | xp, .cons o os, r, Q => evO xp o r fun t r1 => evOs xp os r1 fun ts r2 => Q (t :: ts) r2
def evT : (D → Env → Prop) → T → Env → (Bool → Env → Prop) → Prop
  | xp, .yes, r, Q => Q true r
  | xp, .val e, r, Q => evE xp e r fun _ d r1 => match d with
    | .bl b => Q b r1
    | _ => False
  | xp, .not t, r, Q => evT xp t r fun b r1 => Q (!b) r1
  | xp, .and a b, r, Q => evT xp a r fun c r1 => if c = true then evT xp b r1 Q else Q false r1
  | xp, .or a b, r, Q => evT xp a r fun c r1 => if c = true then Q true r1 else evT xp b r1 Q
def evI : (D → Env → Prop) → I → Env → (List D → Env → Prop) → Prop
  | xp, .seq e, r, Q => evE xp e r fun _ d r1 => match walkD d with
    | some xs => Q xs r1
    | none => False
  | xp, .zip a b, r, Q => evE xp a r fun _ d r1 => evE xp b r1 fun _ e r2 => match zipD d e with
    | some xs => Q xs r2
    | _ => False
  | xp, .enum a, r, Q => evE xp a r fun _ d r1 => match enumD d with
    | some xs => Q xs r1
    | none => False
  | xp, .zipn a b, r, Q => evE xp a r fun _ d r1 => evE xp b r1 fun _ e r2 => match zipD d e with
    | some xs => Q xs r2
    | _ => False
  | xp, .ezip a b, r, Q => evE xp a r fun _ d r1 => evE xp b r1 fun _ e r2 => match zipD d e with
    | some xs => Q (enumL 0 xs) r2
    | _ => False
  | xp, .rng1 a, r, Q => evE xp a r fun _ d r1 => match d with
    | .int j => in62 j = true ∧ Q (rangeL 0 1 j.toNat) r1
    | _ => False
  | xp, .rng2 a b, r, Q => evE xp a r fun _ d r1 => evE xp b r1 fun _ e r2 => match d, e with
    | .int i, .int j => in62 i = true ∧ in62 j = true ∧ Q (rangeL i 1 (j - i).toNat) r2
    | _, _ => False
  | xp, .rng3 a b c, r, Q => evE xp a r fun _ d r1 => evE xp b r1 fun _ e r2 => evE xp c r2 fun _ f r3 => match d, e, f with
    | .int i, .int j, .int k => in62 i = true ∧ in62 j = true ∧ k = -1 ∧ Q (rangeL i (-1) (i - j).toNat) r3
    | _, _, _ => False
  | _, .keys _, _, _ => False
  | xp, .txt e, r, Q => evE xp e r fun _ d r1 => match d with
    | .str s => s.length ≤ big ∧ Q (s.cps.toList.map fun c => .str ⟨#[c]⟩) r1
    | _ => False
end
variable (xp : D → Env → Prop)
/-- .. -/
def evL : L → Env → (Env → Prop) → Prop
  | .ite t a b, r, nx => evT cl xp t r fun c r1 => if c = true then evL a r1 nx else evL b r1 nx
  | .asg i e, r, nx => evE cl xp e r fun fl d r1 => i < r1.length ∧ nx (r1.set i (owS fl d))
  | .drop e, r, nx => evE cl xp e r fun _ _ r1 => nx r1
def evZ1 (i : Nat) (fl : Bool) (d : D) (r1 : Env) : Z1 → Env → (Env → Prop) → (Bool → D → Env → Prop) → Prop
  | .stop, r, nx, _ => nx (finE i r1 r)
  | .go z, r, nx, _ => (fl = true ∧ isTupD d = true ∧ evZ2 z d) ∧ nx (finE i r1 r)
  | .goapp p e, r, nx, _ => (fl = true ∧ isTupD d = true ∧ okP d p = true ∧ (match atD d p with
    | some (.lst ys) => ys.length < big
    | _ => False)) ∧ evE cl xp e r fun _ _ r2 => nx (finE i r1 r2)
  | .chk t z, r, nx, rt => evT cl xp t r fun c r2 => if c = true then rt false (.bl false) r2 else evZ1 i fl d r1 z r2 nx rt
  | .ift t z, r, nx, rt => evT cl xp t r fun c r2 => if c = true then evZ1 i fl d r1 z r2 nx rt else nx (finE i r1 r2)
mutual
def evS : S → Env → (Env → Prop) → (Bool → D → Env → Prop) → Prop
  | .asg i e, r, nx, _ => evE cl xp e r fun fl d r1 => i < r1.length ∧ nx (r1.set i (owS fl d))
  | .unp p e, r, nx, _ => evE cl xp e r fun _ d r1 => match bindP p d r1 with
    | some r2 => nx r2
    | none => False
  | .setix i k e, r, nx, _ => evE cl xp e r fun _ d r1 => (owAt r1 i).isSome = true ∧ evE cl xp k r1 fun _ n r2 => match n, owAt r2 i with
    | .int n, some xs => match ixN xs.length n with
      | some j => nx (r2.set i (.ow (.lst (xs.set j d))))
      | none => False
    | _, _ => False
  | .setk i k e, r, nx, _ => evE cl xp e r fun _ d r1 => (dicAt r1 i).isSome = true ∧ evE cl xp k r1 fun _ n r2 => match keyD n, dicAt r2 i with
    | some n, some kvs => kvs.length < big ∧ nx (r2.set i (.ow (.dic (putD kvs n d))))
    | _, _ => False
  | .unpk p i k e, r, nx, _ => evE cl xp e r fun _ d r1 => match d with
    | .tup [a, b] => match bindP p a r1 with
      | some r2 => (dicAt r2 i).isSome = true ∧ evE cl xp k r2 fun _ n r3 => match keyD n, dicAt r3 i with
        | some n, some kvs => kvs.length < big ∧ nx (r3.set i (.ow (.dic (putD kvs n b))))
        | _, _ => False
      | none => False
    | _ => False
  | .app i e, r, nx, _ => (owAt r i).isSome = true ∧ evE cl xp e r fun _ d r1 => match owAt r1 i with
    | some xs => xs.length < big ∧ nx (r1.set i (.ow (.lst (xs ++ [d]))))
    | none => False
  | .ext i e, r, nx, _ => (owAt r i).isSome = true ∧ evE cl xp e r fun _ d r1 => match d, owAt r1 i with
    | .lst ys, some xs => xs.length + ys.length ≤ big ∧ nx (r1.set i (.ow (.lst (xs ++ ys))))
    | .tup ys, some xs => xs.length + ys.length ≤ big ∧ nx (r1.set i (.ow (.lst (xs ++ ys))))
    | _, _ => False
  | .dropE e, r, nx, _ => evE cl xp e r fun _ _ r1 => nx r1
  | .clear i, r, nx, _ => match owAt r i with
    | some _ => nx (r.set i (.ow (.lst [])))
    | none => False
  | .revl i, r, nx, _ => match owAt r i with
    | some xs => nx (r.set i (.ow (.lst xs.reverse)))
    | none => False
  | .insl i k e, r, nx, _ => (owAt r i).isSome = true ∧ evE cl xp k r fun _ n r1 => evE cl xp e r1 fun _ d r2 => match n, owAt r2 i with
    | .int n, some xs => xs.length < big ∧ 0 ≤ n ∧ n ≤ (xs.length : Int) ∧ nx (r2.set i (.ow (.lst (xs.take n.toNat ++ [d] ++ xs.drop n.toNat))))
    | _, _ => False
  | .ite t a b, r, nx, rt => evT cl xp t r fun c r1 => if c = true then evB a r1 nx rt else evB b r1 nx rt
  | .for_ p it b, r, nx, rt => evI cl xp it r fun xs r1 => forL (fun x r2 k => match bindP p x r2 with
      | some r3 => evB b r3 k rt
      | none => False) xs r1 nx
  | .while_ t b, r, nx, rt => ∃ n, whL (fun r1 k => evT cl xp t r1 k) (fun r1 k => evB b r1 k rt) n r nx
  | .ret e, r, _, rt => evE cl xp e r rt
  | .retv i, r, _, rt => match r[i]? with
    | some (.sh d) => rt false d r
    | some (.ow d) => rt true d (r.set i .no)
    | _ => False
  | .retN, r, _, rt => rt false .non r
  | .retm e, r, _, rt => evE cl xp e r fun _ d r1 => match dicAt r1 1, owAt r1 3 with
    | some kvs, some xs => rt true (.tup [d, .dic kvs, .lst xs]) r1
    | _, _ => False
  | .raise c n, r, _, _ => match n with
    | none => xp (.exc c none) r
    | some e => evE cl xp e r fun _ d r1 => match d with
      | .int i => xp (.exc c (some i)) r1
      | _ => False
  | .never, _, _, _ => False
  | .try_ i j b, r, nx, rt => evL cl (fun x r1 => i < r1.length ∧ nx ((r1.set i (.sh x)).set j .no)) b r nx
  | .pass, r, nx, _ => nx r
def evB : B → Env → (Env → Prop) → (Bool → D → Env → Prop) → Prop
  | .nil, r, nx, _ => nx r
  | .cons s b, r, nx, rt => evS s r (fun r1 => evB b r1 nx rt) rt
  | .tells i e z, r, nx, rt => evE cl xp e r fun fl d r1 => i < r1.length ∧ evZ1 cl xp i fl d r1 z (r1.set i (.sh d)) nx rt
  | .loan b, r, nx, rt => match shAt r 1, shAt r 3 with
    | some d, some e => evB b ((r.set 1 (.ow d)).set 3 (.ow e)) nx rt
    | _, _ => False
end
end
def env0 (fn : Fn) (ds : List D) : Env := ds.map .sh ++ List.replicate (fn.N.length - ds.length) .no
def run0 (U : String → Option Fn) : Nat → Cl
  | 0, _, _, _, _ => False
  | n + 1, f, ds, Q, xp => match U f with
    | some fn => ds.length = fn.ps.length ∧ evB (run0 U n) (fun x _ => xp x) fn.body (env0 fn ds) (fun _ => Q false .non) (fun fl d _ => Q fl d)
    | none => False
/-- calls, so many deep -/
@[irreducible] def run (U : String → Option Fn) (n : Nat) : Cl := run0 U n
theorem run_eq (U : String → Option Fn) (n : Nat) : run U n = run0 U n := by unfold run; rfl
theorem run_zero {U : String → Option Fn} {f : String} {ds : List D} {Q : Bool → D → Prop} {xp : D → Prop} : run U 0 f ds Q xp = False := by rw [run_eq]; rfl
theorem run_succ {U : String → Option Fn} {n : Nat} {f : String} {ds : List D} {Q : Bool → D → Prop} {xp : D → Prop} : run U (n + 1) f ds Q xp = match U f with
    | some fn => ds.length = fn.ps.length ∧ evB (run U n) (fun x _ => xp x) fn.body (env0 fn ds) (fun _ => Q false .non) (fun fl d _ => Q fl d)
    | none => False := by rw [run_eq, run_eq]; rfl
end Wa

/-! what a tree stands for in the abstract heap, and what stays so -/
namespace Wa
open PySem PySem.Spec PyProof.Rows L2

/-- what the program's names stand for -/
class CM where
  mg : Str → Option Value
/-- an exception that was met, of the class cls, with the dict d -/
def XO (cls : Value) (d : Option Addr) (e : Addr) : HO := .ext fun h => ∃ (oe : Obj) (vs : Array Value), h.get? e = some oe ∧ Zc cls d oe ∧ oe.data = .fields vs
variable [CM]
mutual
/-- p: the pen's address; F: the lists that are never changed any more -/
def Rep (p : Addr) (F : Addr → Prop) (H : Hp) : D → V → Prop
  | .non, v => v = .non
  | .bl b, v => v = .bl b
  | .int i, v => v = .int i
  | .str s, v => v = .str s
  | .tup ds, v => ∃ a xs, v = .ref a ∧ H a = some (.tup xs) ∧ ds.length ≤ sizeLine ∧ Reps p F H ds xs
  | .lst ds, v => ∃ a xs, v = .ref a ∧ F a ∧ H a = some (.lst xs) ∧ ds.length ≤ sizeLine ∧ Reps p F H ds xs
  | .dic ds, v => ∃ a xs, v = .ref a ∧ F a ∧ Rd H a (.dK xs) ∧ ds.length ≤ sizeLine ∧ Repk p F H ds xs
  | .pen, v => v = .ref p
  | .exc c n, v => ∃ (e : Addr) (cls : Value) (d : Option Addr), v = .ref e ∧ F e ∧ H e = some (XO cls d e) ∧ CM.mg c = some cls ∧ (match n with
    | none => d = none
    | some i => ∃ dx, d = some dx ∧ F dx ∧ H dx = some (.xd [(("number" : Str), .int i)]))
def Reps (p : Addr) (F : Addr → Prop) (H : Hp) : List D → List V → Prop
  | [], xs => xs = []
  | d :: ds, xs => ∃ v vs, xs = v :: vs ∧ Rep p F H d v ∧ Reps p F H ds vs
def Repk (p : Addr) (F : Addr → Prop) (H : Hp) : List (Key × D) → List (Key × V) → Prop
  | [], xs => xs = []
  | (k, d) :: ds, xs => ∃ v vs, xs = (k, v) :: vs ∧ Rep p F H d v ∧ Repk p F H ds vs
end
/-- .. at its top: a list that may still be changed -/
def Top (p : Addr) (F : Addr → Prop) (H : Hp) (d : D) (v : V) : Prop := match d with
  | .lst ds => ∃ a xs, v = .ref a ∧ H a = some (.lst xs) ∧ ds.length ≤ sizeLine ∧ Reps p F H ds xs
  | .dic ds => ∃ a xs, v = .ref a ∧ Rd H a (.dK xs) ∧ ds.length ≤ sizeLine ∧ Repk p F H ds xs
  | _ => Rep p F H d v
/-- a dict may be locked meanwhile -/
inductive Lk : HO → HO → Prop
  | refl (o : HO) : Lk o o
  | dk (kvs : List (Key × V)) (q : Obj) : Lk (.dK kvs) (.frz q (.dK kvs))
theorem Lk.trans {a b c : HO} (h : Lk a b) (k : Lk b c) : Lk a c := by
  cases h with
  | refl => exact k
  | dk kvs q => cases k with | refl => exact .dk kvs q
theorem Lk.lst {xs : List V} {o : HO} (h : Lk (.lst xs) o) : o = .lst xs := by cases h; rfl
theorem Lk.ext {φ : Heap → Prop} {o : HO} (h : Lk (.ext φ) o) : o = .ext φ := by cases h; rfl
theorem Lk.xd {fs : List (Str × V)} {o : HO} (h : Lk (.xd fs) o) : o = .xd fs := by cases h; rfl
theorem Lk.frz {q : Obj} {u o : HO} (h : Lk (.frz q u) o) : o = .frz q u := by cases h; rfl
structure Step (F : Addr → Prop) (H : Hp) (F' : Addr → Prop) (H' : Hp) : Prop where
  mono : ∀ a, F a → F' a
  keep : ∀ a o, F a → H a = some o → ∃ o', H' a = some o' ∧ Lk o o'
  tups : ∀ a xs, H a = some (.tup xs) → H' a = some (.tup xs)
section
variable {p : Addr} {F F' F'' : Addr → Prop} {H H' H'' : Hp}
theorem Step.refl : Step F H F H := ⟨fun _ h => h, fun _ o _ h => ⟨o, h, .refl o⟩, fun _ _ h => h⟩
theorem Step.trans (a : Step F H F' H') (b : Step F' H' F'' H'') : Step F H F'' H'' :=
  ⟨fun x h => b.mono x (a.mono x h), fun x o h e => let ⟨o1, e1, l1⟩ := a.keep x o h e; let ⟨o2, e2, l2⟩ := b.keep x o1 (a.mono x h) e1; ⟨o2, e2, l1.trans l2⟩, fun x o e => b.tups x o (a.tups x o e)⟩
theorem Step.of_same (s : Same H H') : Step F H F H' := ⟨fun _ h => h, fun a o _ e => ⟨o, s a o e, .refl o⟩, fun a xs e => s a _ e⟩
theorem Step.lst (s : Step F H F' H') {a : Addr} {xs : List V} (f : F a) (e : H a = some (.lst xs)) : H' a = some (.lst xs) := by
  obtain ⟨o, e1, l⟩ := s.keep a _ f e
  rw [e1, l.lst]
theorem Step.ext (s : Step F H F' H') {a : Addr} {φ : Heap → Prop} (f : F a) (e : H a = some (.ext φ)) : H' a = some (.ext φ) := by
  obtain ⟨o, e1, l⟩ := s.keep a _ f e
  rw [e1, l.ext]
theorem Step.xd (s : Step F H F' H') {a : Addr} {fs : List (Str × V)} (f : F a) (e : H a = some (.xd fs)) : H' a = some (.xd fs) := by
  obtain ⟨o, e1, l⟩ := s.keep a _ f e
  rw [e1, l.xd]
theorem Step.frz (s : Step F H F' H') {a : Addr} {q : Obj} {u : HO} (f : F a) (e : H a = some (.frz q u)) : H' a = some (.frz q u) := by
  obtain ⟨o, e1, l⟩ := s.keep a _ f e
  rw [e1, l.frz]
theorem Step.rdK (s : Step F H F' H') {a : Addr} {xs : List (Key × V)} (f : F a) (e : Rd H a (.dK xs)) : Rd H' a (.dK xs) := by
  rcases e with e | ⟨q, e⟩
  · obtain ⟨o, e1, l⟩ := s.keep a _ f e
    cases l with
    | refl => exact .inl e1
    | dk _ q => exact .inr ⟨q, e1⟩
  · exact .inr ⟨q, s.frz f e⟩
theorem Same.rd (s : Same H H') {a : Addr} {u : HO} (e : Rd H a u) : Rd H' a u := e.imp (fun e => s _ _ e) fun ⟨q, e⟩ => ⟨q, s _ _ e⟩
mutual
theorem Rep.step (s : Step F H F' H') : ∀ (d : D) (v : V), Rep p F H d v → Rep p F' H' d v
  | .non, _, h => h
  | .bl _, _, h => h
  | .int _, _, h => h
  | .str _, _, h => h
  | .tup ds, v, h => by
    obtain ⟨a, xs, e, q, l, r⟩ := h
    exact ⟨a, xs, e, s.tups a xs q, l, Reps.step s ds xs r⟩
  | .lst ds, v, h => by
    obtain ⟨a, xs, e, f, q, l, r⟩ := h
    exact ⟨a, xs, e, s.mono a f, s.lst f q, l, Reps.step s ds xs r⟩
  | .dic ds, _, h => by
    obtain ⟨a, xs, e, f, q, l, r⟩ := h
    exact ⟨a, xs, e, s.mono a f, s.rdK f q, l, Repk.step s ds xs r⟩
  | .pen, _, h => h
  | .exc c n, _, h => by
    obtain ⟨e, cls, d, e1, f, q, m, k⟩ := h
    refine ⟨e, cls, d, e1, s.mono e f, s.ext f q, m, ?_⟩
    cases n with
    | none => exact k
    | some i =>
      obtain ⟨dx, e2, f2, q2⟩ := k
      exact ⟨dx, e2, s.mono dx f2, s.xd f2 q2⟩
theorem Reps.step (s : Step F H F' H') : ∀ (ds : List D) (vs : List V), Reps p F H ds vs → Reps p F' H' ds vs
  | [], _, h => h
  | d :: ds, xs, h => by
    obtain ⟨v, vs, e, a, b⟩ := h
    exact ⟨v, vs, e, Rep.step s d v a, Reps.step s ds vs b⟩
theorem Repk.step (s : Step F H F' H') : ∀ (ds : List (Key × D)) (vs : List (Key × V)), Repk p F H ds vs → Repk p F' H' ds vs
  | [], _, h => h
  | (k, d) :: ds, xs, h => by
    obtain ⟨v, vs, e, a, b⟩ := h
    exact ⟨v, vs, e, Rep.step s d v a, Repk.step s ds vs b⟩
end
theorem Rep.top : ∀ {d : D} {v : V}, Rep p F H d v → Top p F H d v
  | .non, _, h => h
  | .bl _, _, h => h
  | .int _, _, h => h
  | .str _, _, h => h
  | .tup _, _, h => h
  | .lst _, _, h => by
    obtain ⟨a, xs, e, f, q, l, r⟩ := h
    exact ⟨a, xs, e, q, l, r⟩
  | .dic _, _, h => by
    obtain ⟨a, xs, e, f, q, l, r⟩ := h
    exact ⟨a, xs, e, q, l, r⟩
  | .pen, _, h => h
  | .exc _ _, _, h => h
theorem Top.same (s : Same H H') : ∀ {d : D} {v : V}, Top p F H d v → Top p F H' d v
  | .non, _, h => h
  | .bl _, _, h => h
  | .int _, _, h => h
  | .str _, _, h => h
  | .tup _, _, h => Rep.step (Step.of_same s) _ _ h
  | .lst ds, _, h => by
    obtain ⟨a, xs, e, q, l, r⟩ := h
    exact ⟨a, xs, e, s a _ q, l, Reps.step (Step.of_same s) _ _ r⟩
  | .dic ds, _, h => by
    obtain ⟨a, xs, e, q, l, r⟩ := h
    exact ⟨a, xs, e, Same.rd s q, l, Repk.step (Step.of_same s) _ _ r⟩
  | .pen, _, h => h
  | .exc _ _, _, h => Rep.step (Step.of_same s) _ _ h
theorem Repk.length : ∀ {ds : List (Key × D)} {vs : List (Key × V)}, Repk p F H ds vs → vs.length = ds.length
  | [], _, h => by cases h; rfl
  | (k, d) :: ds, _, h => by
    obtain ⟨v, vs, e, _, b⟩ := h
    subst e
    simp [Repk.length b]
theorem Repk.any (k : Key) : ∀ {ds : List (Key × D)} {vs : List (Key × V)}, Repk p F H ds vs → (vs.any fun kv => decide (kv.1 = k)) = ds.any fun kv => decide (kv.1 = k)
  | [], _, h => by cases h; rfl
  | (j, d) :: ds, _, h => by
    obtain ⟨v, vs, e, _, b⟩ := h
    subst e
    rw [List.any_cons, List.any_cons, Repk.any k b]
theorem Repk.get (k : Key) : ∀ {ds : List (Key × D)} {vs : List (Key × V)}, Repk p F H ds vs → match getK ds k with
    | some d => ∃ v, valV vs k = some v ∧ Rep p F H d v
    | none => valV vs k = none
  | [], _, h => by cases h; exact rfl
  | (j, d) :: ds, _, h => by
    obtain ⟨v, vs, e, a, b⟩ := h
    subst e
    have ih := Repk.get k b
    unfold getK valV at ih ⊢
    rw [List.find?_cons, List.find?_cons]
    by_cases hj : j = k
    · subst hj
      simp only [decide_true]
      exact ⟨v, rfl, a⟩
    · simp only [hj, decide_false]
      exact ih
theorem Repk.map (k : Key) {d : D} {v : V} (hv : Rep p F H d v) : ∀ {ds : List (Key × D)} {vs : List (Key × V)}, Repk p F H ds vs → Repk p F H (ds.map fun kv => if kv.1 = k then (kv.1, d) else kv) (vs.map fun kv => if kv.1 = k then (kv.1, v) else kv)
  | [], _, h => by cases h; exact rfl
  | (j, e) :: ds, _, h => by
    obtain ⟨w, vs, e1, a, b⟩ := h
    subst e1
    rw [List.map_cons, List.map_cons]
    by_cases hj : j = k
    · rw [if_pos hj, if_pos hj]
      exact ⟨v, _, rfl, hv, Repk.map k hv b⟩
    · rw [if_neg hj, if_neg hj]
      exact ⟨w, _, rfl, a, Repk.map k hv b⟩
theorem Repk.append : ∀ {ds es : List (Key × D)} {vs ws : List (Key × V)}, Repk p F H ds vs → Repk p F H es ws → Repk p F H (ds ++ es) (vs ++ ws)
  | [], _, _, _, h, k => by cases h; exact k
  | (j, d) :: ds, _, _, _, h, k => by
    obtain ⟨v, vs, e, a, b⟩ := h
    subst e
    exact ⟨v, vs ++ _, rfl, a, Repk.append b k⟩
theorem Repk.put (k : Key) {d : D} {v : V} (hv : Rep p F H d v) {ds : List (Key × D)} {vs : List (Key × V)} (h : Repk p F H ds vs) : Repk p F H (putD ds k d) (putK vs k v) := by
  unfold putD putK
  rw [Repk.any k h]
  split
  · exact Repk.map k hv h
  · exact Repk.append h ⟨v, [], rfl, hv, rfl⟩
theorem Repk.merge : ∀ {es : List (Key × D)} {ws : List (Key × V)} {ds : List (Key × D)} {vs : List (Key × V)}, Repk p F H es ws → Repk p F H ds vs → Repk p F H (mergeD ds es) (mergeK vs ws)
  | [], _, _, _, h, k => by cases h; exact k
  | (j, d) :: es, _, _, _, h, k => by
    obtain ⟨v, vs, e, a, b⟩ := h
    subst e
    have z := Repk.merge b (Repk.put j a k)
    exact z
theorem putD_len (kvs : List (Key × D)) (k : Key) (v : D) : (putD kvs k v).length ≤ kvs.length + 1 := by
  unfold putD
  split
  · rw [List.length_map]; omega
  · rw [List.length_append]; simp
theorem mergeD_len : ∀ (more kvs : List (Key × D)), (mergeD kvs more).length ≤ kvs.length + more.length
  | [], kvs => Nat.le_refl _
  | p :: r, kvs => by
    have h1 := mergeD_len r (putD kvs p.1 p.2)
    have h2 := putD_len kvs p.1 p.2
    rw [List.length_cons]
    have h3 : mergeD kvs (p :: r) = mergeD (putD kvs p.1 p.2) r := rfl
    rw [h3]
    omega
theorem Reps.length : ∀ {ds : List D} {vs : List V}, Reps p F H ds vs → vs.length = ds.length
  | [], _, h => by cases h; rfl
  | d :: ds, _, h => by
    obtain ⟨v, vs, e, _, b⟩ := h
    subst e
    simp [Reps.length b]
theorem Reps.get : ∀ {ds : List D} {vs : List V} {i : Nat} {d : D}, Reps p F H ds vs → ds[i]? = some d → ∃ v, vs[i]? = some v ∧ Rep p F H d v
  | [], _, i, d, h, e => by simp at e
  | d :: ds, _, 0, d', h, e => by
    obtain ⟨v, vs, e1, a, b⟩ := h
    subst e1
    simp at e
    subst e
    exact ⟨v, rfl, a⟩
  | d :: ds, _, i + 1, d', h, e => by
    obtain ⟨v, vs, e1, a, b⟩ := h
    subst e1
    obtain ⟨w, q, r⟩ := Reps.get (i := i) b (by simpa using e)
    exact ⟨w, by simpa using q, r⟩
theorem Reps.append : ∀ {ds es : List D} {vs ws : List V}, Reps p F H ds vs → Reps p F H es ws → Reps p F H (ds ++ es) (vs ++ ws)
  | [], _, _, _, h, k => by cases h; exact k
  | d :: ds, _, _, _, h, k => by
    obtain ⟨v, vs, e, a, b⟩ := h
    subst e
    exact ⟨v, vs ++ _, rfl, a, Reps.append b k⟩
theorem Reps.take : ∀ (n : Nat) {ds : List D} {vs : List V}, Reps p F H ds vs → Reps p F H (ds.take n) (vs.take n)
  | 0, _, _, _ => by simp [Reps]
  | n + 1, [], _, h => by cases h; simp [Reps]
  | n + 1, d :: ds, _, h => by
    obtain ⟨v, vs, e, a, b⟩ := h
    subst e
    exact ⟨v, vs.take n, rfl, a, Reps.take n b⟩
theorem Reps.drop : ∀ (n : Nat) {ds : List D} {vs : List V}, Reps p F H ds vs → Reps p F H (ds.drop n) (vs.drop n)
  | 0, _, _, h => h
  | n + 1, [], _, h => by cases h; simp [Reps]
  | n + 1, d :: ds, _, h => by
    obtain ⟨v, vs, e, a, b⟩ := h
    subst e
    exact Reps.drop n b
theorem Reps.set : ∀ (n : Nat) {ds : List D} {vs : List V} {d : D} {v : V}, Reps p F H ds vs → Rep p F H d v → Reps p F H (ds.set n d) (vs.set n v)
  | _, [], _, _, _, h, _ => by cases h; simp [Reps]
  | 0, d :: ds, _, _, _, h, k => by
    obtain ⟨v, vs, e, a, b⟩ := h
    subst e
    exact ⟨_, _, rfl, k, b⟩
  | n + 1, d :: ds, _, _, _, h, k => by
    obtain ⟨v, vs, e, a, b⟩ := h
    subst e
    exact ⟨_, _, rfl, a, Reps.set n b k⟩
theorem Reps.eraseIdx : ∀ (n : Nat) {ds : List D} {vs : List V}, Reps p F H ds vs → Reps p F H (ds.eraseIdx n) (vs.eraseIdx n)
  | _, [], _, h => by cases h; simp [Reps]
  | 0, d :: ds, _, h => by
    obtain ⟨v, vs, e, a, b⟩ := h
    subst e
    exact b
  | n + 1, d :: ds, _, h => by
    obtain ⟨v, vs, e, a, b⟩ := h
    subst e
    exact ⟨_, _, rfl, a, Reps.eraseIdx n b⟩
theorem Reps.one {d : D} {v : V} (h : Rep p F H d v) : Reps p F H [d] [v] := ⟨v, [], rfl, h, rfl⟩
theorem Reps.reverse : ∀ {ds : List D} {vs : List V}, Reps p F H ds vs → Reps p F H ds.reverse vs.reverse
  | [], _, h => by cases h; simp [Reps]
  | d :: ds, _, h => by
    obtain ⟨v, vs, e, a, b⟩ := h
    subst e
    rw [List.reverse_cons, List.reverse_cons]
    exact Reps.append (Reps.reverse b) (Reps.one a)
theorem Reps.dropLast {ds : List D} {vs : List V} (h : Reps p F H ds vs) : Reps p F H ds.dropLast vs.dropLast := by
  rw [List.dropLast_eq_take, List.dropLast_eq_take, h.length]
  exact Reps.take _ h
theorem Reps.mapInt {ns : List Int} : Reps p F H (ns.map D.int) (ns.map V.int) := by
  induction ns with
  | nil => rfl
  | cons n r ih => exact ⟨_, _, rfl, rfl, ih⟩
theorem Reps.rep {ds : List D} {vs : List V} (h : Reps p F H ds vs) : ∀ k : Nat, Reps p F H (List.replicate k ds).flatten (List.replicate k vs).flatten
  | 0 => rfl
  | k + 1 => by
    rw [List.replicate_succ, List.replicate_succ, List.flatten_cons, List.flatten_cons]
    exact Reps.append h (Reps.rep h k)
theorem intsD_of : ∀ {ds : List D} {ns : List Int} {vs : List V}, intsD ds = some ns → Reps p F H ds vs → vs = ns.map V.int ∧ ds = ns.map D.int
  | [], ns, _, e, h => by cases h; cases e; exact ⟨rfl, rfl⟩
  | .int i :: ds, ns, _, e, h => by
    obtain ⟨v, vs, e1, a, b⟩ := h
    subst e1
    cases q : intsD ds with
    | none => simp [intsD, q] at e
    | some ms =>
      simp [intsD, q] at e
      subst e
      obtain ⟨h1, h2⟩ := intsD_of q b
      cases (show v = V.int i from a)
      exact ⟨by rw [h1]; rfl, by rw [h2]; rfl⟩
  | .non :: _, _, _, e, _ => by cases e
  | .bl _ :: _, _, _, e, _ => by cases e
  | .str _ :: _, _, _, e, _ => by cases e
  | .tup _ :: _, _, _, e, _ => by cases e
  | .lst _ :: _, _, _, e, _ => by cases e
  | .dic _ :: _, _, _, e, _ => by cases e
  | .pen :: _, _, _, e, _ => by cases e
  | .exc _ _ :: _, _, _, e, _ => by cases e
theorem intssD_of : ∀ {ds : List D} {kss : List (List Int)} {vs : List V}, intssD ds = some kss → Reps p F H ds vs → ∃ ks : List (Addr × List Int), vs = (ks.map fun q => V.ref q.1) ∧ ks.map (·.2) = kss ∧ ks.length = ds.length ∧ ∀ q ∈ ks, H q.1 = some (.tup (q.2.map V.int)) ∧ q.2.length ≤ sizeLine
  | [], kss, _, e, h => by cases h; cases e; exact ⟨[], rfl, rfl, rfl, fun q hq => nomatch hq⟩
  | .tup xs :: ds, kss, _, e, h => by
    obtain ⟨v, vs, e1, a, b⟩ := h
    subst e1
    cases q : intsD xs with
    | none => simp [intssD, q] at e
    | some ns =>
      cases q2 : intssD ds with
      | none => simp [intssD, q, q2] at e
      | some ms =>
        simp [intssD, q, q2] at e
        subst e
        obtain ⟨ks, rfl, h2, h3, h4⟩ := intssD_of q2 b
        obtain ⟨c, ys, rfl, hc, hl, hr⟩ := a
        obtain ⟨e3, e4⟩ := intsD_of q hr
        subst e3 e4
        refine ⟨(c, ns) :: ks, rfl, by rw [List.map_cons, h2], by rw [List.length_cons, List.length_cons, h3], fun z hz => ?_⟩
        rcases List.mem_cons.mp hz with rfl | hz
        · exact ⟨hc, by rw [List.length_map] at hl; exact hl⟩
        · exact h4 z hz
  | .non :: _, _, _, e, _ => by cases e
  | .bl _ :: _, _, _, e, _ => by cases e
  | .str _ :: _, _, _, e, _ => by cases e
  | .int _ :: _, _, _, e, _ => by cases e
  | .lst _ :: _, _, _, e, _ => by cases e
  | .dic _ :: _, _, _, e, _ => by cases e
  | .pen :: _, _, _, e, _ => by cases e
  | .exc _ _ :: _, _, _, e, _ => by cases e
theorem boolsD_of : ∀ {ds : List D} {ns : List Bool} {vs : List V}, boolsD ds = some ns → Reps p F H ds vs → vs = ns.map V.bl
  | [], ns, _, e, h => by cases h; cases e; rfl
  | .bl i :: ds, ns, _, e, h => by
    obtain ⟨v, vs, e1, a, b⟩ := h
    subst e1
    cases q : boolsD ds with
    | none => simp [boolsD, q] at e
    | some ms =>
      simp [boolsD, q] at e
      subst e
      have h1 := boolsD_of q b
      cases (show v = V.bl i from a)
      rw [h1]; rfl
  | .non :: _, _, _, e, _ => by cases e
  | .int _ :: _, _, _, e, _ => by cases e
  | .str _ :: _, _, _, e, _ => by cases e
  | .tup _ :: _, _, _, e, _ => by cases e
  | .lst _ :: _, _, _, e, _ => by cases e
  | .dic _ :: _, _, _, e, _ => by cases e
  | .pen :: _, _, _, e, _ => by cases e
  | .exc _ _ :: _, _, _, e, _ => by cases e
end

/-! ### as the layer's data -/
section
variable {K : PySem.W.Frag} {p : Addr} {F : Addr → Prop} {H : Hp}
mutual
theorem dp_of : ∀ (d : D) (n : Nat) (v : V), shp d n = true → Rep p F H d v → Dp K H v (toPy d)
  | .non, _, _, _, h => by cases h; exact .non
  | .bl b, _, _, _, h => by cases h; exact .bl b
  | .int i, _, _, _, h => by cases h; exact .int i
  | .str s, _, _, _, h => by cases h; exact .str s
  | .tup ds, 0, _, q, _ => by cases q
  | .tup ds, n + 1, v, q, h => by
    obtain ⟨a, xs, e, ha, _, r⟩ := h
    subst e
    exact .tup (SqT.of ha) (dps_of ds n xs q r)
  | .lst ds, 0, _, q, _ => by cases q
  | .lst ds, n + 1, v, q, h => by
    obtain ⟨a, xs, e, _, ha, _, r⟩ := h
    subst e
    exact .lst (SqL.of ha) (dps_of ds n xs q r)
  | .dic _, _, _, q, _ => by simp [shp] at q
  | .pen, _, _, q, _ => by simp [shp] at q
  | .exc _ _, _, _, q, _ => by simp [shp] at q
theorem dps_of : ∀ (ds : List D) (n : Nat) (vs : List V), shps ds n = true → Reps p F H ds vs → DpAll K H vs (toPys ds)
  | [], _, _, _, h => by cases h; exact .nil
  | d :: ds, n, _, q, h => by
    obtain ⟨v, vs, e, a, b⟩ := h
    subst e
    simp only [shps, Bool.and_eq_true] at q
    exact .cons (dp_of d n v q.1 a) (dps_of ds n vs q.2 b)
end
theorem dp_top {d : D} {v : V} (q : shp d 60 = true) (h : Top p F H d v) : Dp K H v (toPy d) := by
  cases d with
  | lst ds =>
    obtain ⟨a, xs, e, ha, _, r⟩ := h
    subst e
    exact .lst (SqL.of ha) (dps_of ds 59 xs q r)
  | dic _ => simp [shp] at q
  | _ => exact dp_of (p := p) (F := F) _ 60 v q h
mutual
theorem shp_lay : ∀ (d : D) (n : Nat), shp d n = true → (toPy d).canLay0 = true ∧ (toPy d).depth ≤ n
  | .non, n, _ => by simp [toPy, PyData.canLay0, PyData.depth]
  | .bl b, n, _ => by simp [toPy, PyData.canLay0, PyData.depth]
  | .int i, n, _ => by simp [toPy, PyData.canLay0, PyData.depth]
  | .str s, n, q => by
    have q' : PyData.strOk s = true := q
    simp [toPy, PyData.canLay0, PyData.depth, q']
  | .tup ds, 0, q => by cases q
  | .tup ds, n + 1, q => by
    obtain ⟨h1, h2⟩ := shps_lay ds n q
    simp only [toPy, PyData.canLay0, PyData.depth]
    exact ⟨h1, by omega⟩
  | .lst ds, 0, q => by cases q
  | .lst ds, n + 1, q => by
    obtain ⟨h1, h2⟩ := shps_lay ds n q
    simp only [toPy, PyData.canLay0, PyData.depth]
    exact ⟨h1, by omega⟩
  | .dic _, _, q => by simp [shp] at q
  | .pen, _, q => by simp [shp] at q
  | .exc _ _, _, q => by simp [shp] at q
theorem shps_lay : ∀ (ds : List D) (n : Nat), shps ds n = true → PyData.canLayAll0 (toPys ds) = true ∧ PyData.depthAll (toPys ds) ≤ n
  | [], n, _ => by simp [toPys, PyData.canLayAll0, PyData.depthAll]
  | d :: ds, n, q => by
    simp only [shps, Bool.and_eq_true] at q
    obtain ⟨h1, h2⟩ := shp_lay d n q.1
    obtain ⟨h3, h4⟩ := shps_lay ds n q.2
    simp only [toPys, PyData.canLayAll0, PyData.depthAll, h1, h3]
    exact ⟨rfl, by omega⟩
end
theorem shaped_of {d : D} (q : shp d 60 = true) : SeqAt.shaped (toPy d) = true := by
  obtain ⟨h1, h2⟩ := shp_lay d 60 q
  show ((toPy d).canLay0 && decide ((toPy d).depth ≤ 64)) = true
  rw [h1, Bool.true_and]
  exact decide_eq_true (by omega)
end
end Wa

/-! rules of the layer's kind that the layer lacks -/
namespace Wa
open PySem PySem.Spec PyProof.Rows L2

/-! ### set(t) of whole numbers, its length, sorted -/
theorem mem_dedupI {k : Int} : ∀ {l : List Int}, k ∈ dedupI l ↔ k ∈ l
  | [] => Iff.rfl
  | x :: r => by
    unfold dedupI
    by_cases h : r.contains x = true
    · rw [if_pos h, mem_dedupI, List.mem_cons]
      constructor
      · exact .inr
      · rintro (e | e)
        · subst e; exact List.contains_iff_mem.mp h
        · exact e
    · rw [if_neg h, List.mem_cons, List.mem_cons, mem_dedupI]
theorem nodup_dedupI : ∀ l : List Int, (dedupI l).Nodup
  | [] => List.nodup_nil
  | x :: r => by
    unfold dedupI
    by_cases h : r.contains x = true
    · rw [if_pos h]; exact nodup_dedupI r
    · rw [if_neg h]
      exact List.nodup_cons.mpr ⟨fun z => h (List.contains_iff_mem.mpr (mem_dedupI.mp z)), nodup_dedupI r⟩
theorem setR_card {w : World} {h : Heap} {a : Addr} {ns : List Int} {n : Nat} (R : SetR w h a (fun j => decide (j ∈ ns)) n) : n = (dedupI ns).length := by
  obtain ⟨o, es, ep, t, ho, hex, hd, g, nd, hm, hb, hf, hn, hr, hl⟩ := R
  have p : (es.toList.map keyOf).Perm (dedupI ns) := (List.perm_ext_iff_of_nodup nd (nodup_dedupI ns)).mpr fun k => by
    rw [mem_dedupI, ← hm k]
    exact decide_eq_true_iff
  have q := p.length_eq
  rw [List.length_map] at q
  rw [← q, Array.length_toList, hn]
def rSetI (K : PySem.W.Frag) (w : World) : List V → Hp → VK → Prop := fun xs H Q => ∃ (a : Addr) (ns : List Int), xs = [.ref a] ∧ SqT K H a (ns.map V.int) ∧ ns.length ≤ 1000 ∧ ∀ p, H p = none → Q (.ref p) (upd H p (SetO w p (fun j => decide (j ∈ ns)) (dedupI ns).length))
theorem cr_setI {X : Cx} (hc : X.calm = true) : CallR X (.type "set") (rSetI X.K X.w) := by
  intro pins s σ H xs us Q I r h
  obtain ⟨a, ns, rfl, hq, hl, q⟩ := h
  rw [Vals.ref1 r]
  obtain ⟨its, rv, pt, hz⟩ := I.tuple hq
  have hi : IntsAre its.toArray.toList ns := ints_of_vals rv
  refine call_set_tupI ns (I.ok.hd hc) (show s.heap.IsTuple a its.toArray from pt) hi (by unfold scanBound; omega) fun h' tk c R hcn k => ?_
  have e := setR_card R
  subst e
  exact ⟨.ref _, _, I.laid (t' := tk) k (Nat.le_refl _) (setO_new R), rfl, q _ (I.hok.fresh (Nat.le_refl _))⟩
/-! ### t[::-1] of a tuple -/
section
variable {prog : Program} {w : World} {A : Around} {E : Value → Shared → Prop} {s : Shared}
theorem adjust_rev (n : Nat) : Builtin.Slice.sliceAdjust none none (-1) (n : Int) = ((n : Int) - 1, -1) := by
  unfold Builtin.Slice.sliceAdjust
  have h1 : ((-1 : Int) < 0) := by decide
  simp only [h1, if_true]
theorem places_rev (n : Nat) : Builtin.Slice.slicePlaces ((n : Int) - 1) (-1) (-1) = n := by
  unfold Builtin.Slice.slicePlaces
  have h1 : ¬ ((-1 : Int) > 0) := by decide
  simp only [h1, if_false]
  split
  · show (((n : Int) - 1 - -1 - 1) / 1 + 1).toNat = n
    rw [Int.ediv_one]
    omega
  · show (0 : Int).toNat = n
    omega
theorem sliceApplied_rev {sl : Addr} {vl vu vs : Value} {n : Nat} {Q : Int × Int × Nat → Shared → Prop} (hs : s.heap.IsSliceOf sl vl vu vs) (pl : IsPart vl none) (pu : IsPart vu none) (ps : IsPart vs (some (-1)))
    (h : Q ((n : Int) - 1, -1, n) s) : wpAny (model prog w) A (Builtin.Slice.sliceApplied (.ref sl) (pure (n : Int))) Q E s := by
  obtain ⟨os, hos, hcs, hds⟩ := id hs
  unfold Builtin.Slice.sliceApplied Builtin.Slice.sliceFields
  refine wpAny_bind (wpAny_bind (wpAny_field hos hds (x := vl) rfl (wpAny_bind (wpAny_field hos hds (x := vu) rfl (wpAny_bind (wpAny_field hos hds (x := vs) rfl (wpAny_pure ?_)))))))
  refine wpAny_bind (HT.slicePart_ ps ?_)
  show wpAny _ _ (if ((-1 : Int) == 0) = true then _ else _) _ _ s
  rw [if_neg (by decide)]
  refine wpAny_bind (HT.slicePart_ pl (wpAny_bind (HT.slicePart_ pu (wpAny_bind (wpAny_pure ?_)))))
  show wpAny _ _ (match Builtin.Slice.sliceAdjust none none (-1) (n : Int) with | (lo, hi) => pure (lo, (-1 : Int), Builtin.Slice.slicePlaces lo hi (-1))) _ _ s
  rw [adjust_rev]
  show wpAny _ _ (pure ((n : Int) - 1, (-1 : Int), Builtin.Slice.slicePlaces ((n : Int) - 1) (-1) (-1))) _ _ s
  rw [places_rev]
  exact wpAny_pure h
theorem fm_congr {α β : Type} {f g : α → Option β} : ∀ {l : List α}, (∀ x ∈ l, f x = g x) → l.filterMap f = l.filterMap g
  | [], _ => rfl
  | x :: l, h => by
    rw [List.filterMap_cons, List.filterMap_cons, h x List.mem_cons_self, fm_congr fun y hy => h y (List.mem_cons_of_mem _ hy)]
theorem rev_pick {α : Type} (l : List α) : ((List.range l.length).filterMap fun (m : Nat) => l[(((l.length : Int) - 1) + (m : Int) * (-1)).toNat]?) = l.reverse := by
  have e : ((List.range l.length).filterMap fun (m : Nat) => l[(((l.length : Int) - 1) + (m : Int) * (-1)).toNat]?) = (List.range l.length).filterMap fun (m : Nat) => l.reverse.toArray[m]? := by
    refine fm_congr fun m hm => ?_
    have hl := List.mem_range.mp hm
    rw [List.getElem?_toArray, List.getElem?_reverse hl]
    congr 1
    omega
  have k := PySem.W.krv_all l.reverse.toArray
  rw [List.size_toArray, List.length_reverse] at k
  rw [e]
  exact k
theorem getItem_tuple_rev {t sl : Addr} {items : Array Value} {vl vu vs : Value} {Q : Value → Shared → Prop} (ht : IsTup s.heap t items) (hs : s.heap.IsSliceOf sl vl vu vs) (pl : IsPart vl none) (pu : IsPart vu none) (ps : IsPart vs (some (-1)))
    (h : Q (.ref s.heap.objs.size) { s with heap := s.heap.push { cls := .type "tuple", data := .seq items.toList.reverse.toArray } })
    (hsz : items.size ≤ sizeLine) : wpAny (model prog w) A (getItem (.ref t) (.ref sl)) Q E s := by
  have htake : sizeOk (.seq items.toList.reverse.toArray) := by
    show items.toList.reverse.toArray.size ≤ sizeLine
    rw [List.size_toArray, List.length_reverse, Array.length_toList]
    exact hsz
  obtain ⟨os, hos, hcs, hds⟩ := id hs
  have hTs : s.TypeIs (.ref sl) "slice" := ⟨os, hos, hcs⟩
  unfold getItem
  try with_reducible refine wpAny_holding ?_
  first | refine wpAny_bind (wpAny_pure ?_) | skip
  refine wpAny_bind (wpAny_sequenceKey ht.typeIs (by decide) ?_)
  refine wpAny_bind (wpAny_callSpecial?_slot (name := Str.ofString "__getitem__") ht.typeIs PyProof.Rows.slot_tuple_getitem
    (wpAny_call_entry PyProof.Rows.slot_tuple_getitem ht.typeIs entry_tuple_getitem ?_ (args_tuple_getitem _ _)))
  show wpAny _ _ (Builtin.Tuple.tupleItemsOf (.ref t) >>= _) _ _ s
  refine wpAny_bind (tupleItemsOf_ ht ?_)
  refine wpAny_bind (wpAny_typeOf hTs ?_)
  rw [if_pos (by decide)]
  refine wpAny_bind (sliceApplied_rev hs pl pu ps ?_)
  have hno : ¬ ((((items.size : Int) - 1) == 0 && (-1 : Int) == 1 && items.size == items.size) = true) := by
    intro q
    rw [Bool.and_eq_true, Bool.and_eq_true] at q
    exact absurd q.1.2 (by decide)
  show wpAny _ _ (if (((items.size : Int) - 1) == 0 && (-1 : Int) == 1 && items.size == items.size) = true then _ else _) _ _ s
  have pick : ((List.range items.size).filterMap fun (m : Nat) => items[(((items.size : Int) - 1) + (m : Int) * (-1)).toNat]?).toArray = items.toList.reverse.toArray := by
    have := rev_pick items.toList
    rw [Array.length_toList] at this
    rw [← this]
    congr 1
    refine fm_congr fun m _ => ?_
    rw [Array.getElem?_toList]
  rw [if_neg hno, pick]
  first
    | exact wpAny_bind (m := Builtin.Tuple.tupleExact _) (wpAny_newObj_type (wpAny_pure ⟨_, rfl, wpAny_pure h⟩) htake)
    | exact wpAny_bind (m := Builtin.Tuple.tupleExact _) (wpAny_newObj_type (wpAny_bind (wpAny_pure (wpAny_pure ⟨_, rfl, wpAny_pure h⟩))) htake)
    | exact wpAny_bind (wpAny_bind (m := Builtin.Tuple.tupleExact _) (wpAny_newObj_type (wpAny_pure (wpAny_pure ⟨_, rfl, wpAny_pure h⟩)) htake))
    | exact wpAny_bind (wpAny_bind (m := Builtin.Tuple.tupleExact _) (wpAny_newObj_type (wpAny_pure ⟨_, rfl, wpAny_pure h⟩) htake))
end
def tRevA (K : PySem.W.Frag) (te : TE) : TE := fun σ H Q => te σ H fun x H1 => ∃ a xs, x = .ref a ∧ ((SqL K H1 a xs ∧ ∀ p, H1 p = none → Q (.ref p) (upd H1 p (.lst xs.reverse))) ∨ (SqT K H1 a xs ∧ ∀ p, H1 p = none → Q (.ref p) (upd H1 p (.tup xs.reverse))))
theorem pe_revA {X : Cx} {e : Expr} {te : TE} {k : Nat} {p1 p2 p3 pos : Pos} (he : PE X e te) : PE X (.Subscript e (.Slice none none (some (.UnaryOp .USub (.Constant (.int 1) k p1) p2)) p3) pos) (tRevA X.K te) := by
  refine ⟨fun pins s σ H Q I h => ?_⟩
  refine Subscript_ (thn (he.run pins s σ H _ I h) fun v s1 ⟨x, H1, I1, r1, q1⟩ => ?_)
  obtain ⟨a, xs, ex, q⟩ := q1
  subst ex
  cases r1
  have hst : PO X (some (.UnaryOp .USub (.Constant (.int 1) k p1) p2)) (tPart (tUn (rU fun i => .int (-i)) (tC (.int 1)))) := po_some (pe_un un_neg pe_int)
  refine wpAny_Slice (thn (po_none.run pins s1 σ H1 (fun o H2 => o = none ∧ H2 = H1) I1 ⟨rfl, rfl⟩) fun vl s2 ⟨l, H2, I2, pl, el, e2⟩ => ?_)
  subst el e2
  refine thn (po_none.run pins s2 σ H2 (fun o H3 => o = none ∧ H3 = H2) I2 ⟨rfl, rfl⟩) fun vu s3 ⟨u, H3, I3, pu, eu, e3⟩ => ?_
  subst eu e3
  refine thn (hst.run pins s3 σ H3 (fun o H4 => o = some (-1) ∧ H4 = H3) I3 ⟨1, rfl, -1, rfl, rfl, rfl⟩) fun vs s4 ⟨o, H4, I4, ps, eo, e4⟩ => ?_
  subst eo e4
  have I5 : Inv X pins σ H4 { s4 with heap := s4.heap.push { cls := .type "slice", data := .fields #[vl, vu, vs] } } := I4.kept (t' := s4.toks) fun b ob q => Heap.get?_push_of_some _ q
  show wpAny (model X.prog X.w) X.A (subscriptTail e (.Slice none none (some (.UnaryOp .USub (.Constant (.int 1) k p1) p2)) p3) (.ref a) (.ref s4.heap.objs.size)) (EP X pins σ Q) X.xe { s4 with heap := s4.heap.push { cls := .type "slice", data := .fields #[vl, vu, vs] } }
  rcases q with ⟨hx, q⟩ | ⟨hx, q⟩
  · obtain ⟨its, r, ht, hz⟩ := I5.list hx
    have hlen := r.length
    refine tail_any (ops := [.ref a, .ref s4.heap.objs.size]) ht.isList.typeIs (PySem.slot_list_getitem.lookup) ?_ (by with_unfolding_all rfl)
    refine wpAny_getItem_list_slice ht.isList (Heap.IsSliceOf.new _ vl vu vs) pl pu ps (by decide) ?_ (by rw [List.size_toArray]; omega)
    rw [PySem.W.krv_pick]
    refine ⟨.ref _, _, I5.laid (t' := s4.toks) (o := .lst xs.reverse) (fun b ob q => Heap.get?_push_of_some _ q) (Nat.le_refl _) ?_, rfl, q _ (I5.hok.fresh (Nat.le_refl _))⟩
    exact ⟨by rw [List.length_reverse]; exact hz, _, 0, r.reverse, Heap.get?_push_size _ rfl⟩
  · obtain ⟨its, r, ht, hz⟩ := I5.tuple hx
    have hlen := r.length
    refine tail_any (ops := [.ref a, .ref s4.heap.objs.size]) ht.typeIs PyProof.Rows.slot_tuple_getitem.lookup ?_ (by with_unfolding_all rfl)
    refine getItem_tuple_rev ht (Heap.IsSliceOf.new _ vl vu vs) pl pu ps ?_ (by rw [List.size_toArray]; omega)
    refine ⟨.ref _, _, I5.laid (t' := s4.toks) (o := .tup xs.reverse) (fun b ob q => Heap.get?_push_of_some _ q) (Nat.le_refl _) ?_, rfl, q _ (I5.hok.fresh (Nat.le_refl _))⟩
    exact ⟨by rw [List.length_reverse]; exact hz, _, r.reverse, IsTup.new _ _⟩

/-! max(t) of a tuple of whole numbers -/
section
variable {prog : Program} {w : World} {A : Around} {E : Value → Shared → Prop} {s : Shared} {l : Addr} {its : List Value} {ns : List Int}
theorem max_intTup {xs : Array (Int × PySem.Tok)} {Q : Value → Shared → Prop} (hh : A.handled = none) (hl : s.heap.IsTuple l (intItems xs)) (hne : 0 < xs.size)
    (h : ∀ v h' tk, (intItems xs)[argBest (fun i j => decide (numAt xs i > numAt xs j)) (xs.size - 1)]? = some v → (∀ b o, s.heap.get? b = some o → h'.get? b = some o) → Q v { s with heap := h', toks := tk }) :
    wpAny (model prog w) A (call (.builtin "max") [.ref l]) Q E s := by
  have hlt : l < s.heap.objs.size := by
    obtain ⟨o, ho, _⟩ := id hl
    exact Heap.lt_size ho
  refine call_max_walk (wpAny_pyIter_tuple hl ?_)
  refine ⟨s.heap.objs.size, [s.heap.objs.size, l], [s.heap.objs.size], (intItems xs).size, _, _, _, rfl, Walks.tuple (A := A.in1) hh _ l (Nat.ne_of_lt hlt) (intItems xs), ⟨⟨_, Heap.get?_push_size _ rfl, rfl, rfl⟩, ?_⟩, fun b hb => ?_, by simpa [intItems] using hne, CmpOf.ints_gt (numAt xs) (fun _ _ => intItems_at), fun v h' tk hP hk => ?_⟩
  · exact IsTup.push hl _
  · have hb' : b = s.heap.objs.size ∨ b = l := by simpa using hb
    show b < (s.heap.push _).objs.size
    rw [size_push']
    rcases hb' with rfl | rfl
    · exact Nat.lt_succ_self _
    · exact Nat.lt_succ_of_lt hlt
  · exact h v h' tk (by simpa [intItems] using hP) fun b o e => hk b o (by simpa using Nat.ne_of_lt (Heap.lt_size e)) (Heap.get?_push_of_some _ e)
end
theorem max_rawT {prog : Program} {w : World} {A : Around} {E : Value → Shared → Prop} {s : Shared} {l : Addr} {its : List Value} {ns : List Int} {Q : Value → Shared → Prop} (hh : A.handled = none) (hl : s.heap.IsTuple l its.toArray) (hi : IntsAre its ns) (hne : 0 < ns.length)
    (h : ∀ h' tk M t', (∀ b o, s.heap.get? b = some o → h'.get? b = some o) → M ∈ ns → (∀ a, a ∈ ns → a ≤ M) → Q (.int M t') { s with heap := h', toks := tk }) : wpAny (model prog w) A (call (.builtin "max") [.ref l]) Q E s := by
  obtain ⟨xs, e⟩ := hi.allInts.items
  have hn : numsOf (intItems xs).toList = ns := by rw [← e]; exact hi.numsOf
  rw [nums_intItems] at hn
  subst hn
  rw [e] at hl
  have hsz : 0 < xs.size := by simpa using hne
  refine max_intTup hh hl hsz fun v h' tk hv hk => ?_
  obtain ⟨t, rfl⟩ := intItems_at hv
  obtain ⟨h1, h2⟩ := argBest_gt (numAt xs) (xs.size - 1)
  refine h h' tk _ t hk ?_ fun a ha => ?_
  · rw [numAt_eq]; exact PySem.getD_mem (by rw [List.length_map, Array.length_toList]; omega)
  · obtain ⟨j, hj, rfl⟩ := mem_getD ha
    rw [List.length_map, Array.length_toList] at hj
    rw [← numAt_eq]; exact h2 j (by omega)
/-- max of a list or a tuple of whole numbers -/
def rMaxA (K : PySem.W.Frag) : List V → Hp → VK → Prop := fun vs H Q => ∃ (a : Addr) (ns : List Int), vs = [V.ref a] ∧ (SqL K H a (ns.map V.int) ∨ SqT K H a (ns.map V.int)) ∧ 0 < ns.length ∧ ∀ m, m ∈ ns → (∀ y, y ∈ ns → y ≤ m) → Q (.int m) H
theorem cr_maxA {X : Cx} (hc : X.calm = true) : CallR X (.builtin "max") (rMaxA X.K) := by
  intro pins s σ H vs us Q I r h
  obtain ⟨a, ns, rfl, hs, hne, q⟩ := h
  rw [Vals.ref1 r]
  rcases hs with hs | hs
  · obtain ⟨its, rv, hl, _⟩ := I.list hs
    exact max_raw (I.ok.hd hc) hl.isList rv.ints hne fun h' tk m t' hk h1 h2 => ⟨.int _, H, I.kept hk, ⟨_, rfl⟩, q m h1 h2⟩
  · obtain ⟨its, rv, hl, _⟩ := I.tuple hs
    exact max_rawT (I.ok.hd hc) (show s.heap.IsTuple a its.toArray from hl) rv.ints hne fun h' tk m t' hk h1 h2 => ⟨.int _, H, I.kept hk, ⟨_, rfl⟩, q m h1 h2⟩

/-! min(t) of a tuple of whole numbers -/
section
variable {prog : Program} {w : World} {A : Around} {E : Value → Shared → Prop} {s : Shared} {l : Addr} {its : List Value} {ns : List Int}
theorem min_intTup {xs : Array (Int × PySem.Tok)} {Q : Value → Shared → Prop} (hh : A.handled = none) (hl : s.heap.IsTuple l (intItems xs)) (hne : 0 < xs.size)
    (h : ∀ v h' tk, (intItems xs)[argBest (fun i j => decide (numAt xs i < numAt xs j)) (xs.size - 1)]? = some v → (∀ b o, s.heap.get? b = some o → h'.get? b = some o) → Q v { s with heap := h', toks := tk }) :
    wpAny (model prog w) A (call (.builtin "min") [.ref l]) Q E s := by
  have hlt : l < s.heap.objs.size := by
    obtain ⟨o, ho, _⟩ := id hl
    exact Heap.lt_size ho
  refine call_min_walk (wpAny_pyIter_tuple hl ?_)
  refine ⟨s.heap.objs.size, [s.heap.objs.size, l], [s.heap.objs.size], (intItems xs).size, _, _, _, rfl, Walks.tuple (A := A.in1) hh _ l (Nat.ne_of_lt hlt) (intItems xs), ⟨⟨_, Heap.get?_push_size _ rfl, rfl, rfl⟩, ?_⟩, fun b hb => ?_, by simpa [intItems] using hne, CmpOf.ints_lt (numAt xs) (fun _ _ => intItems_at), fun v h' tk hP hk => ?_⟩
  · exact IsTup.push hl _
  · have hb' : b = s.heap.objs.size ∨ b = l := by simpa using hb
    show b < (s.heap.push _).objs.size
    rw [size_push']
    rcases hb' with rfl | rfl
    · exact Nat.lt_succ_self _
    · exact Nat.lt_succ_of_lt hlt
  · exact h v h' tk (by simpa [intItems] using hP) fun b o e => hk b o (by simpa using Nat.ne_of_lt (Heap.lt_size e)) (Heap.get?_push_of_some _ e)
end
theorem min_rawT {prog : Program} {w : World} {A : Around} {E : Value → Shared → Prop} {s : Shared} {l : Addr} {its : List Value} {ns : List Int} {Q : Value → Shared → Prop} (hh : A.handled = none) (hl : s.heap.IsTuple l its.toArray) (hi : IntsAre its ns) (hne : 0 < ns.length)
    (h : ∀ h' tk M t', (∀ b o, s.heap.get? b = some o → h'.get? b = some o) → M ∈ ns → (∀ a, a ∈ ns → M ≤ a) → Q (.int M t') { s with heap := h', toks := tk }) : wpAny (model prog w) A (call (.builtin "min") [.ref l]) Q E s := by
  obtain ⟨xs, e⟩ := hi.allInts.items
  have hn : numsOf (intItems xs).toList = ns := by rw [← e]; exact hi.numsOf
  rw [nums_intItems] at hn
  subst hn
  rw [e] at hl
  have hsz : 0 < xs.size := by simpa using hne
  refine min_intTup hh hl hsz fun v h' tk hv hk => ?_
  obtain ⟨t, rfl⟩ := intItems_at hv
  obtain ⟨h1, h2⟩ := argBest_lt (numAt xs) (xs.size - 1)
  refine h h' tk _ t hk ?_ fun a ha => ?_
  · rw [numAt_eq]; exact PySem.getD_mem (by rw [List.length_map, Array.length_toList]; omega)
  · obtain ⟨j, hj, rfl⟩ := mem_getD ha
    rw [List.length_map, Array.length_toList] at hj
    rw [← numAt_eq]; exact h2 j (by omega)
/-- min of a list or a tuple of whole numbers -/
def rMinA (K : PySem.W.Frag) : List V → Hp → VK → Prop := fun vs H Q => ∃ (a : Addr) (ns : List Int), vs = [V.ref a] ∧ (SqL K H a (ns.map V.int) ∨ SqT K H a (ns.map V.int)) ∧ 0 < ns.length ∧ ∀ m, m ∈ ns → (∀ y, y ∈ ns → m ≤ y) → Q (.int m) H
theorem cr_minA {X : Cx} (hc : X.calm = true) : CallR X (.builtin "min") (rMinA X.K) := by
  intro pins s σ H vs us Q I r h
  obtain ⟨a, ns, rfl, hs, hne, q⟩ := h
  rw [Vals.ref1 r]
  rcases hs with hs | hs
  · obtain ⟨its, rv, hl, _⟩ := I.list hs
    exact min_raw (I.ok.hd hc) hl.isList rv.ints hne fun h' tk m t' hk h1 h2 => ⟨.int _, H, I.kept hk, ⟨_, rfl⟩, q m h1 h2⟩
  · obtain ⟨its, rv, hl, _⟩ := I.tuple hs
    exact min_rawT (I.ok.hd hc) (show s.heap.IsTuple a its.toArray from hl) rv.ints hne fun h' tk m t' hk h1 h2 => ⟨.int _, H, I.kept hk, ⟨_, rfl⟩, q m h1 h2⟩

/-! len(set(x)) of a list or a tuple of whole numbers -/
theorem met_nodup (val : Nat → Int) : ∀ i, (firstMet val i).Nodup
  | 0 => by rw [firstMet_zero]; exact List.nodup_nil
  | i + 1 => by
    rw [firstMet_succ]
    unfold step_dedup
    split
    · exact met_nodup val i
    · rename_i h
      refine List.nodup_append.mpr ⟨met_nodup val i, by simp, fun a ha b hb => ?_⟩
      rw [List.mem_singleton.mp hb]
      rintro rfl
      exact h (List.any_eq_true.mpr ⟨_, ha, beq_self_eq_true _⟩)
theorem met_card (ns : List Int) : (firstMet (fun i => ns.getD i 0) ns.length).length = (dedupI ns).length := by
  refine ((List.perm_ext_iff_of_nodup (met_nodup _ _) (nodup_dedupI ns)).mpr fun k => ?_).length_eq
  rw [mem_dedupI]
  have h := firstMet_any (fun i => ns.getD i 0) ns.length k
  have e : (List.range ns.length).map (fun i => ns.getD i 0) = ns := by
    apply List.ext_getElem?
    intro j
    rw [List.getElem?_map]
    by_cases hj : j < ns.length
    · rw [List.getElem?_range hj, List.getElem?_eq_getElem hj, Option.map_some, List.getD_eq_getElem?_getD, List.getElem?_eq_getElem hj]
      rfl
    · rw [List.getElem?_eq_none (by simpa using hj), List.getElem?_eq_none (by simpa using hj)]
      rfl
  rw [e] at h
  have h1 : ∀ l : List Int, l.any (· == k) = true ↔ k ∈ l := fun l => by
    rw [List.any_eq_true]
    exact ⟨fun ⟨x, hx, e⟩ => (eq_of_beq e) ▸ hx, fun hx => ⟨k, hx, beq_self_eq_true k⟩⟩
  rw [← h1, h, h1]
/-! list.extend of a list or a tuple -/
theorem list_extend_tup (l : Addr) (items : Array Value) (n : Nat) (b : Addr) (items2 : Array Value) (hs0 : ¬(!items.isEmpty && Builtin.List.listTooLong (items.size + items2.size)) = true) (hs1 : items.size ≤ sizeLine) (hs2 : items.size + items2.size ≤ sizeLine + 1) :
    Meets (Builtin.«list.extend» ⟨[.ref l, .ref b], []⟩) (fun _ R s => s.heap.get? l = some { cls := .type "list", dict := none, data := .seq items n, slots := #[] } ∧ IsTup s.heap b items2 ∧ R (.ok (.ret Value.none)) { s with heap := s.heap.update l (Obj.mapSeq fun x => x ++ items2), toks := s.toks }) :=
  .of_wp fun prog w A R s h => by
    obtain ⟨hl, ⟨o, ho, hc, n2, hd⟩, h⟩ := h
    show wpAny _ _ (Builtin.List.listExtendWith (.ref l) (.ref b) .none) _ _ s
    unfold Builtin.List.listExtendWith
    refine wpAny_bind (wpAny_typeOf ⟨o, ho, hc⟩ ?_)
    have h1 : (Builtin.List.listSameRef (.ref l) (.ref b) || Value.type "tuple" == Value.type "list" || Value.type "tuple" == Value.type "tuple") = true := by simp
    simp only [h1, if_true]
    refine wpAny_bind ?_
    unfold Builtin.List.listItems
    refine wpAny_bind (wpAny_seqItems ho hd (wpAny_pure ?_))
    refine wpAny_bind ?_
    refine wpAny_bind (wpAny_seqItems hl rfl (wpAny_pure ?_))
    rw [if_neg hs0]
    show wpAny _ A.in1 (updateSeq l (· ++ items2) >>= fun _ => ret Value.none) _ _ s
    refine wpAny_bind (wpAny_updateSeq hl rfl (hz := hs1) (_hz' := by rw [Array.size_append]; exact hs2) ?_)
    exact wpAny_pure ⟨_, rfl, h⟩
def rExtendA (K : PySem.W.Frag) : V → List V → Hp → VK → Prop := fun x vs H Q => ∃ l b xs zs, x = .ref l ∧ vs = [.ref b] ∧ H l = some (.lst xs) ∧ (H b = some (.lst zs) ∨ SqT K H b zs) ∧ xs.length + zs.length ≤ sizeLine ∧ Q .non (upd H l (.lst (xs ++ zs)))
theorem mt_extendA {X : Cx} : MtM X "list.extend" (rExtendA X.K) := by
  intro pins s σ H x vs v us Q I rx rv h
  obtain ⟨l, b, xs, zs, rfl, rfl, hH, hB, hz, q⟩ := h
  rcases hB with hB | hB
  · exact mt_extend pins s σ H _ _ v us Q I rx rv ⟨l, b, xs, zs, rfl, rfl, hH, hB, hz, q⟩
  cases rx
  obtain ⟨u, rfl, ru⟩ := rv.one
  cases ru
  obtain ⟨z, its, n, r, hl, e⟩ := I.lstM hH
  obtain ⟨its2, r2, pt, hz2⟩ := I.tuple hB
  have hl2 := r2.length
  have hsz : its.toArray.size + its2.toArray.size ≤ sizeLine := by rw [List.size_toArray, List.size_toArray]; omega
  have hlong : ¬ (!its.toArray.isEmpty && Builtin.List.listTooLong (its.toArray.size + its2.toArray.size)) = true := by
    rw [notLongL hsz, Bool.and_false]
    exact Bool.false_ne_true
  refine call_meets F.slot_list_extend ⟨_, e, rfl⟩ F.entry_list_extend (F.args_list_extend_2 _ _)
    (list_extend_tup l its.toArray n b its2.toArray hlong (by rw [List.size_toArray]; omega) (by omega)) ⟨e, pt, ?_⟩
  refine ⟨.non, _, I.lset (its' := its ++ its2) hH e (by simp) (r.append r2) ?_, rfl, q⟩
  rw [List.length_append]
  omega

/-! sorted(d) of a dict whose keys are whole numbers -/
theorem cr_sortedDA {X : Cx} (hcalm : X.calm = true) : CallR X (.builtin "sorted") (fun xs H Q => ∃ (a : Addr) (kvs : List (Key × V)) (ks : List Int), xs = [.ref a] ∧ Rd H a (.dK kvs) ∧ kvs.map (·.1) = ks.map Sum.inl ∧
    ∀ (ys : List Int) (p : Addr), ys.Perm ks → ys.Pairwise (· ≤ ·) → H p = none → Q (.ref p) (upd H p (.lst (ys.map V.int)))) := by
  intro pins s σ H xs us Q I r q
  obtain ⟨a, kvs, ks, ex, hd, hks, q⟩ := q
  subst ex
  obtain ⟨u, eu, rx⟩ := vals1 r
  subst eu
  cases rx
  obtain ⟨z, lo, vs, rel, dd⟩ := dk_rd I.hok hd
  obtain ⟨ep, hat⟩ := dd.dictAt
  have hkeys : vs.map (·.1) = ks.map Sum.inl := rel.keys.symm.trans hks
  have hl : vs.length = ks.length := by
    have e := congrArg List.length hkeys
    rw [List.length_map, List.length_map] at e
    exact e
  have hkl : kvs.length = ks.length := by
    have e := congrArg List.length hks
    rw [List.length_map, List.length_map] at e
    exact e
  have h16 : vs.length ≤ sizeLine := by rw [hl, ← hkl]; exact z
  refine Calls.call_function_entry PyProof.Rows.kind_sorted PyProof.Rows.plain_sorted PyProof.Rows.entry_sorted (PyProof.Rows.args_sorted1 _) ?_
  unfold Builtin.«sorted»
  refine wpAny_bind (m := checkCount "sorted" 1 1 _) (wpAny_pure ?_)
  refine wpAny_bind (PySem.W.kdu_collect (A := X.A.in1) (PySem.W.kdl_dict (knd := mixKind X.prog X.w) (kvs := vs) (ep := ep) lo) (I.ok.hd hcalm) hat h16 fun h' tk acc hk hacc => ?_)
  have hal : acc.toList.length = ks.length := by rw [Array.length_toList, hacc.1, hl]
  have hS : IntsAre acc.toList ks := ints_each hal fun j v e => by
    obtain ⟨k, x, e1, e2⟩ := hacc.2 j v (by rw [← Array.getElem?_toList]; exact e)
    have e3 : (vs.map (·.1))[j]? = some k := by rw [List.getElem?_map, e1]; rfl
    rw [hkeys, List.getElem?_map] at e3
    cases e4 : ks[j]? with
    | none => rw [e4] at e3; cases e3
    | some y =>
      rw [e4] at e3
      have e5 : Sum.inl y = k := Option.some.inj e3
      subst e5
      rcases keyIs_shape (show keyIs (Sum.inl y) v = true from e2) with ⟨i, t, ek, ev⟩ | ⟨z, t, ek, ev⟩
      · cases ek
        exact ⟨y, t, rfl, ev⟩
      · cases ek
  have I1 : Inv X pins σ H { s with heap := h', toks := tk } := I.kept hk
  refine wpAny_bind (wpAny_newList ?_ (by rw [hal, ← hkl]; exact z))
  have hoL : (h'.push (seqObj "list" acc.toList.toArray 0)).get? h'.objs.size = some (seqObj "list" acc.toList.toArray 0) := Heap.get?_push_size _ rfl
  show wpAny _ _ _ _ _ { s with heap := h'.push (seqObj "list" acc.toList.toArray 0), toks := tk }
  refine wpAny_bind (wpAny_holding (wpAny_call_entry PyProof.Rows.slot_list_sort ⟨_, hoL, rfl⟩ PyProof.Rows.entry_list_sort
    (SrtO.list_sort_ord (s := { s with heap := h'.push (seqObj "list" acc.toList.toArray 0), toks := tk }) SrtO.swo_int hoL (by rw [hal, ← hkl]; exact z) (fun h2 => SrtO.ints_sortable hS h2) fun out h1 h2 => ⟨_, rfl, ?_⟩) (PyProof.Rows.args_list_sort _)))
  obtain ⟨k1, k2, k3⟩ := SrtO.ints_out hS h1 h2
  obtain ⟨e', he'⟩ := PyProof.Rows.sortedHeap_at (vs := acc.toList) (out := out.toArray) hoL
  have hlen : ((out.map SrtO.iv).map V.int).length ≤ sizeLine := by
    rw [List.length_map, k2.length_eq, ← hkl]
    exact z
  refine wpAny_pure ⟨_, rfl, .ref h'.objs.size, upd H h'.objs.size (.lst ((out.map SrtO.iv).map V.int)), I1.laid (t' := tk) (fun b u e => ?_) (Nat.le_refl _)
    (show ObjOk X.prog X.w _ _ _ (.lst ((out.map SrtO.iv).map V.int)) from ⟨hlen, out, e', vals_of_ints k1, he'⟩), rfl, q _ _ k2 k3 (I1.hok.fresh (Nat.le_refl _))⟩
  have hb : b < h'.objs.size := Heap.lt_size e
  rw [PyProof.Rows.sortedHeap_old (Nat.ne_of_lt hb) (by rw [size_push']; exact Nat.lt_succ_of_lt hb)]
  exact Heap.get?_push_of_some _ e
/-! sorted(t) of a list or a tuple of whole numbers -/
def rSortedA (K : PySem.W.Frag) : List V → Hp → VK → Prop := fun vs H Q => ∃ (a : Addr) (ns : List Int), vs = [V.ref a] ∧ (SqL K H a (ns.map V.int) ∨ (SqT K H a (ns.map V.int) ∧ ns.length < 64) ∨ ∃ kvs : List (Key × V), Rd H a (.dK kvs) ∧ kvs.map (·.1) = ns.map Sum.inl) ∧
  ∀ (ns' : List Int) (p : Addr), ns'.Perm ns → ns'.Pairwise (· ≤ ·) → H p = none → Q (.ref p) (upd H p (.lst (ns'.map V.int)))
theorem cr_sortedA {X : Cx} (hcalm : X.calm = true) : CallR X (.builtin "sorted") (rSortedA X.K) := by
  intro pins s σ H vs us Q I r h
  obtain ⟨a, ns, rfl, hs, q⟩ := h
  rcases hs with hs | ⟨hs, h64⟩ | ⟨kvs, hd, hks⟩
  · exact cr_sortedI pins s σ H _ us Q I r ⟨a, ns, rfl, hs, q⟩
  rotate_left
  · exact cr_sortedDA hcalm pins s σ H _ us Q I r ⟨a, kvs, ns, rfl, hd, hks, q⟩
  obtain ⟨its, rv, ⟨o, ho, hc, n2, hd⟩, hz⟩ := I.tuple hs
  rw [Vals.ref1 r]
  have hal : its.length = ns.length := by rw [← rv.length, List.length_map]
  refine Calls.call_function_entry PyProof.Rows.kind_sorted PyProof.Rows.plain_sorted PyProof.Rows.entry_sorted (PyProof.Rows.args_sorted1 _) ?_
  unfold Builtin.«sorted»
  refine wpAny_bind (m := checkCount "sorted" 1 1 _) (wpAny_pure ?_)
  refine wpAny_bind (wpAny_collect_seq (A := X.A.in1) a (T := "tuple") (.inr rfl) ho hc hd (fun h' hk => ?_) (by rw [List.size_toArray, hal, sizeLine_eq]; omega))
  have hS : IntsAre its.toArray.toList ns := by simpa using rv.ints
  have I1 : Inv X pins σ H { s with heap := h' } := I.kept (t' := s.toks) hk
  have hal2 : its.toArray.toList.length = ns.length := by simpa using hal
  refine wpAny_bind (wpAny_newList ?_ (by rw [hal2, sizeLine_eq]; omega))
  have hoL : (h'.push (seqObj "list" its.toArray.toList.toArray 0)).get? h'.objs.size = some (seqObj "list" its.toArray.toList.toArray 0) := Heap.get?_push_size _ rfl
  show wpAny _ _ _ _ _ { s with heap := h'.push (seqObj "list" its.toArray.toList.toArray 0) }
  refine wpAny_bind (wpAny_holding (wpAny_call_entry PyProof.Rows.slot_list_sort ⟨_, hoL, rfl⟩ PyProof.Rows.entry_list_sort
    (PyProof.Rows.list_sort_tree (s := { s with heap := h'.push (seqObj "list" its.toArray.toList.toArray 0) }) hoL hS (by rw [hal2]; exact h64) fun out ys g1 g2 g3 => ⟨_, rfl, ?_⟩) (PyProof.Rows.args_list_sort _)))
  obtain ⟨e', he'⟩ := PyProof.Rows.sortedHeap_at (vs := its.toArray.toList) (out := out) hoL
  have hlen : (ys.map V.int).length ≤ sizeLine := by
    rw [List.length_map, g2.length_eq]
    exact Nat.le_trans (Nat.le_of_lt h64) (by decide)
  refine wpAny_pure ⟨_, rfl, .ref h'.objs.size, upd H h'.objs.size (.lst (ys.map V.int)), I1.laid (t' := s.toks) (fun b u e => ?_) (Nat.le_refl _)
    (show ObjOk X.prog X.w _ _ _ (.lst (ys.map V.int)) from ⟨hlen, out.toList, e', vals_of_ints g1, by rw [Array.toArray_toList]; exact he'⟩), rfl, q ys _ g2 g3 (I1.hok.fresh (Nat.le_refl _))⟩
  have hb : b < h'.objs.size := Heap.lt_size e
  rw [PyProof.Rows.sortedHeap_old (Nat.ne_of_lt hb) (by rw [size_push']; exact Nat.lt_succ_of_lt hb)]
  exact Heap.get?_push_of_some _ e
end Wa

set_option maxHeartbeats 4000000
/-! len(set(t)) of a tuple of tuples of whole numbers -/
namespace L2
open PySem PySem.Spec PyProof.Rows
section
variable {P : Program} {w : World} {A : Around} {E : Value → Shared → Prop} {s : Shared}
theorem call_set_tupsT {l : Addr} {items : Array Value} (ks : List (Addr × List Int)) {Q : Value → Shared → Prop} (hh : A.handled = none) (hl : s.heap.IsTuple l items) (hit : items.toList = ks.map fun p => Value.ref p.1)
    (hk : ∀ p ∈ ks, IsT P w s.heap p.2 p.1) (hfew : ks.length < 64) (hu : A.units + 3 < cLine)
    (h : ∀ (h' : Heap) (tk : Nat) L es ep t, SetTR P w h' s.heap.objs.size L es ep t → Got ks ks.length L → (∀ b o, s.heap.get? b = some o → h'.get? b = some o) → Q (.ref s.heap.objs.size) { s with heap := h', toks := tk }) :
    wpAny (model P w) A (call (.type "set") [.ref l]) Q E s := by
  have hisz : items.size = ks.length := by
    have q := congrArg List.length hit
    rw [Array.length_toList, List.length_map] at q
    exact q
  obtain ⟨c, tl, hmro⟩ := F.called_set.mro
  have hmade := F.called_set.made
  have hsub := F.called_set.sub
  refine wpAny_call (codeAny_of_tree ?_)
  show wpAny _ _ (callAny (.type "set") _) _ _ _
  refine wpAny_pure ⟨Code.quiet_builtin _ (by decide +kernel), codeAny_builtin F.entry_type_call ?_⟩
  rw [Around.under_plain (weight_type_call_type "set" [.ref l] []) rfl]
  have h1 := F.called_set.notType
  have h2 := F.called_set.canCreate
  have hct := F.typeCall_set_1 (.ref l)
  repeat (any_goals (first | assumption | wp_step))

  refine codeAny_mono (code_set_led1 (.ref l) (E := E) (Q₁ := fun obj s₁ => obj = .ref s.heap.objs.size ∧ s₁ = { s with heap := s.heap.push { cls := .type "set", dict := none, data := .set #[] 0 (.fresh 0 0 (!w.params.followText "set-order")) } }) ⟨rfl, rfl⟩) fun r s₁ hr => ?_
  cases r with
  | error e => exact hr
  | ok fl =>
    cases fl with
    | ret obj =>
      obtain ⟨rfl, rfl⟩ := hr
      have hS : (s.heap.push { cls := .type "set", dict := none, data := .set #[] 0 (.fresh 0 0 (!w.params.followText "set-order")) }).get? s.heap.objs.size = some { cls := .type "set", dict := none, data := .set #[] 0 (.fresh 0 0 (!w.params.followText "set-order")) } := Heap.get?_push_size _ rfl
      have hT : Shared.TypeIs { s with heap := s.heap.push { cls := .type "set", dict := none, data := .set #[] 0 (.fresh 0 0 (!w.params.followText "set-order")) } } (.ref s.heap.objs.size) "set" := ⟨_, hS, rfl⟩
      have hli := F.called_set.init.lookup
      have hbi := F.called_set.init.bind (.ref s.heap.objs.size)
      repeat (any_goals (first | assumption | wp_step))

      refine codeAny_mono (codeAny_call_builtin (R := wants (fun r s₂ => r = .none ∧ ∃ h' tk L es ep t, s₂ = { s with heap := h', toks := tk } ∧ SetTR P w h' s.heap.objs.size L es ep t ∧ Got ks ks.length L ∧
          (∀ b o, s.heap.get? b = some o → h'.get? b = some o)) E) F.called_set.init.plain F.entry_set_init (check_set_init_1 hT ?_)) fun r₂ s₂ hr₂ => ?_
      · obtain ⟨ol, hol, hcl, nl, hdl⟩ := hl
        obtain ⟨ocls, odict, odata, oslots⟩ := ol
        simp only at hcl hdl
        subst hcl; subst hdl
        have hol' : (s.heap.push { cls := .type "set", dict := none, data := .set #[] 0 (.fresh 0 0 (!w.params.followText "set-order")) }).get? l = some { cls := .type "tuple", dict := odict, data := .seq items nl, slots := oslots } := Heap.get?_push_of_some _ hol
        have hsls := F.sub_tuple_set
        have hslf := F.sub_tuple_frozenset
        have hne : (Value.type "tuple" == Value.type "dict") = false := by decide
        have hl1 : (s.heap.push { cls := .type "set", dict := none, data := .set #[] 0 (.fresh 0 0 (!w.params.followText "set-order")) }).IsTuple l items := ⟨_, hol', rfl, nl, rfl⟩
        unfold Builtin.«set.__init__» noKeywords Builtin.Frozenset.updateFrom
        generalize hPI : pyIter = PI
        wp_walk
        subst hPI

        refine wpAny_pyIter_tuple hl1 ?_
        refine wpAny_bind (wpAny_runValue ?_)
        have hlS : l < s.heap.objs.size := Heap.lt_size hol
        have hh3 : A.in1.in1.in1.handled = none := by simp [hh]
        have hz1 : (s.heap.push { cls := .type "set", dict := none, data := .set #[] 0 (.fresh 0 0 (!w.params.followText "set-order")) }).objs.size = s.heap.objs.size + 1 := Heap.size_push ..
        have hneI : l ≠ (s.heap.push { cls := .type "set", dict := none, data := .set #[] 0 (.fresh 0 0 (!w.params.followText "set-order")) }).objs.size := by
          rw [Heap.size_push]; exact Nat.ne_of_lt (Nat.lt_succ_of_lt hlS)
        have hSf : s.heap.objs.size ∉ [(s.heap.push { cls := .type "set", dict := none, data := .set #[] 0 (.fresh 0 0 (!w.params.followText "set-order")) }).objs.size, l] := by
          rw [Heap.size_push]; simp only [List.mem_cons, List.mem_singleton, List.not_mem_nil, or_false, not_or]
          exact ⟨Nat.ne_of_lt (Nat.lt_succ_self _), Nat.ne_of_gt hlS⟩
        have hval : ∀ (i : Nat) (v : Value), items[i]? = some v → ∃ p, ks[i]? = some p ∧ v = .ref p.1 := fun i v hv => by
          have q : items.toList[i]? = some v := by rw [Array.getElem?_toList]; exact hv
          rw [hit, List.getElem?_map] at q
          cases hq : ks[i]? with
          | none => rw [hq] at q; cases q
          | some p =>
            rw [hq] at q
            exact ⟨p, rfl, (Option.some.inj q).symm⟩
        have none_of : ∀ b, s.heap.objs.size ≤ b → s.heap.get? b = none := fun b hb => by
          cases q : s.heap.get? b with
          | none => rfl
          | some o => exact absurd (Nat.lt_of_lt_of_le (Heap.lt_size q) hb) (Nat.lt_irrefl _)
        refine set_update_tups ((Walks.tuple hh3 _ l hneI items).toS) s.heap.objs.size
          hSf ks hisz hfew hval s.heap hk (none_of _ (Nat.le_refl _)) (fun b hb => none_of b (by
            rw [List.mem_singleton.mp hb, Heap.size_push]
            exact Nat.le_succ _)) hu (items.size - 0) 0 _ (by omega) (Nat.zero_le _)
          ⟨⟨_, Heap.get?_push_size _ rfl, rfl, rfl⟩, (hl1.push _)⟩ (fun b o e => Heap.get?_push_of_some _ (Heap.get?_push_of_some _ e)) ?hS0 ?hR
        case hS0 =>
          have hget : ((s.heap.push { cls := .type "set", dict := none, data := .set #[] 0 (.fresh 0 0 (!w.params.followText "set-order")) }).push { cls := .type "tuple_iterator", data := .fields #[.ref l, .int 0 0] }).get? s.heap.objs.size
              = some { cls := .type "set", dict := none, data := .set #[] 0 (.fresh 0 0 (!w.params.followText "set-order")) } := Heap.get?_push_of_some _ hS
          exact ⟨[], #[], 0, _, setTR_fresh hget, Got.zero ks⟩
        case hR =>
          intro s' L es ep t hm hS' g' hkp
          obtain ⟨h', g2, d', tk', os'⟩ := s'
          have eg : g2 = s.gens := hm.gens
          have ed : d' = s.drawn := hm.drawn
          have eo : os' = s.os := hm.os
          subst eg; subst ed; subst eo
          show wpAny _ _ _ _ _ _
          refine wpAny_pure ?_
          show wpAny _ _ (ret Value.none) _ _ _
          rw [hisz] at g'
          exact wpAny_pure ⟨rfl, h', tk', L, es, ep, t, rfl, hS', g', hkp⟩

      · cases r₂ with
        | error e => exact hr₂
        | ok fl₂ =>
          cases fl₂ with
          | ret r =>
            obtain ⟨rfl, h', tk, L, es, ep, t, rfl, hS', g', hk'⟩ := hr₂
            repeat (any_goals (first | assumption | wp_step))
            exact h _ _ _ _ _ _ hS' g' hk'
          | _ => exact hr₂.elim
    | _ => exact hr.elim

end
end L2
namespace Wa
open PySem PySem.Spec PyProof.Rows L2
theorem mem_dedupL {k : List Int} : ∀ {l : List (List Int)}, k ∈ dedupL l ↔ k ∈ l
  | [] => Iff.rfl
  | x :: r => by
    unfold dedupL
    by_cases h : r.contains x = true
    · rw [if_pos h, mem_dedupL, List.mem_cons]
      constructor
      · exact .inr
      · rintro (e | e)
        · subst e; exact List.contains_iff_mem.mp h
        · exact e
    · rw [if_neg h, List.mem_cons, List.mem_cons, mem_dedupL]
theorem nodup_dedupL : ∀ l : List (List Int), (dedupL l).Nodup
  | [] => List.nodup_nil
  | x :: r => by
    unfold dedupL
    by_cases h : r.contains x = true
    · rw [if_pos h]; exact nodup_dedupL r
    · rw [if_neg h]
      exact List.nodup_cons.mpr ⟨fun z => h (List.contains_iff_mem.mpr (mem_dedupL.mp z)), nodup_dedupL r⟩
def tLenSetT (K : PySem.W.Frag) (ta : TE) : TE := fun σ H Q => ta σ H fun x H1 => (∃ (l : Addr) (ns : List Int), x = .ref l ∧ (SqL K H1 l (ns.map V.int) ∨ SqT K H1 l (ns.map V.int)) ∧ ns.length ≤ 1000 ∧ Q (.int ((dedupI ns).length : Nat)) H1) ∨
  ∃ (l : Addr) (ks : List (Addr × List Int)), x = .ref l ∧ SqT K H1 l (ks.map fun p => V.ref p.1) ∧ (∀ p ∈ ks, SqT K H1 p.1 (p.2.map V.int)) ∧ ks.length < 64 ∧ Q (.int ((dedupL (ks.map (·.2))).length : Nat)) H1
theorem pe_lenSetT {X : Cx} {a : Expr} {ta : TE} {p p2 q pos : Pos} (hg : Gl X "len") (hm : X.mg "len" = none) (hg2 : Gl X "set") (hm2 : X.mg "set" = none) (ha : PE X a ta) (hc : X.calm = true) (hu : X.A.units + 64 < cLine)
    (na : starEach [a] X.env = (false, eval a X.env) :: starEach [] X.env) : PE X (.Call (.Name "len" p) [.Call (.Name "set" p2) [a] [] q] [] pos) (tLenSetT X.K ta) := by
  refine ⟨fun pins s σ H Q I h => ?_⟩
  refine Call_ (ld_blt I hg hm boot_len ?_)
  refine PyProof.Rows.callWith_builtin1 (PyProof.Rows.args_cons ?_ rfl) rfl rfl
  refine Call_ (ld_blt I hg2 hm2 boot_set ?_)
  refine PyProof.Rows.callWith_type1 (PyProof.Rows.args_cons (thn (ha.run pins s σ H _ I h) fun v s1 ⟨x, H1, I1, r1, q1⟩ => PyProof.Rows.args_nil ?_) na) na rfl
  rcases q1 with ⟨l, ns, rfl, hq, hl, q1⟩ | ⟨l, ks, rfl, hq, hk, hl, q1⟩
  · cases r1
    have hle : (dedupI ns).length ≤ ns.length := by
      rw [← met_card]
      exact firstMet_length_le _ _
    rcases hq with hq | hq
    · obtain ⟨its, r, pl, hz⟩ := I1.list hq
      have hlen : its.toArray.size = ns.length := by rw [List.size_toArray, ← r.length, List.length_map]
      refine call_set_list (I1.ok.hd hc) pl.isList (by simpa using RZ.intsAre_vals r) (by rw [hlen]; unfold scanBound; omega) fun h' tk hS hk => ?_
      refine PyProof.Rows.args_nil ?_
      rw [hlen, met_card] at hS
      obtain ⟨o, es, ep, t, ho, hex, hd, _, _, _, hf, hn⟩ := hS
      have I2 : Inv X pins σ H1 { s1 with heap := h', toks := tk } := I1.kept fun b o e => hk b o (Heap.lt_size e) e
      exact call_len_set ho hex hd hf (by rw [hn] <;> omega) ⟨.int (dedupI ns).length, H1, I2.tok _, ⟨_, by rw [hn]⟩, q1⟩
    · obtain ⟨its, r, pl, hz⟩ := I1.tuple hq
      refine call_set_tupI ns (I1.ok.hd hc) (show s1.heap.IsTuple l its.toArray from pl) (by simpa using RZ.intsAre_vals r) (by unfold scanBound; omega) fun h' tk c R hcn hk => ?_
      refine PyProof.Rows.args_nil ?_
      have e := setR_card R
      subst e
      obtain ⟨o, es, ep, t, ho, hex, hd, g, nd, hm, hb, hf, hn, hr, hl⟩ := R
      have I2 : Inv X pins σ H1 { s1 with heap := h', toks := tk } := I1.kept hk
      exact call_len_set ho hex hd hf (by rw [hn] <;> omega) ⟨.int (dedupI ns).length, H1, I2.tok _, ⟨_, by rw [hn]⟩, q1⟩
  · cases r1
    obtain ⟨its, rv, pl, hz⟩ := I1.tuple hq
    refine call_set_tupsT (P := X.prog) (w := X.w) ks (I1.ok.hd hc) pl (by simpa using refs_of_vals rv) (fun p hp => I1.isT (hk p hp)) hl (by omega) fun h' tk L es ep t R g k => ?_
    refine PyProof.Rows.args_nil ?_
    have I2 : Inv X pins σ H1 { s1 with heap := h', toks := tk } := I1.kept k
    have card : L.length = (dedupL (ks.map (·.2))).length := by
      rw [← List.length_map (f := (·.2))]
      refine ((List.perm_ext_iff_of_nodup R.nd (nodup_dedupL _)).mpr fun z => ?_).length_eq
      rw [mem_dedupL]
      constructor
      · intro hz
        obtain ⟨p, hp, rfl⟩ := List.mem_map.mp hz
        exact List.mem_map.mpr ⟨p, List.mem_of_mem_take (g.sub p hp), rfl⟩
      · intro hz
        obtain ⟨p, hp, rfl⟩ := List.mem_map.mp hz
        exact g.all p (by rw [List.take_length]; exact hp)
    obtain ⟨o, ho, hex, hd⟩ := R.ob
    have hn := SetTR.size (s := { s1 with heap := h', toks := tk }) R
    exact call_len_set ho hex hd (SetTR.fits (s := { s1 with heap := h', toks := tk }) R) (by rw [hn]; have := R.few; omega) ⟨.int (dedupL (ks.map (·.2))).length, H1, I2.tok _, ⟨_, by rw [hn, card]⟩, q1⟩
end Wa

set_option maxHeartbeats 4000000
/-! set(xs) of a list of whole numbers -/
namespace L2
open PySem PySem.Spec PyProof.Rows
section
variable {P : Program} {w : World} {A : Around} {E : Value → Shared → Prop} {s : Shared}
theorem call_set_listI {l : Addr} {items : Array Value} (ns : List Int) {Q : Value → Shared → Prop} (hh : A.handled = none) (hl : s.heap.IsList l items) (hit : IntsAre items.toList ns) (hb : ns.length + 1 < scanBound)
    (h : ∀ (h' : Heap) (tk c : Nat), SetR w h' s.heap.objs.size (fun j => decide (j ∈ ns)) c → c ≤ ns.length → (∀ b o, s.heap.get? b = some o → h'.get? b = some o) → Q (.ref s.heap.objs.size) { s with heap := h', toks := tk }) :
    wpAny (model P w) A (call (.type "set") [.ref l]) Q E s := by
  have hisz : items.size = ns.length := by
    have q := IntsAre.length hit
    rw [Array.length_toList] at q
    exact q
  obtain ⟨c, tl, hmro⟩ := F.called_set.mro
  have hmade := F.called_set.made
  have hsub := F.called_set.sub
  refine wpAny_call (codeAny_of_tree ?_)
  show wpAny _ _ (callAny (.type "set") _) _ _ _
  refine wpAny_pure ⟨Code.quiet_builtin _ (by decide +kernel), codeAny_builtin F.entry_type_call ?_⟩
  rw [Around.under_plain (weight_type_call_type "set" [.ref l] []) rfl]
  have h1 := F.called_set.notType
  have h2 := F.called_set.canCreate
  have hct := F.typeCall_set_1 (.ref l)
  repeat (any_goals (first | assumption | wp_step))

  refine codeAny_mono (code_set_led1 (.ref l) (E := E) (Q₁ := fun obj s₁ => obj = .ref s.heap.objs.size ∧ s₁ = { s with heap := s.heap.push { cls := .type "set", dict := none, data := .set #[] 0 (.fresh 0 0 (!w.params.followText "set-order")) } }) ⟨rfl, rfl⟩) fun r s₁ hr => ?_
  cases r with
  | error e => exact hr
  | ok fl =>
    cases fl with
    | ret obj =>
      obtain ⟨rfl, rfl⟩ := hr
      have hS : (s.heap.push { cls := .type "set", dict := none, data := .set #[] 0 (.fresh 0 0 (!w.params.followText "set-order")) }).get? s.heap.objs.size = some { cls := .type "set", dict := none, data := .set #[] 0 (.fresh 0 0 (!w.params.followText "set-order")) } := Heap.get?_push_size _ rfl
      have hT : Shared.TypeIs { s with heap := s.heap.push { cls := .type "set", dict := none, data := .set #[] 0 (.fresh 0 0 (!w.params.followText "set-order")) } } (.ref s.heap.objs.size) "set" := ⟨_, hS, rfl⟩
      have hli := F.called_set.init.lookup
      have hbi := F.called_set.init.bind (.ref s.heap.objs.size)
      repeat (any_goals (first | assumption | wp_step))

      refine codeAny_mono (codeAny_call_builtin (R := wants (fun r s₂ => r = .none ∧ ∃ h' tk c, s₂ = { s with heap := h', toks := tk } ∧ SetR w h' s.heap.objs.size (fun j => decide (j ∈ ns)) c ∧ c ≤ ns.length ∧
          (∀ b o, s.heap.get? b = some o → h'.get? b = some o)) E) F.called_set.init.plain F.entry_set_init (check_set_init_1 hT ?_)) fun r₂ s₂ hr₂ => ?_
      · obtain ⟨ol, hol, hcl, nl, hdl⟩ := hl
        obtain ⟨ocls, odict, odata, oslots⟩ := ol
        simp only at hcl hdl
        subst hcl; subst hdl
        have hol' : (s.heap.push { cls := .type "set", dict := none, data := .set #[] 0 (.fresh 0 0 (!w.params.followText "set-order")) }).get? l = some { cls := .type "list", dict := odict, data := .seq items nl, slots := oslots } := Heap.get?_push_of_some _ hol
        have hsls := F.sub_list_set
        have hslf := F.sub_list_frozenset
        have hne : (Value.type "list" == Value.type "dict") = false := by decide
        have hl1 : (s.heap.push { cls := .type "set", dict := none, data := .set #[] 0 (.fresh 0 0 (!w.params.followText "set-order")) }).IsList l items := ⟨_, hol', rfl, nl, rfl⟩
        unfold Builtin.«set.__init__» noKeywords Builtin.Frozenset.updateFrom
        generalize hPI : pyIter = PI
        wp_walk
        subst hPI

        refine wpAny_pyIter_list hl1 ?_
        refine wpAny_bind (wpAny_runValue ?_)
        have hlS : l < s.heap.objs.size := Heap.lt_size hol
        have hh3 : A.in1.in1.in1.handled = none := by simp [hh]
        have hz1 : (s.heap.push { cls := .type "set", dict := none, data := .set #[] 0 (.fresh 0 0 (!w.params.followText "set-order")) }).objs.size = s.heap.objs.size + 1 := Heap.size_push ..
        have hneI : l ≠ (s.heap.push { cls := .type "set", dict := none, data := .set #[] 0 (.fresh 0 0 (!w.params.followText "set-order")) }).objs.size := by
          rw [Heap.size_push]; exact Nat.ne_of_lt (Nat.lt_succ_of_lt hlS)
        have hSf : s.heap.objs.size ∉ [(s.heap.push { cls := .type "set", dict := none, data := .set #[] 0 (.fresh 0 0 (!w.params.followText "set-order")) }).objs.size, l] := by
          rw [Heap.size_push]; simp only [List.mem_cons, List.mem_singleton, List.not_mem_nil, or_false, not_or]
          exact ⟨Nat.ne_of_lt (Nat.lt_succ_self _), Nat.ne_of_gt hlS⟩
        have hval : ∀ (i : Nat) (v : Value), items[i]? = some v → ∃ k t, ns[i]? = some k ∧ v = .int k t := fun i v hv => by
          have hlt : i < ns.length := by rw [← hisz]; exact (Array.getElem?_eq_some_iff.mp hv).1
          obtain ⟨t, e⟩ := PyProof.Rows.IntsAre.int_at hit i v (by rw [Array.getElem?_toList]; exact hv)
          rw [List.getD_eq_getElem?_getD, List.getElem?_eq_getElem hlt] at e
          exact ⟨ns[i], t, List.getElem?_eq_getElem hlt, e⟩
        refine set_update_ints ((Walks.list hh3 _ l hneI items).toS) s.heap.objs.size hSf ns hisz hb hval (items.size - 0) 0 _ (by omega) (Nat.zero_le _)
          ⟨⟨_, Heap.get?_push_size _ rfl, rfl, rfl⟩, (hl1.push _)⟩ ?hS0 ?hR
        case hS0 =>
          have hget : ((s.heap.push { cls := .type "set", dict := none, data := .set #[] 0 (.fresh 0 0 (!w.params.followText "set-order")) }).push { cls := .type "list_iterator", data := .fields #[.ref l, .int 0 0] }).get? s.heap.objs.size
              = some { cls := .type "set", dict := none, data := .set #[] 0 (.fresh 0 0 (!w.params.followText "set-order")) } := Heap.get?_push_of_some _ hS
          exact ⟨0, Nat.le_refl 0, setR_new_at hget⟩
        case hR =>
          intro s' c' hm hc' hS'
          obtain ⟨h', g2, d', tk', os'⟩ := s'
          have eg : g2 = s.gens := hm.gens
          have ed : d' = s.drawn := hm.drawn
          have eo : os' = s.os := hm.os
          subst eg; subst ed; subst eo
          show wpAny _ _ _ _ _ _
          refine wpAny_pure ?_
          show wpAny _ _ (ret Value.none) _ _ _
          rw [hisz] at hc'
          refine wpAny_pure ⟨rfl, h', tk', c', rfl, hS', hc', fun b o e => ?_⟩
          have n0 : b < s.heap.objs.size := Heap.lt_size e
          refine hm.heap b o (fun z => ?_) (Heap.get?_push_of_some _ (Heap.get?_push_of_some _ e))
          simp only [List.mem_cons, List.mem_singleton, List.not_mem_nil, or_false] at z
          rcases z with z | z
          · exact absurd z (Nat.ne_of_lt n0)
          · rw [hz1] at z; exact absurd z (Nat.ne_of_lt (Nat.lt_succ_of_lt n0))

      · cases r₂ with
        | error e => exact hr₂
        | ok fl₂ =>
          cases fl₂ with
          | ret r =>
            obtain ⟨rfl, h', tk, c', rfl, hS', hc', hk'⟩ := hr₂
            repeat (any_goals (first | assumption | wp_step))
            exact h _ _ _ hS' hc' hk'
          | _ => exact hr₂.elim
    | _ => exact hr.elim

end
end L2
namespace Wa
open PySem PySem.Spec PyProof.Rows L2
def rSetJ (K : PySem.W.Frag) (w : World) : List V → Hp → VK → Prop := fun xs H Q => ∃ (a : Addr) (ns : List Int), xs = [.ref a] ∧ (SqL K H a (ns.map V.int) ∨ SqT K H a (ns.map V.int)) ∧ ns.length ≤ 1000 ∧ ∀ p, H p = none → Q (.ref p) (upd H p (SetO w p (fun j => decide (j ∈ ns)) (dedupI ns).length))
theorem cr_setJ {X : Cx} (hc : X.calm = true) : CallR X (.type "set") (rSetJ X.K X.w) := by
  intro pins s σ H xs us Q I r h
  obtain ⟨a, ns, rfl, hq | hq, hl, q⟩ := h
  · rw [Vals.ref1 r]
    obtain ⟨its, rv, pt, hz⟩ := I.list hq
    have hi : IntsAre its.toArray.toList ns := ints_of_vals rv
    refine call_set_listI ns (I.ok.hd hc) pt.isList hi (by unfold scanBound; omega) fun h' tk c R hcn k => ?_
    have e := setR_card R
    subst e
    exact ⟨.ref _, _, I.laid (t' := tk) k (Nat.le_refl _) (setO_new R), rfl, q _ (I.hok.fresh (Nat.le_refl _))⟩
  · exact cr_setI hc pins s σ H _ us Q I r ⟨a, ns, rfl, hq, hl, q⟩
end Wa

/-! zip of any two of lists and tuples -/
namespace Wa
open PySem PySem.Spec PyProof.Rows L2

def SqB (b : Bool) (K : PySem.W.Frag) (H : Hp) (a : Addr) (xs : List V) : Prop := match b with
  | true => SqL K H a xs
  | false => SqT K H a xs
def SeqB (b : Bool) (h : Heap) (a : Addr) (items : Array Value) : Prop := match b with
  | true => h.IsList a items
  | false => h.IsTuple a items
def ItB (b : Bool) (h : Heap) (it a : Addr) (i : Nat) : Prop := match b with
  | true => h.IsListIter it a i
  | false => h.IsTupleIter it a i
def itO (b : Bool) (a : Addr) : Obj := match b with
  | true => { cls := .type "list_iterator", data := .fields #[.ref a, .int 0 0] }
  | false => { cls := .type "tuple_iterator", data := .fields #[.ref a, .int 0 0] }
theorem drawsB {prog : Program} {w : World} {A : Around} (b : Bool) (hh : A.handled = none) (it l : Addr) (hne : l ≠ it) (items : Array Value) :
    Draws prog w A it [it, l] items.size (fun i v => items[i]? = some v) (fun i h => ItB b h it l i ∧ SeqB b h l items) := by
  cases b with
  | true => exact Draws.list hh it l hne items
  | false => exact Draws.tuple hh it l hne items
theorem beginsB (b : Bool) (l : Addr) (items : Array Value) : Begins (.ref l) (itO b l) fun h => SeqB b h l items := by
  cases b with
  | true => exact begins_list l items
  | false => exact begins_tuple l items
theorem itB_at {b : Bool} {h h' : Heap} {it a : Addr} {i : Nat} (x : ItB b h it a i) (k : ∀ o, h.get? it = some o → h'.get? it = some o) : ItB b h' it a i := by
  cases b with
  | true => exact Heap.IsListIter.at x k
  | false => exact Heap.IsTupleIter.at x k
theorem itB_obj {b : Bool} {h : Heap} {it a : Addr} {i : Nat} (x : ItB b h it a i) : ∃ o, h.get? it = some o ∧ ∀ v, o.data ≠ .cell v := by
  cases b with
  | true => obtain ⟨o, e, c, d⟩ := x; exact ⟨o, e, fun v z => by rw [d] at z; cases z⟩
  | false => obtain ⟨o, e, c, d⟩ := x; exact ⟨o, e, fun v z => by rw [d] at z; cases z⟩
theorem itB_new {b : Bool} {h : Heap} {it a : Addr} (e : h.get? it = some (itO b a)) : ItB b h it a 0 := by
  cases b with
  | true => exact ⟨_, e, rfl, rfl⟩
  | false => exact ⟨_, e, rfl, rfl⟩
section
variable {X : Cx} {pins : List (Addr × Obj)} {σ : L2.St} {H : Hp} {s : Shared}
theorem inv_seqB {b : Bool} {a : Addr} {xs : List V} (I : Inv X pins σ H s) (h : SqB b X.K H a xs) : ∃ its : List Value, Vals xs its ∧ SeqB b s.heap a its.toArray := by
  cases b with
  | true =>
    obtain ⟨its, r, p, _⟩ := I.list h
    exact ⟨its, r, p.isList⟩
  | false =>
    obtain ⟨its, r, p, _⟩ := I.tuple h
    exact ⟨its, r, p⟩
theorem inv_injB {b : Bool} {a : Addr} {xs ys : List V} (I : Inv X pins σ H s) (h : SqB b X.K H a xs) (h' : SqB b X.K H a ys) : xs = ys := by
  cases b with
  | true => exact I.list_inj h h'
  | false => exact I.tuple_inj h h'
end
theorem seqB_lt {b : Bool} {h : Heap} {a : Addr} {its : Array Value} (x : SeqB b h a its) : a < h.objs.size := by
  cases b with
  | true => obtain ⟨o, e, _⟩ := x; exact Heap.lt_size e
  | false => obtain ⟨o, e, _⟩ := x; exact Heap.lt_size e
def ItzB (b1 b2 : Bool) (K : PySem.W.Frag) (a b : Addr) : It :=
  ⟨fun i H => ∃ (xs ys : List V) (x y : V), SqB b1 K H a xs ∧ SqB b2 K H b ys ∧ xs[i]? = some x ∧ ys[i]? = some y,
    fun i H v H' => ∃ T x y, v = .ref T ∧ H T = none ∧ H' = upd H T (.tup [x, y]) ∧ (∀ xs, SqB b1 K H a xs → xs[i]? = some x) ∧ ∀ ys, SqB b2 K H b ys → ys[i]? = some y,
    fun i H => ∃ xs ys : List V, SqB b1 K H a xs ∧ SqB b2 K H b ys ∧ i = min xs.length ys.length⟩
theorem turn_zipB {P : Program} {w : World} {K : PySem.W.Frag} {b1 b2 : Bool} {elts : List Expr} {kk : Nat} {tpos : Pos} {a b z TI TO i1 i2 : Addr} (D : ZipSep2 z TI TO i1 i2 [i1, a] [i2, b]) (n1 : a ≠ i1) (n2 : b ≠ i2) :
    Turn P w K (.Tuple elts kk tpos) (ItzB b1 b2 K a b) [z, TI, TO, i1, i2] z (fun i h => IsZip h z TI TO .none ∧ IsTupOf2 h TI (.ref i1) (.ref i2) ∧ (∃ x y, IsTupOf2 h TO x y) ∧ ItB b1 h i1 a i ∧ ItB b2 h i2 b i) where
  mem := by simp
  obj := fun i h st c hc => by
    obtain ⟨hz, hTI, ⟨x, y, hTO⟩, h1, h2⟩ := st
    have e' : c = z ∨ c = TI ∨ c = TO ∨ c = i1 ∨ c = i2 := by simpa using hc
    rcases e' with q | q | q | q | q
    · rw [q]; exact ⟨_, hz, fun v q => nomatch q⟩
    · rw [q]; exact ⟨_, hTI, fun v q => nomatch q⟩
    · rw [q]; exact ⟨_, hTO, fun v q => nomatch q⟩
    · rw [q]; exact itB_obj h1
    · rw [q]; exact itB_obj h2
  keep := fun i h h' st k => by
    obtain ⟨hz, hTI, ⟨x, y, hTO⟩, h1, h2⟩ := st
    exact ⟨k z (by simp) _ hz, k TI (by simp) _ hTI, ⟨x, y, k TO (by simp) _ hTO⟩, itB_at h1 fun o q => k i1 (by simp) o q, itB_at h2 fun o q => k i2 (by simp) o q⟩
  item := by
    intro X hP hw hK hc i pins s σ H E I hf st hg
    subst hP hw hK
    obtain ⟨hz, hTI, hTO, h1, h2⟩ := st
    obtain ⟨xs, ys, x, y, hqx, hqy, hx, hy⟩ := hg
    obtain ⟨its, rv, p⟩ := inv_seqB I hqx
    obtain ⟨its2, rv2, p2⟩ := inv_seqB I hqy
    have hd : X.A.in1.handled = none := I.ok.hd hc
    have G := GoesN.zip2 (prog := X.prog) (w := X.w) (A := X.A) (elts := elts) (x1 := kk) (pos := tpos) D (drawsB b1 hd i1 a n1 its.toArray) (drawsB b2 hd i2 b n2 its2.toArray)
    have l1 := (List.getElem?_eq_some_iff.mp hx).1
    have l2 := (List.getElem?_eq_some_iff.mp hy).1
    have e1 := rv.length
    have e2 := rv2.length
    refine G.goes i s _ E (by rw [List.size_toArray, List.size_toArray]; omega) ⟨hz, hTI, hTO, ⟨h1, p⟩, h2, p2⟩ fun v h' tk hY hSt hk htk => ?_
    obtain ⟨T, u, u2, rfl, hT, hu, hu2, hTT⟩ := hY
    obtain ⟨u', hu', ru⟩ := rv.get hx
    obtain ⟨u2', hu2', ru2⟩ := rv2.get hy
    have eu : u' = u := by
      have : its[i]? = some u := by simpa using hu
      rw [hu'] at this
      exact Option.some.inj this
    have eu2 : u2' = u2 := by
      have : its2[i]? = some u2 := by simpa using hu2
      rw [hu2'] at this
      exact Option.some.inj this
    subst eu eu2
    have hlt : ∀ c, c ∈ [z, TI, TO, i1, i2] → c < s.heap.objs.size := fun c hcm => by
      have e' : c = z ∨ c = TI ∨ c = TO ∨ c = i1 ∨ c = i2 := by simpa using hcm
      rcases e' with q | q | q | q | q
      · rw [q]; exact Heap.lt_size hz
      · rw [q]; exact Heap.lt_size hTI
      · rw [q]; obtain ⟨_, _, e⟩ := hTO; exact Heap.lt_size e
      · rw [q]; obtain ⟨_, e, _⟩ := itB_obj h1; exact Heap.lt_size e
      · rw [q]; obtain ⟨_, e, _⟩ := itB_obj h2; exact Heap.lt_size e
    have new : ObjOk X.prog X.w (upd H T (.tup [x, y])) h' T (.tup [x, y]) := ⟨by show 2 ≤ sizeLine; decide, [u', u2'], .cons ru (.cons ru2 .nil), hTT⟩
    have I1 : Inv X pins σ (upd H T (.tup [x, y])) { s with heap := h', toks := tk } :=
      I.turnedNew (ch := [z, TI, TO, i1, i2]) (fun c o hb q => hk c o (fun m => hb (by
        have m' : c = z ∨ c = TO ∨ c = i1 ∨ c = i2 := by simpa using m
        rcases m' with q | q | q | q <;> simp [q])) q) hf hT new
    refine ⟨.ref T, _, I1, rfl, ⟨T, x, y, rfl, I.hok.fresh hT, rfl, fun l hl => by rw [inv_injB I hl hqx]; exact hx, fun l hl => by rw [inv_injB I hl hqy]; exact hy⟩, ⟨hSt.1, hSt.2.1, hSt.2.2.1, hSt.2.2.2.1.1, hSt.2.2.2.2.1⟩, fun c hcm => ?_⟩
    rw [upd_ne (Nat.ne_of_lt (Nat.lt_of_lt_of_le (hlt c hcm) hT))]
    exact (hf c hcm).1
  done := by
    intro X hP hw hK hc i pins s σ H E I hf st hg
    subst hP hw hK
    obtain ⟨hz, hTI, hTO, h1, h2⟩ := st
    obtain ⟨xs, ys, hqx, hqy, hend⟩ := hg
    obtain ⟨its, rv, p⟩ := inv_seqB I hqx
    obtain ⟨its2, rv2, p2⟩ := inv_seqB I hqy
    have hd : X.A.in1.handled = none := I.ok.hd hc
    have G := GoesN.zip2 (prog := X.prog) (w := X.w) (A := X.A) (elts := elts) (x1 := kk) (pos := tpos) D (drawsB b1 hd i1 a n1 its.toArray) (drawsB b2 hd i2 b n2 its2.toArray)
    have e1 := rv.length
    have e2 := rv2.length
    have ei : min its.toArray.size its2.toArray.size = i := by rw [List.size_toArray, List.size_toArray]; omega
    rw [ei] at G
    refine G.stops s _ E ⟨hz, hTI, hTO, ⟨h1, p⟩, h2, p2⟩ fun h' tk hk _ => ?_
    exact I.turnedL (ch := [z, TI, TO, i1, i2]) (fun c o hb q => hk c o (fun m => hb (by
        have m' : c = z ∨ c = TO ∨ c = i1 ∨ c = i2 := by simpa using m
        rcases m' with q | q | q | q <;> simp [q])) q) hf
  self := fun A i s Q E st h => wpAny_pyIter_zip st.1 h
def iZipB (K : PySem.W.Frag) (ta : TA) : TI := fun σ H R => ta σ H fun vs H1 => ∃ b1 b2 a b xs ys, vs = [.ref a, .ref b] ∧ SqB b1 K H1 a xs ∧ SqB b2 K H1 b ys ∧ R (ItzB b1 b2 K a b) H1
theorem pi_zipB {X : Cx} {e e2 : Expr} {ta : TA} {p pos tpos : Pos} {elts : List Expr} {kk : Nat} (hg : Gl X "zip") (hm : X.mg "zip" = none) (ha : PA X [e, e2] ta)
    (hs : starEach [e, e2] X.env = (false, eval e X.env) :: starEach [e2] X.env := by rfl) (hpl : (backTo pos (starEach [e2] X.env)).any (·.1) = false := by rfl) :
    PI X (.Tuple elts kk tpos) (.Call (.Name "zip" p) [e, e2] [] pos) (iZipB X.K ta) := by
  refine ⟨fun pins s σ H R I h => ?_⟩
  refine Call_ (ld_blt I hg hm PyProof.Rows.boot_zip (PyProof.Rows.callWith_type1 (thn (ha.run pos pins s σ H _ I h) fun us s1 ⟨vs, H1, I1, r1, q1⟩ => ?_) hs hpl))
  obtain ⟨b1, b2, a, b, xs, ys, ex, hqx, hqy, q⟩ := q1
  subst ex
  cases r1 with
  | cons r rr =>
    cases rr with
    | cons r' rr =>
      cases rr
      cases r
      cases r'
      obtain ⟨its, rv, p1⟩ := inv_seqB I1 hqx
      obtain ⟨its2, rv2, p2⟩ := inv_seqB I1 hqy
      have la := seqB_lt p1
      have lb := seqB_lt p2
      refine zip_begins2 (beginsB b1 a its.toArray) (beginsB b2 b its2.toArray) p1 p2 fun h' hz hTI hTO h1 h2 hsz hk => wpAny_pyIter_zip hz ?_
      have I2 : Inv X pins σ H1 { s1 with heap := h' } := I1.kept (t' := s1.toks) hk
      refine ⟨s1.heap.objs.size + 4, [s1.heap.objs.size + 4, s1.heap.objs.size + 2, s1.heap.objs.size + 3, s1.heap.objs.size, s1.heap.objs.size + 1], _, _, H1, rfl, I2, turn_zipB (zip_sep2 (fp1 := [a]) (fp2 := [b]) (fun c m => by rw [List.mem_singleton.mp m]; exact la) fun c m => by rw [List.mem_singleton.mp m]; exact lb) (Nat.ne_of_lt la) (Nat.ne_of_lt (Nat.lt_succ_of_lt lb)), ⟨hz, hTI, ⟨_, _, hTO⟩, itB_new h1, itB_new h2⟩, fun c hcm => ?_, q⟩
      have e' : c = s1.heap.objs.size + 4 ∨ c = s1.heap.objs.size + 2 ∨ c = s1.heap.objs.size + 3 ∨ c = s1.heap.objs.size ∨ c = s1.heap.objs.size + 1 := by simpa using hcm
      have hle : s1.heap.objs.size ≤ c := by
        rcases e' with z | z | z | z | z
        · rw [z]; exact Nat.le_add_right _ _
        · rw [z]; exact Nat.le_add_right _ _
        · rw [z]; exact Nat.le_add_right _ _
        · rw [z]; exact Nat.le_refl _
        · rw [z]; exact Nat.le_add_right _ _
      exact I1.fpOk hle (I1.hok.fresh hle)
theorem walk_zipB {b1 b2 : Bool} {K : PySem.W.Frag} {a b : Addr} {xs ys : List V} {n : Nat} (hn : n = min xs.length ys.length) : Walk (ItzB b1 b2 K a b) n (fun H => SqB b1 K H a xs ∧ SqB b2 K H b ys) (YPair (fun i => xs[i]?) (fun i => ys[i]?)) := by
  subst hn
  refine ⟨fun i _ hi q => ?_, fun _ q => ⟨xs, ys, q.1, q.2, rfl⟩, fun i H v H' _ q y => ?_⟩
  · have h1 : i < xs.length := by omega
    have h2 : i < ys.length := by omega
    exact ⟨xs, ys, xs[i], ys[i], q.1, q.2, by simp [h1], by simp [h2]⟩
  · obtain ⟨T, x, z, h1, h2, h3, h4, h5⟩ := y
    exact ⟨T, x, z, h1, h2, h3, h4 xs q.1, h5 ys q.2⟩
/-! enumerate of a list or a tuple -/
set_option maxHeartbeats 1000000 in
theorem meets_enumerate_new1 {v : Value} {o : Obj} {H : Heap → Prop} (B : Begins v o H) :
    Meets (Builtin.«enumerate.__new__» ⟨[.type "enumerate", v], []⟩) (fun _ R s => H s.heap ∧
      R (.ok (.ret (.ref (s.heap.push o).objs.size))) { s with heap := (s.heap.push o).push { cls := .type "enumerate", data := .fields #[.none, .bool false, .ref s.heap.objs.size, rawInt 0, .none, .none] } }) :=
  .of_wp fun prog w A R s h => by
    obtain ⟨hp, g, d, tk, os⟩ := s; obtain ⟨h1, h⟩ := h
    have hsub := sub_enumerate
    have q1 : ∀ {A' : Around} {E : Value → Shared → Prop} {Q : Value → Shared → Prop}, Q (.ref hp.objs.size) ⟨hp.push o, g, d, tk, os⟩ → wpAny (model prog w) A' (pyIter v) Q E ⟨hp, g, d, tk, os⟩ :=
      fun q => B.iter prog w _ _ ⟨hp, g, d, tk, os⟩ _ h1 q
    wp_walk using q1
    refine wpAny_stack_any fun st => wpAny_pure ?_
    split
    · rename_i c _ _ _ _ _
      cases (c == Value.type "enumerate")
      · wp_walk using q1
        exact ⟨_, rfl, h⟩
      · wp_walk using q1
        exact ⟨_, rfl, h⟩
    · wp_walk using q1
      exact ⟨_, rfl, h⟩
theorem enum_begins1 {prog : Program} {w : World} {A : Around} {E : Value → Shared → Prop} {s : Shared} {v : Value} {o : Obj} {H : Heap → Prop} {Q : Value → Shared → Prop} (B : Begins v o H) (h1 : H s.heap)
    (h : ∀ h', IsEnum h' (s.heap.objs.size + 1) s.heap.objs.size 0 .none → h'.get? s.heap.objs.size = some o → h'.objs.size = s.heap.objs.size + 2 →
      (∀ b o, s.heap.get? b = some o → h'.get? b = some o) → Q (.ref (s.heap.objs.size + 1)) { s with heap := h' }) :
    wpAny (model prog w) A (call (.type "enumerate") [v]) Q E s := by
  refine callType_new F.called_enumerate (by decide) (F.typeCall_enumerate_1 _) (F.newCall_enumerate_1 _) (fun obj => F.args_object_init_2 obj _) F.entry_enumerate_new
    (meets_enumerate_new1 B) ⟨h1, ?_⟩
  have hz : (s.heap.push o).objs.size = s.heap.objs.size + 1 := Heap.size_push ..
  show _ ∧ _
  rw [hz]
  have he : IsEnum ((s.heap.push o).push { cls := .type "enumerate", data := .fields #[.none, .bool false, .ref s.heap.objs.size, rawInt 0, .none, .none] }) (s.heap.objs.size + 1) s.heap.objs.size 0 .none := by
    have := Heap.get?_push_size (s.heap.push o) (o := { cls := .type "enumerate", data := .fields #[.none, .bool false, .ref s.heap.objs.size, rawInt 0, .none, .none] }) rfl
    rw [hz] at this; exact this
  exact ⟨⟨_, he, rfl⟩, h _ he (Heap.get?_push_of_some _ (Heap.get?_push_size _ B.free)) (by rw [Heap.size_push, hz]) fun b o x => Heap.get?_push_of_some _ (Heap.get?_push_of_some _ x)⟩
def IteB (b : Bool) (K : PySem.W.Frag) (a : Addr) : It :=
  ⟨fun i H => ∃ (xs : List V) (x : V), SqB b K H a xs ∧ xs[i]? = some x,
    fun i H v H' => ∃ T x, v = .ref T ∧ H T = none ∧ H' = upd H T (.tup [.int (i : Nat), x]) ∧ ∀ xs, SqB b K H a xs → xs[i]? = some x,
    fun i H => ∃ xs : List V, SqB b K H a xs ∧ i = xs.length⟩
theorem turn_enumB {P : Program} {w : World} {K : PySem.W.Frag} {b1 : Bool} {elts : List Expr} {kk : Nat} {tpos : Pos} {a e it : Addr} (hne : e ≠ it) (hea : e ≠ a) (hai : a ≠ it) :
    Turn P w K (.Tuple elts kk tpos) (IteB b1 K a) [e, it] e (fun i h => (∃ old, IsEnum h e it ((0 : Int) + (i : Nat)) old) ∧ ItB b1 h it a i) where
  mem := by simp
  obj := fun i h st c hc => by
    obtain ⟨⟨old, he⟩, h1⟩ := st
    have e' : c = e ∨ c = it := by simpa using hc
    rcases e' with q | q
    · rw [q]; exact ⟨_, he, fun v q => nomatch q⟩
    · rw [q]; exact itB_obj h1
  keep := fun i h h' st k => by
    obtain ⟨⟨old, he⟩, h1⟩ := st
    exact ⟨⟨old, k e (by simp) _ he⟩, itB_at h1 fun o q => k it (by simp) o q⟩
  item := by
    intro X hP hw hK hc i pins s σ H E I hf st hg
    subst hP hw hK
    obtain ⟨he, h1⟩ := st
    obtain ⟨xs, x, hqx, hx⟩ := hg
    obtain ⟨its, rv, p⟩ := inv_seqB I hqx
    have hd : X.A.in1.handled = none := I.ok.hd hc
    have G := GoesN.enumFrom (prog := X.prog) (w := X.w) (A := X.A) (elts := elts) (x1 := kk) (pos := tpos) 0 (drawsB b1 hd it a hai its.toArray) e hne (by simp [hne, hea]) (by simp)
    have l1 := (List.getElem?_eq_some_iff.mp hx).1
    have e1 := rv.length
    refine G.goes i s _ E (by rw [List.size_toArray]; omega) ⟨he, h1, p⟩ fun v h' tk hY hSt hk htk => ?_
    obtain ⟨T, t, u, rfl, hT, hu, hTT⟩ := hY
    obtain ⟨u', hu', ru⟩ := rv.get hx
    have eu : u' = u := by
      have : its[i]? = some u := by simpa using hu
      rw [hu'] at this
      exact Option.some.inj this
    subst eu
    have hlt : ∀ c, c ∈ [e, it] → c < s.heap.objs.size := fun c hcm => by
      have e' : c = e ∨ c = it := by simpa using hcm
      rcases e' with q | q
      · rw [q]; obtain ⟨_, e⟩ := he; exact Heap.lt_size e
      · rw [q]; obtain ⟨_, e, _⟩ := itB_obj h1; exact Heap.lt_size e
    have new : ObjOk X.prog X.w (upd H T (.tup [.int (i : Nat), x])) h' T (.tup [.int (i : Nat), x]) := ⟨by show 2 ≤ sizeLine; decide, [.int ((0 : Int) + (i : Nat)) t, u'], .cons ⟨t, by rw [Int.zero_add]⟩ (.cons ru .nil), hTT⟩
    have I1 : Inv X pins σ (upd H T (.tup [.int (i : Nat), x])) { s with heap := h', toks := tk } := I.turnedNew (ch := [e, it]) hk hf hT new
    refine ⟨.ref T, _, I1, rfl, ⟨T, x, rfl, I.hok.fresh hT, rfl, fun l hl => by rw [inv_injB I hl hqx]; exact hx⟩, ⟨hSt.1, hSt.2.1⟩, fun c hcm => ?_⟩
    rw [upd_ne (Nat.ne_of_lt (Nat.lt_of_lt_of_le (hlt c hcm) hT))]
    exact (hf c hcm).1
  done := by
    intro X hP hw hK hc i pins s σ H E I hf st hg
    subst hP hw hK
    obtain ⟨he, h1⟩ := st
    obtain ⟨xs, hqx, hend⟩ := hg
    obtain ⟨its, rv, p⟩ := inv_seqB I hqx
    have hd : X.A.in1.handled = none := I.ok.hd hc
    have G := GoesN.enumFrom (prog := X.prog) (w := X.w) (A := X.A) (elts := elts) (x1 := kk) (pos := tpos) 0 (drawsB b1 hd it a hai its.toArray) e hne (by simp [hne, hea]) (by simp)
    have e1 := rv.length
    have ei : its.toArray.size = i := by rw [List.size_toArray]; omega
    rw [ei] at G
    refine G.stops s _ E ⟨he, h1, p⟩ fun h' tk hk _ => ?_
    exact I.turnedL (ch := [e, it]) hk hf
  self := fun A i s Q E st h => let ⟨⟨_, he⟩, _⟩ := st; wpAny_pyIter_enum he h
def iEnumB (K : PySem.W.Frag) (ta : TA) : TI := fun σ H R => ta σ H fun vs H1 => ∃ b a xs, vs = [.ref a] ∧ SqB b K H1 a xs ∧ R (IteB b K a) H1
theorem pi_enumB {X : Cx} {e : Expr} {ta : TA} {p pos tpos : Pos} {elts : List Expr} {kk : Nat} (hg : Gl X "enumerate") (hm : X.mg "enumerate" = none) (ha : PA X [e] ta) (hs : starEach [e] X.env = [(false, eval e X.env)] := by rfl) :
    PI X (.Tuple elts kk tpos) (.Call (.Name "enumerate" p) [e] [] pos) (iEnumB X.K ta) := by
  refine ⟨fun pins s σ H R I h => ?_⟩
  refine Call_ (ld_blt I hg hm boot_enumerate (PyProof.Rows.callWith_type1 (thn (ha.run pos pins s σ H _ I h) fun us s1 ⟨vs, H1, I1, r1, q1⟩ => ?_) hs rfl))
  obtain ⟨b, a, xs, ex, hq, q⟩ := q1
  subst ex
  cases r1 with
  | cons r rr =>
    cases rr
    cases r
    obtain ⟨its, rv, p1⟩ := inv_seqB I1 hq
    have la := seqB_lt p1
    refine enum_begins1 (beginsB b a its.toArray) p1 fun h' he h1 hsz hk => wpAny_pyIter_enum he ?_
    have I2 : Inv X pins σ H1 { s1 with heap := h' } := I1.kept (t' := s1.toks) hk
    refine ⟨s1.heap.objs.size + 1, [s1.heap.objs.size + 1, s1.heap.objs.size], _, _, H1, rfl, I2, turn_enumB (b1 := b) (a := a) (Nat.succ_ne_self _) (Nat.ne_of_gt (Nat.lt_succ_of_lt la)) (Nat.ne_of_lt la), ⟨⟨.none, he⟩, itB_new h1⟩, fun c hcm => ?_, q⟩
    have e' : c = s1.heap.objs.size + 1 ∨ c = s1.heap.objs.size := by simpa using hcm
    have hle : s1.heap.objs.size ≤ c := by
      rcases e' with z | z
      · rw [z]; exact Nat.le_add_right _ _
      · rw [z]; exact Nat.le_refl _
    exact I1.fpOk hle (I1.hok.fresh hle)
theorem walk_enumB {b : Bool} {K : PySem.W.Frag} {a : Addr} {xs : List V} : Walk (IteB b K a) xs.length (fun H => SqB b K H a xs) (YPair (fun i => some (.int (i : Nat))) (fun i => xs[i]?)) := by
  refine ⟨fun i _ hi q => ⟨xs, xs[i], q, by simp [hi]⟩, fun _ q => ⟨xs, q, rfl⟩, fun i H v H' _ q y => ?_⟩
  obtain ⟨T, x, h1, h2, h3, h4⟩ := y
  exact ⟨T, .int (i : Nat), x, h1, h2, h3, rfl, h4 xs q⟩
end Wa

/-! zip into one name, enumerate of zip: a zip whose own tuple may still be held -/
namespace Wa
open PySem PySem.Spec PyProof.Rows L2
open PySem.W (kdx_alive)

abbrev IsZipA (h : Heap) (z TI TO : Addr) (x : Value) (f : Bool) : Prop := h.get? z = some { cls := .type "zip", dict := none, data := .fields #[x, .bool f, .bool false, .ref TI, .ref TO], slots := #[] }
def FreeV (x : Value) : Prop := x = .none ∨ ∃ T : Nat, x = rawInt T
/-- the zip's state -/
def ZAt (h : Heap) (z TI TO : Addr) : Prop := ∃ x f, IsZipA h z TI TO x f ∧ FreeV x
section
variable {prog : Program} {w : World} {A : Around} {E : Value → Shared → Prop} {s : Shared} {z TI TO i1 i2 : Addr} {fp1 fp2 : List Addr} {n1 n2 i : Nat} {P1 P2 : Nat → Value → Prop} {St1 St2 : Nat → Heap → Prop} {a1 a2 : Value}
theorem alive_any {a : Addr} {Q : Option Obj → Shared → Prop} (h : ∀ r, Q r s) : wpAny (model prog w) A (loadIfAlive a) Q E s := fun _ _ _ => h _
theorem owned_any {x : Value} {f : Bool} {Q : Bool → Shared → Prop} (hz : IsZipA s.heap z TI TO x f) (hx : FreeV x) (h : ∀ b f' h', IsZipA h' z TI TO x f' → Heap.SameBut z s.heap h' → Q b { s with heap := h' }) :
    wpAny (model prog w) A (Builtin.SmallTypes.ownedTupleIsFree (.ref z)) Q E s := by
  unfold Builtin.SmallTypes.ownedTupleIsFree
  rcases hx with rfl | ⟨T, rfl⟩
  · exact wpAny_bind (wpAny_field hz rfl (x := .none) rfl (wpAny_pure (h true f s.heap hz (Heap.SameBut.refl _ _))))
  · refine wpAny_bind (wpAny_field hz rfl (x := rawInt T) rfl ?_)
    show wpAny _ _ (loadIfAlive ((T : Int).toNat) >>= _) _ _ _
    refine wpAny_bind (alive_any fun r => ?_)
    cases r with
    | none =>
      simp only [Option.isNone_none, if_true]
      exact wpAny_pure (h true f s.heap hz (Heap.SameBut.refl _ _))
    | some o =>
      simp only [Option.isNone_some, Bool.false_eq_true, if_false]
      refine wpAny_bind (wpAny_field hz rfl (x := .bool f) rfl ?_)
      cases f with
      | true =>
        rw [if_neg (show ¬ ((Value.bool true != Value.bool true) = true) from Bool.false_ne_true)]
        exact wpAny_pure (h false true s.heap hz (Heap.SameBut.refl _ _))
      | false =>
        rw [if_pos (show (Value.bool false != Value.bool true) = true from rfl)]
        exact wpAny_bind (wpAny_setField_rec hz (by simp) fun h₁ hz₁ hs₁ => wpAny_pure (h false true h₁ hz₁ hs₁))
theorem zipA_next_item {Q : Value → Shared → Prop} (S : ZipSep2 z TI TO i1 i2 fp1 fp2) (D1 : Draws prog w A i1 fp1 n1 P1 St1) (D2 : Draws prog w A i2 fp2 n2 P2 St2)
    (hz : ZAt s.heap z TI TO) (hTI : IsTupOf2 s.heap TI (.ref i1) (.ref i2)) (hTO : IsTupOf2 s.heap TO a1 a2) (st1 : St1 i s.heap) (st2 : St2 i s.heap) (hlt1 : i < n1) (hlt2 : i < n2)
    (hQ : ∀ x1 x2 h' tk, P1 i x1 → P2 i x2 → ZAt h' z TI TO → (∃ b1 b2, IsTupOf2 h' TO b1 b2) → St1 (i + 1) h' → St2 (i + 1) h' → IsTupOf2 h' s.heap.objs.size x1 x2 → h'.objs.size = s.heap.objs.size + 1 →
      (∀ c o, c ≠ z → c ≠ TO → c ≠ i1 → c ≠ i2 → s.heap.get? c = some o → h'.get? c = some o) → Q (.ref s.heap.objs.size) { s with heap := h', toks := tk }) :
    wpAny (model prog w) A (Builtin.«zip.__next__» ⟨[.ref z], []⟩) (fun fin s' => ∃ v, fin = .done (.ret v) ∧ Q v s') E s := by
  obtain ⟨hp, g, d, tk0, os⟩ := s
  obtain ⟨x, f, hz, hx⟩ := hz
  show wpAny _ _ (field (.ref z) 2 >>= _) _ _ _
  refine wpAny_bind (wpAny_field hz rfl (x := .bool false) rfl ?_)
  show wpAny _ _ (field (.ref z) 3 >>= _) _ _ _
  refine wpAny_bind (wpAny_field hz rfl (x := .ref TI) rfl ?_)
  refine wpAny_bind (wpAny_seqItems hTI rfl ?_)
  show wpAny _ _ (Builtin.SmallTypes.ownedTupleIsFree (.ref z) >>= _) _ _ _
  refine wpAny_bind (owned_any hz hx fun b f' h0 hz' hs' => ?_)
  replace hs' : Heap.SameBut z hp h0 := hs'
  have hTI' : IsTupOf2 h0 TI (.ref i1) (.ref i2) := hs'.extBut _ _ S.TIz hTI
  have hTO' : IsTupOf2 h0 TO a1 a2 := hs'.extBut _ _ S.TOz hTO
  have st1' := D1.over st1 hs' S.zf1
  have st2' := D2.over st2 hs' S.zf2
  have hz0s : h0.objs.size = hp.objs.size := hs'.1
  cases b with
  | true =>
    simp only [if_true]
    refine wpAny_bind (wpAny_rule ?_)
    refine wpAny_bind (wpAny_field (s := ⟨h0, g, d, tk0, os⟩) hz' rfl (x := .ref TO) rfl ?_)
    refine wpAny_bind (wpAny_setField_rec (s := ⟨h0, g, d, tk0, os⟩) hz' (by simp) fun g0 hz0 hs0 => ?_)
    replace hz0 : IsZipA g0 z TI TO .ellipsis f' := hz0
    replace hs0 : Heap.SameBut z h0 g0 := hs0
    refine wpAny_bind ?_
    simp only [List.zipIdx_cons, List.zipIdx_nil, List.forIn_cons, List.forIn_nil]
    refine wpAny_bind (wpAny_bind (wpAny_onRaise ?_))
    show wpAny _ _ (Builtin.SmallTypes.nextOf (.ref i1) >>= _) _ _ ⟨g0, g, d, tk0, os⟩
    refine wpAny_bind (D1.item i _ _ _ hlt1 (D1.over st1' hs0 S.zf1) fun x1 p1 tk1 hx1 sn1 hp1 => wpAny_pure ?_)
    replace hp1 : Heap.SameBut i1 g0 p1 := hp1
    have hU1 : IsTupOf2 p1 TO a1 a2 := hp1.extBut _ _ S.Ti1 (hs0.extBut _ _ S.TOz hTO')
    refine wpAny_bind (wpAny_seqItems (s := ⟨p1, g, d, tk1, os⟩) hU1 rfl ?_)
    refine wpAny_bind (updateSeq_IsTupOf2 (s := ⟨p1, g, d, tk1, os⟩) hU1 fun g1 hT1 hs1 => ?_)
    replace hT1 : IsTupOf2 g1 TO x1 a2 := hT1
    replace hs1 : Heap.SameBut TO p1 g1 := hs1
    refine wpAny_bind (wpAny_letGo (wpAny_pure ?_))
    refine wpAny_bind (wpAny_bind (wpAny_onRaise ?_))
    show wpAny _ _ (Builtin.SmallTypes.nextOf (.ref i2) >>= _) _ _ ⟨g1, g, d, tk1, os⟩
    refine wpAny_bind (D2.item i _ _ _ hlt2 (D2.over (D2.over (D2.over st2' hs0 S.zf2) hp1 S.sep1_2) hs1 S.Tf2) fun x2 p2 tk2 hx2 sn2 hp2 => wpAny_pure ?_)
    replace hp2 : Heap.SameBut i2 g1 p2 := hp2
    have hU2 : IsTupOf2 p2 TO x1 a2 := hp2.extBut _ _ S.Ti2 hT1
    refine wpAny_bind (wpAny_seqItems (s := ⟨p2, g, d, tk2, os⟩) hU2 rfl ?_)
    refine wpAny_bind (updateSeq_IsTupOf2 (s := ⟨p2, g, d, tk2, os⟩) hU2 fun g2 hT2 hs2 => ?_)
    replace hT2 : IsTupOf2 g2 TO x1 x2 := hT2
    replace hs2 : Heap.SameBut TO p2 g2 := hs2
    refine wpAny_bind (wpAny_letGo (wpAny_pure (wpAny_pure ?_)))
    refine wpAny_bind (wpAny_seqItems (s := ⟨g2, g, d, tk2, os⟩) hT2 rfl ?_)
    refine wpAny_bind (wpAny_newTuple ?_)
    have hsz : g2.objs.size = hp.objs.size := by rw [hs2.1, hp2.1, hs1.1, hp1.1, hs0.1, hz0s]
    have hzz : IsZipA g2 z TI TO .ellipsis f' := (hs2.extBut _ _ S.TOz.symm (hp2.extBut _ _ S.zi2 (hs1.extBut _ _ S.TOz.symm (hp1.extBut _ _ S.zi1 hz0))))
    have hkk : ∀ c o, c ≠ z → c ≠ TO → c ≠ i1 → c ≠ i2 → hp.get? c = some o → g2.get? c = some o := fun c o cz cT c1 c2 e =>
      (hs2.extBut _ _ cT (hp2.extBut _ _ c2 (hs1.extBut _ _ cT (hp1.extBut _ _ c1 (hs0.extBut _ _ cz (hs'.extBut _ _ cz e))))))
    have hj1 : St1 (i + 1) g2 := (D1.over (D1.over (D1.over sn1 hs1 S.Tf1) hp2 S.sep2_1) hs2 S.Tf1)
    have hj2 : St2 (i + 1) g2 := (D2.over sn2 hs2 S.Tf2)
    have hzlt : z < g2.objs.size := Heap.lt_size hzz
    show wpAny _ _ (Builtin.SmallTypes.ownedTupleHandOut (.ref z) (.ref g2.objs.size) >>= _) _ _ ⟨g2.push { cls := .type "tuple", data := .seq #[x1, x2] }, g, d, tk2, os⟩
    refine wpAny_bind ?_
    unfold Builtin.SmallTypes.ownedTupleHandOut
    have hz₆ : IsZipA (g2.push { cls := .type "tuple", data := .seq #[x1, x2] }) z TI TO .ellipsis f' := Heap.get?_push_of_some _ hzz
    refine wpAny_bind (wpAny_setField_rec hz₆ (by simp) fun h₇ hz₇ hs₇ => ?_)
    replace hz₇ : IsZipA h₇ z TI TO (rawInt g2.objs.size) f' := hz₇
    refine wpAny_setField_rec hz₇ (by simp) fun h₈ hz₈ hs₈ => ?_
    replace hz₈ : IsZipA h₈ z TI TO (rawInt g2.objs.size) false := hz₈
    replace hs₇ : Heap.SameBut z (g2.push { cls := .type "tuple", data := .seq #[x1, x2] }) h₇ := hs₇
    replace hs₈ : Heap.SameBut z h₇ h₈ := hs₈
    have up : ∀ c o, c ≠ z → g2.get? c = some o → h₈.get? c = some o := fun c o c1 e => hs₈.extBut _ _ c1 (hs₇.extBut _ _ c1 (Heap.get?_push_of_some _ e))
    have hT₈ : IsTupOf2 h₈ g2.objs.size x1 x2 := hs₈.extBut _ _ (Nat.ne_of_gt hzlt) (hs₇.extBut _ _ (Nat.ne_of_gt hzlt) (Heap.get?_push_size _ rfl))
    have hz8 : h₈.objs.size = g2.objs.size + 1 := by rw [hs₈.1, hs₇.1, Heap.size_push]
    rw [hsz] at hz₈ hT₈ hz8
    refine wpAny_pure ⟨_, rfl, ?_⟩
    show Q (.ref g2.objs.size) ⟨h₈, g, d, tk2, os⟩
    rw [hsz]
    exact hQ x1 x2 h₈ tk2 hx1 hx2 ⟨_, _, hz₈, .inr ⟨_, rfl⟩⟩ ⟨_, _, up _ _ S.TOz hT2⟩ (D1.frame _ _ _ hj1 fun b hb o e => up b o (fun q => S.zf1 (q ▸ hb)) e) (D2.frame _ _ _ hj2 fun b hb o e => up b o (fun q => S.zf2 (q ▸ hb)) e) hT₈ hz8 fun c o cz cT c1 c2 e => up c o cz (hkk c o cz cT c1 c2 e)
  | false =>
    simp only [Bool.false_eq_true, if_false]
    refine wpAny_bind ?_
    rw [← Array.forIn_toList]
    simp only [List.forIn_cons, List.forIn_nil]
    refine wpAny_bind (wpAny_bind (wpAny_holding ?_))
    show wpAny _ _ (Builtin.SmallTypes.nextOf (.ref i1) >>= _) _ _ ⟨h0, g, d, tk0, os⟩
    refine wpAny_bind (D1.item i _ _ _ hlt1 st1' fun x1 p1 tk1 hx1 sn1 hp1 => wpAny_pure ?_)
    replace hp1 : Heap.SameBut i1 h0 p1 := hp1
    refine wpAny_pure ?_
    refine wpAny_bind (wpAny_bind (wpAny_holding ?_))
    show wpAny _ _ (Builtin.SmallTypes.nextOf (.ref i2) >>= _) _ _ ⟨p1, g, d, tk1, os⟩
    refine wpAny_bind (D2.item i _ _ _ hlt2 (D2.over st2' hp1 S.sep1_2) fun x2 p2 tk2 hx2 sn2 hp2 => wpAny_pure ?_)
    replace hp2 : Heap.SameBut i2 p1 p2 := hp2
    refine wpAny_pure (wpAny_pure ?_)
    show wpAny _ _ (newTuple [x1, x2] >>= _) _ _ ⟨p2, g, d, tk2, os⟩
    refine wpAny_bind (wpAny_newTuple ?_)
    have hsz : p2.objs.size = hp.objs.size := by rw [hp2.1, hp1.1, hz0s]
    have hzz : IsZipA p2 z TI TO x f' := hp2.extBut _ _ S.zi2 (hp1.extBut _ _ S.zi1 hz')
    have hTT : IsTupOf2 p2 TO a1 a2 := hp2.extBut _ _ S.Ti2 (hp1.extBut _ _ S.Ti1 hTO')
    have hk : ∀ c o, c ≠ z → c ≠ TO → c ≠ i1 → c ≠ i2 → hp.get? c = some o → p2.get? c = some o := fun c o cz _ c1 c2 e => hp2.extBut _ _ c2 (hp1.extBut _ _ c1 (hs'.extBut _ _ cz e))
    have up : ∀ c o, p2.get? c = some o → (p2.push { cls := .type "tuple", data := .seq #[x1, x2] }).get? c = some o := fun c o e => Heap.get?_push_of_some _ e
    have hT : IsTupOf2 (p2.push { cls := .type "tuple", data := .seq #[x1, x2] }) p2.objs.size x1 x2 := Heap.get?_push_size _ rfl
    have hz8 : (p2.push { cls := .type "tuple", data := .seq #[x1, x2] }).objs.size = p2.objs.size + 1 := Heap.size_push ..
    refine wpAny_pure ⟨_, rfl, ?_⟩
    show Q (.ref p2.objs.size) ⟨p2.push { cls := .type "tuple", data := .seq #[x1, x2] }, g, d, tk2, os⟩
    rw [hsz] at hT hz8 ⊢
    exact hQ x1 x2 _ tk2 hx1 hx2 ⟨_, _, up _ _ hzz, hx⟩ ⟨_, _, up _ _ hTT⟩ (D1.frame _ _ _ (D1.over sn1 hp2 S.sep2_1) fun b hb o e => up b o e) (D2.frame _ _ _ sn2 fun b hb o e => up b o e) hT hz8 fun c o cz cT c1 c2 e => up c o (hk c o cz cT c1 c2 e)
theorem zipA_next_end {Q : Fin → Shared → Prop} (S : ZipSep2 z TI TO i1 i2 fp1 fp2) (D1 : Draws prog w A i1 fp1 n1 P1 St1) (D2 : Draws prog w A i2 fp2 n2 P2 St2)
    (hz : ZAt s.heap z TI TO) (hTI : IsTupOf2 s.heap TI (.ref i1) (.ref i2)) (hTO : IsTupOf2 s.heap TO a1 a2) (st1 : St1 i s.heap) (st2 : St2 i s.heap) (hle1 : i ≤ n1) (hle2 : i ≤ n2) (hend : i = n1 ∨ i = n2)
    (hE : ∀ h' tk e, (∀ c o, c ≠ z → c ≠ TO → c ≠ i1 → c ≠ i2 → s.heap.get? c = some o → h'.get? c = some o) → (∃ o, h'.get? e = some o ∧ o.cls = .type "StopIteration") → E (.ref e) { s with heap := h', toks := tk }) :
    wpAny (model prog w) A (Builtin.«zip.__next__» ⟨[.ref z], []⟩) Q E s := by
  obtain ⟨hp, g, d, tk0, os⟩ := s
  obtain ⟨x, f, hz, hx⟩ := hz
  show wpAny _ _ (field (.ref z) 2 >>= _) _ _ _
  refine wpAny_bind (wpAny_field hz rfl (x := .bool false) rfl ?_)
  show wpAny _ _ (field (.ref z) 3 >>= _) _ _ _
  refine wpAny_bind (wpAny_field hz rfl (x := .ref TI) rfl ?_)
  refine wpAny_bind (wpAny_seqItems hTI rfl ?_)
  show wpAny _ _ (Builtin.SmallTypes.ownedTupleIsFree (.ref z) >>= _) _ _ _
  refine wpAny_bind (owned_any hz hx fun b f' h0 hz' hs' => ?_)
  replace hs' : Heap.SameBut z hp h0 := hs'
  have hTO' : IsTupOf2 h0 TO a1 a2 := hs'.extBut _ _ S.TOz hTO
  have st1' := D1.over st1 hs' S.zf1
  have st2' := D2.over st2 hs' S.zf2
  cases b with
  | true =>
    simp only [if_true]
    refine wpAny_bind (wpAny_rule ?_)
    refine wpAny_bind (wpAny_field (s := ⟨h0, g, d, tk0, os⟩) hz' rfl (x := .ref TO) rfl ?_)
    refine wpAny_bind (wpAny_setField_rec (s := ⟨h0, g, d, tk0, os⟩) hz' (by simp) fun g0 hz0 hs0 => ?_)
    replace hz0 : IsZipA g0 z TI TO .ellipsis f' := hz0
    replace hs0 : Heap.SameBut z h0 g0 := hs0
    refine wpAny_bind ?_
    simp only [List.zipIdx_cons, List.zipIdx_nil, List.forIn_cons, List.forIn_nil]
    refine wpAny_bind (wpAny_bind (wpAny_onRaise ?_))
    show wpAny _ _ (Builtin.SmallTypes.nextOf (.ref i1) >>= _) _ _ ⟨g0, g, d, tk0, os⟩
    by_cases hlt1 : i < n1
    · refine wpAny_bind (D1.item i _ _ _ hlt1 (D1.over st1' hs0 S.zf1) fun x1 p1 tk1 hx1 sn1 hp1 => wpAny_pure ?_)
      replace hp1 : Heap.SameBut i1 g0 p1 := hp1
      have hU1 : IsTupOf2 p1 TO a1 a2 := hp1.extBut _ _ S.Ti1 (hs0.extBut _ _ S.TOz hTO')
      refine wpAny_bind (wpAny_seqItems (s := ⟨p1, g, d, tk1, os⟩) hU1 rfl ?_)
      refine wpAny_bind (updateSeq_IsTupOf2 (s := ⟨p1, g, d, tk1, os⟩) hU1 fun g1 hT1 hs1 => ?_)
      replace hT1 : IsTupOf2 g1 TO x1 a2 := hT1
      replace hs1 : Heap.SameBut TO p1 g1 := hs1
      refine wpAny_bind (wpAny_letGo (wpAny_pure ?_))
      have hi2 : i = n2 := by omega
      refine wpAny_bind (wpAny_bind (wpAny_onRaise ?_))
      show wpAny _ _ (Builtin.SmallTypes.nextOf (.ref i2) >>= _) _ _ ⟨g1, g, d, tk1, os⟩
      refine wpAny_bind (D2.done ⟨g1, g, d, tk1, os⟩ _ _ (by rw [← hi2]; exact (D2.over (D2.over (D2.over st2' hs0 S.zf2) hp1 S.sep1_2) hs1 S.Tf2)) fun q e hq he => ?_)
      replace hq : Heap.ExtBut i2 g1 q := hq
      obtain ⟨oe, hoe, hce⟩ := he
      replace hoe : q.get? e = some oe := hoe
      have hzq : IsZipA q z TI TO .ellipsis f' := hq _ _ S.zi2 (hs1.extBut _ _ S.TOz.symm (hp1.extBut _ _ S.zi1 hz0))
      have hez : e ≠ z := fun x => by subst x; rw [hzq] at hoe; cases hoe; simp at hce
      refine wpAny_setField_rec (s := ⟨q, g, d, tk1, os⟩) hzq (by simp) fun q' _ hq' => ?_
      replace hq' : Heap.SameBut z q q' := hq'
      exact hE q' tk1 e (fun c o cz cT c1 c2 x => hq'.extBut _ _ cz (hq _ _ c2 (hs1.extBut _ _ cT (hp1.extBut _ _ c1 (hs0.extBut _ _ cz (hs'.extBut _ _ cz x)))))) ⟨oe, hq'.extBut _ _ hez hoe, hce⟩
    · have hi1 : i = n1 := by omega
      refine wpAny_bind (D1.done ⟨g0, g, d, tk0, os⟩ _ _ (by rw [← hi1]; exact (D1.over st1' hs0 S.zf1)) fun q e hq he => ?_)
      replace hq : Heap.ExtBut i1 g0 q := hq
      obtain ⟨oe, hoe, hce⟩ := he
      replace hoe : q.get? e = some oe := hoe
      have hzq : IsZipA q z TI TO .ellipsis f' := hq _ _ S.zi1 hz0
      have hez : e ≠ z := fun x => by subst x; rw [hzq] at hoe; cases hoe; simp at hce
      refine wpAny_setField_rec (s := ⟨q, g, d, tk0, os⟩) hzq (by simp) fun q' _ hq' => ?_
      replace hq' : Heap.SameBut z q q' := hq'
      exact hE q' tk0 e (fun c o cz cT c1 c2 x => hq'.extBut _ _ cz (hq _ _ c1 (hs0.extBut _ _ cz (hs'.extBut _ _ cz x)))) ⟨oe, hq'.extBut _ _ hez hoe, hce⟩
  | false =>
    simp only [Bool.false_eq_true, if_false]
    refine wpAny_bind ?_
    rw [← Array.forIn_toList]
    simp only [List.forIn_cons, List.forIn_nil]
    refine wpAny_bind (wpAny_bind (wpAny_holding ?_))
    show wpAny _ _ (Builtin.SmallTypes.nextOf (.ref i1) >>= _) _ _ ⟨h0, g, d, tk0, os⟩
    by_cases hlt1 : i < n1
    · refine wpAny_bind (D1.item i _ _ _ hlt1 st1' fun x1 p1 tk1 hx1 sn1 hp1 => wpAny_pure ?_)
      replace hp1 : Heap.SameBut i1 h0 p1 := hp1
      refine wpAny_pure ?_
      have hi2 : i = n2 := by omega
      refine wpAny_bind (wpAny_bind (wpAny_holding ?_))
      show wpAny _ _ (Builtin.SmallTypes.nextOf (.ref i2) >>= _) _ _ ⟨p1, g, d, tk1, os⟩
      refine wpAny_bind (D2.done ⟨p1, g, d, tk1, os⟩ _ _ (by rw [← hi2]; exact D2.over st2' hp1 S.sep1_2) fun q e hq he => ?_)
      exact hE q tk1 e (fun c o cz cT c1 c2 x => hq _ _ c2 (hp1.extBut _ _ c1 (hs'.extBut _ _ cz x))) he
    · have hi1 : i = n1 := by omega
      refine wpAny_bind (D1.done ⟨h0, g, d, tk0, os⟩ _ _ (by rw [← hi1]; exact st1') fun q e hq he => ?_)
      exact hE q tk0 e (fun c o cz cT c1 c2 x => hq _ _ c1 (hs'.extBut _ _ cz x)) he
theorem zipA_pyNext_item {Q : Option Value → Shared → Prop} (S : ZipSep2 z TI TO i1 i2 fp1 fp2) (D1 : Draws prog w A.in1 i1 fp1 n1 P1 St1) (D2 : Draws prog w A.in1 i2 fp2 n2 P2 St2)
    (hz : ZAt s.heap z TI TO) (hTI : IsTupOf2 s.heap TI (.ref i1) (.ref i2)) (hTO : IsTupOf2 s.heap TO a1 a2) (st1 : St1 i s.heap) (st2 : St2 i s.heap) (hlt1 : i < n1) (hlt2 : i < n2)
    (hQ : ∀ x1 x2 h' tk, P1 i x1 → P2 i x2 → ZAt h' z TI TO → (∃ b1 b2, IsTupOf2 h' TO b1 b2) → St1 (i + 1) h' → St2 (i + 1) h' → IsTupOf2 h' s.heap.objs.size x1 x2 → h'.objs.size = s.heap.objs.size + 1 →
      (∀ c o, c ≠ z → c ≠ TO → c ≠ i1 → c ≠ i2 → s.heap.get? c = some o → h'.get? c = some o) → Q (some (.ref s.heap.objs.size)) { s with heap := h', toks := tk }) :
    wpAny (model prog w) A (pyNext (.ref z)) Q E s := by
  have hT : s.TypeIs (.ref z) "zip" := by obtain ⟨_, _, hz, _⟩ := hz; exact ⟨_, hz, rfl⟩
  unfold pyNext
  exact wpAny_bind (wpAny_attempt (wpAny_callSpecial?_slot (name := Str.ofString "__next__") hT F.slot_zip_next
    (wpAny_call_entry F.slot_zip_next hT F.entry_zip_next
      (zipA_next_item S D1 D2 hz hTI hTO st1 st2 hlt1 hlt2 fun x1 x2 h' tk y1 y2 b1 b2 d1 d2 b5 b6 b7 => wpAny_pure (hQ x1 x2 h' tk y1 y2 b1 b2 d1 d2 b5 b6 b7)) (F.args_zip_next_1 _))))
theorem zipA_pyNext_end {Q : Option Value → Shared → Prop} (S : ZipSep2 z TI TO i1 i2 fp1 fp2) (D1 : Draws prog w A.in1 i1 fp1 n1 P1 St1) (D2 : Draws prog w A.in1 i2 fp2 n2 P2 St2)
    (hz : ZAt s.heap z TI TO) (hTI : IsTupOf2 s.heap TI (.ref i1) (.ref i2)) (hTO : IsTupOf2 s.heap TO a1 a2) (st1 : St1 i s.heap) (st2 : St2 i s.heap) (hle1 : i ≤ n1) (hle2 : i ≤ n2) (hend : i = n1 ∨ i = n2)
    (hQ : ∀ h' tk, (∀ c o, c ≠ z → c ≠ TO → c ≠ i1 → c ≠ i2 → s.heap.get? c = some o → h'.get? c = some o) → Q none { s with heap := h', toks := tk }) : wpAny (model prog w) A (pyNext (.ref z)) Q E s := by
  have hT : s.TypeIs (.ref z) "zip" := by obtain ⟨_, _, hz, _⟩ := hz; exact ⟨_, hz, rfl⟩
  unfold pyNext
  refine wpAny_bind (wpAny_attempt (wpAny_callSpecial?_slot (name := Str.ofString "__next__") hT F.slot_zip_next
    (wpAny_call_entry F.slot_zip_next hT F.entry_zip_next (zipA_next_end S D1 D2 hz hTI hTO st1 st2 hle1 hle2 hend fun h' tk e hk he => ?_) (F.args_zip_next_1 _))))
  obtain ⟨o, ho, hc⟩ := he
  refine wpAny_bind (wpAny_isInstance (T := "StopIteration") (b := true) ⟨o, ho, hc⟩ isSubtype_stop ?_)
  exact wpAny_pure (hQ _ _ hk)
theorem zipA_nextOf_item {Q : Value → Shared → Prop} (S : ZipSep2 z TI TO i1 i2 fp1 fp2) (D1 : Draws prog w A.in1 i1 fp1 n1 P1 St1) (D2 : Draws prog w A.in1 i2 fp2 n2 P2 St2)
    (hz : ZAt s.heap z TI TO) (hTI : IsTupOf2 s.heap TI (.ref i1) (.ref i2)) (hTO : IsTupOf2 s.heap TO a1 a2) (st1 : St1 i s.heap) (st2 : St2 i s.heap) (hlt1 : i < n1) (hlt2 : i < n2)
    (hQ : ∀ x1 x2 h' tk, P1 i x1 → P2 i x2 → ZAt h' z TI TO → (∃ b1 b2, IsTupOf2 h' TO b1 b2) → St1 (i + 1) h' → St2 (i + 1) h' → IsTupOf2 h' s.heap.objs.size x1 x2 → h'.objs.size = s.heap.objs.size + 1 →
      (∀ c o, c ≠ z → c ≠ TO → c ≠ i1 → c ≠ i2 → s.heap.get? c = some o → h'.get? c = some o) → Q (.ref s.heap.objs.size) { s with heap := h', toks := tk }) :
    wpAny (model prog w) A (Builtin.SmallTypes.nextOf (.ref z)) Q E s := by
  have hT : s.TypeIs (.ref z) "zip" := by obtain ⟨_, _, hz, _⟩ := hz; exact ⟨_, hz, rfl⟩
  unfold Builtin.SmallTypes.nextOf
  exact wpAny_bind (wpAny_callSpecial?_slot (name := Str.ofString "__next__") hT F.slot_zip_next
    (wpAny_call_entry F.slot_zip_next hT F.entry_zip_next
      (zipA_next_item S D1 D2 hz hTI hTO st1 st2 hlt1 hlt2 fun x1 x2 h' tk y1 y2 b1 b2 d1 d2 b5 b6 b7 => wpAny_pure (hQ x1 x2 h' tk y1 y2 b1 b2 d1 d2 b5 b6 b7)) (F.args_zip_next_1 _)))
theorem zipA_nextOf_end {Q : Value → Shared → Prop} (S : ZipSep2 z TI TO i1 i2 fp1 fp2) (D1 : Draws prog w A.in1 i1 fp1 n1 P1 St1) (D2 : Draws prog w A.in1 i2 fp2 n2 P2 St2)
    (hz : ZAt s.heap z TI TO) (hTI : IsTupOf2 s.heap TI (.ref i1) (.ref i2)) (hTO : IsTupOf2 s.heap TO a1 a2) (st1 : St1 i s.heap) (st2 : St2 i s.heap) (hle1 : i ≤ n1) (hle2 : i ≤ n2) (hend : i = n1 ∨ i = n2)
    (hE : ∀ h' tk e, (∀ c o, c ≠ z → c ≠ TO → c ≠ i1 → c ≠ i2 → s.heap.get? c = some o → h'.get? c = some o) → (∃ o, h'.get? e = some o ∧ o.cls = .type "StopIteration") → E (.ref e) { s with heap := h', toks := tk }) : wpAny (model prog w) A (Builtin.SmallTypes.nextOf (.ref z)) Q E s := by
  have hT : s.TypeIs (.ref z) "zip" := by obtain ⟨_, _, hz, _⟩ := hz; exact ⟨_, hz, rfl⟩
  unfold Builtin.SmallTypes.nextOf
  exact wpAny_bind (wpAny_callSpecial?_slot (name := Str.ofString "__next__") hT F.slot_zip_next
    (wpAny_call_entry F.slot_zip_next hT F.entry_zip_next (zipA_next_end S D1 D2 hz hTI hTO st1 st2 hle1 hle2 hend hE) (F.args_zip_next_1 _)))
/-! enumerate over it -/
theorem enumZ_next_item {e : Addr} {c : Int} {old : Value} {Q : Value → Shared → Prop} (S : ZipSep2 z TI TO i1 i2 fp1 fp2) (D1 : Draws prog w A.in1 i1 fp1 n1 P1 St1) (D2 : Draws prog w A.in1 i2 fp2 n2 P2 St2)
    (he : IsEnum s.heap e z c old) (hz : ZAt s.heap z TI TO) (hTI : IsTupOf2 s.heap TI (.ref i1) (.ref i2)) (hTO : IsTupOf2 s.heap TO a1 a2) (st1 : St1 i s.heap) (st2 : St2 i s.heap) (hlt1 : i < n1) (hlt2 : i < n2)
    (ez : e ≠ z) (eTI : e ≠ TI) (eTO : e ≠ TO) (e1 : e ∉ fp1) (e2 : e ∉ fp2)
    (hQ : ∀ x1 x2 h' tk, P1 i x1 → P2 i x2 → (∃ it, IsEnumOut h' e z (c + 1) it (s.heap.objs.size + 1)) → ZAt h' z TI TO → IsTupOf2 h' TI (.ref i1) (.ref i2) → (∃ b1 b2, IsTupOf2 h' TO b1 b2) → St1 (i + 1) h' → St2 (i + 1) h' →
      IsTupOf2 h' s.heap.objs.size x1 x2 → IsTupOf2 h' (s.heap.objs.size + 1) (.int c tk) (.ref s.heap.objs.size) → h'.objs.size = s.heap.objs.size + 2 →
      (∀ b o, b ≠ e → b ≠ z → b ≠ TO → b ≠ i1 → b ≠ i2 → s.heap.get? b = some o → h'.get? b = some o) → Q (.ref (s.heap.objs.size + 1)) { s with heap := h', toks := tk + 1 }) :
    wpAny (model prog w) A (Builtin.«enumerate.__next__» ⟨[.ref e], []⟩) (fun fin s' => ∃ v, fin = .done (.ret v) ∧ Q v s') E s := by
  obtain ⟨hp, g, d, tk₀, os⟩ := s
  have ei1 : e ≠ i1 := fun q => e1 (q ▸ S.mem1)
  have ei2 : e ≠ i2 := fun q => e2 (q ▸ S.mem2)
  show wpAny _ _ (field (.ref e) 2 >>= _) _ _ _
  refine wpAny_bind (wpAny_field he rfl (x := .ref z) rfl ?_)
  refine wpAny_bind (zipA_nextOf_item S D1 D2 hz hTI hTO st1 st2 hlt1 hlt2 fun x1 x2 h₁ tk p1 p2 z1 t1 q1 q2 hT2 hsz1 hk1 => ?_)
  replace hT2 : IsTupOf2 h₁ hp.objs.size x1 x2 := hT2
  replace hsz1 : h₁.objs.size = hp.objs.size + 1 := hsz1
  have he₁ : IsEnum h₁ e z c old := hk1 _ _ ez eTO ei1 ei2 he
  have hTI₁ : IsTupOf2 h₁ TI (.ref i1) (.ref i2) := hk1 _ _ S.TIz S.TITO S.TIi1 S.TIi2 hTI
  show wpAny _ _ (field (.ref e) 3 >>= _) _ _ ⟨h₁, g, d, tk, os⟩
  refine wpAny_bind (wpAny_field he₁ rfl (x := rawInt c) rfl ?_)
  show wpAny _ _ (field (.ref e) 4 >>= _) _ _ ⟨h₁, g, d, tk, os⟩
  refine wpAny_bind (wpAny_field he₁ rfl (x := .none) rfl ?_)
  show wpAny _ _ (mkInt c >>= _) _ _ ⟨h₁, g, d, tk, os⟩
  refine wpAny_bind (wpAny_mkInt ?_)
  show wpAny _ _ (setField (.ref e) 3 (rawInt (c + 1)) >>= _) _ _ ⟨h₁, g, d, tk + 1, os⟩
  refine wpAny_bind (wpAny_setField_rec he₁ (by simp) fun h₂ he₂ hs₂ => ?_)
  replace hs₂ : Heap.SameBut e h₁ h₂ := hs₂
  replace he₂ : IsEnum h₂ e z (c + 1) old := he₂
  show wpAny _ _ (setField (.ref e) 4 .none >>= _) _ _ ⟨h₂, g, d, tk + 1, os⟩
  refine wpAny_bind (wpAny_setField_rec he₂ (by simp) fun h₃ he₃ hs₃ => ?_)
  replace hs₃ : Heap.SameBut e h₂ h₃ := hs₃
  replace he₃ : IsEnum h₃ e z (c + 1) old := he₃
  show wpAny _ _ (newTuple [.int c tk, .ref hp.objs.size] >>= _) _ _ ⟨h₃, g, d, tk + 1, os⟩
  refine wpAny_bind (wpAny_newTuple ?_)
  have he₄ : IsEnum (h₃.push { cls := .type "tuple", data := .seq #[.int c tk, .ref hp.objs.size] }) e z (c + 1) old := Heap.get?_push_of_some _ he₃
  generalize hh₄ : h₃.push { cls := .type "tuple", data := .seq #[.int c tk, .ref hp.objs.size] } = h₄ at he₄
  have hsz : h₃.objs.size = hp.objs.size + 1 := by rw [hs₃.1, hs₂.1, hsz1]
  have hel : e < hp.objs.size := Heap.lt_size he
  have ht₄ : IsTupOf2 h₄ (hp.objs.size + 1) (.int c tk) (.ref hp.objs.size) := by rw [← hh₄, ← hsz]; exact Heap.get?_push_size _ rfl
  have hz₄ : h₄.objs.size = hp.objs.size + 2 := by rw [← hh₄, Heap.size_push, hsz]
  have k14 : ∀ b o, b ≠ e → h₁.get? b = some o → h₄.get? b = some o := fun b o hbe hb => by
    rw [← hh₄]; exact Heap.get?_push_of_some _ (hs₃.extBut b o hbe (hs₂.extBut b o hbe hb))
  show wpAny _ _ (Builtin.SmallTypes.ownedTupleIsFree (.ref e) >>= _) _ _ ⟨h₄, g, d, tk + 1, os⟩
  rw [hsz]
  clear hh₄ he₃ hs₃ he₂ hs₂ hsz h₃ h₂
  refine wpAny_bind ?_
  · unfold Builtin.SmallTypes.ownedTupleIsFree
    refine wpAny_bind (wpAny_field he₄ rfl (x := .none) rfl (wpAny_pure ?_))
    simp only [if_true]
    refine wpAny_bind (wpAny_rule ?_)
    refine wpAny_bind (wpAny_field he₄ rfl (x := old) rfl ?_)
    refine wpAny_bind (wpAny_setField_rec he₄ (by simp) fun h₅ he₅ hs₅ => ?_)
    replace hs₅ : Heap.SameBut e h₄ h₅ := hs₅
    replace he₅ : IsEnum h₅ e z (c + 1) (.ref hp.objs.size) := he₅
    show wpAny _ _ (Builtin.SmallTypes.ownedTupleHandOut (.ref e) (.ref (hp.objs.size + 1)) >>= _) _ _ ⟨h₅, g, d, tk + 1, os⟩
    refine wpAny_bind ?_
    · unfold Builtin.SmallTypes.ownedTupleHandOut
      refine wpAny_bind (wpAny_setField_rec he₅ (by simp) fun h₆ he₆ hs₆ => ?_)
      replace hs₆ : Heap.SameBut e h₅ h₆ := hs₆
      replace he₆ : IsEnumOut h₆ e z (c + 1) (.ref hp.objs.size) (hp.objs.size + 1) := he₆
      refine wpAny_setField_rec he₆ (by simp) fun h₇ he₇ hs₇ => ?_
      replace hs₇ : Heap.SameBut e h₆ h₇ := hs₇
      replace he₇ : IsEnumOut h₇ e z (c + 1) (.ref hp.objs.size) (hp.objs.size + 1) := he₇
      have up : ∀ b o, b ≠ e → h₄.get? b = some o → h₇.get? b = some o := fun b o hb x => hs₇.extBut b o hb (hs₆.extBut b o hb (hs₅.extBut b o hb x))
      have up1 : ∀ b o, b ≠ e → h₁.get? b = some o → h₇.get? b = some o := fun b o hb x => up b o hb (k14 b o hb x)
      have lt1 : hp.objs.size ≠ e := Nat.ne_of_gt hel
      have lt2 : hp.objs.size + 1 ≠ e := Nat.ne_of_gt (Nat.lt_succ_of_lt hel)
      refine wpAny_bind (wpAny_letGo (wpAny_pure ⟨_, rfl, hQ x1 x2 h₇ tk p1 p2 ⟨_, he₇⟩ ?_ (up1 _ _ eTI.symm hTI₁) ?_ ?_ ?_ (up1 _ _ lt1 hT2) (up _ _ lt2 ht₄) ?_ ?_⟩))
      · obtain ⟨x, f, zz, fv⟩ := z1
        exact ⟨x, f, up1 _ _ ez.symm zz, fv⟩
      · obtain ⟨b1, b2, tt⟩ := t1
        exact ⟨b1, b2, up1 _ _ eTO.symm tt⟩
      · exact D1.frame _ _ _ q1 fun b hb o y => up1 b o (fun q => e1 (q ▸ hb)) y
      · exact D2.frame _ _ _ q2 fun b hb o y => up1 b o (fun q => e2 (q ▸ hb)) y
      · rw [hs₇.1, hs₆.1, hs₅.1, hz₄]
      · exact fun b o hbe bz bT b1 b2 hb => up1 b o hbe (hk1 b o bz bT b1 b2 hb)
theorem enumZ_pyNext_item {e : Addr} {c : Int} {old : Value} {Q : Option Value → Shared → Prop} (S : ZipSep2 z TI TO i1 i2 fp1 fp2) (D1 : Draws prog w A.in1.in1 i1 fp1 n1 P1 St1) (D2 : Draws prog w A.in1.in1 i2 fp2 n2 P2 St2)
    (he : IsEnum s.heap e z c old) (hz : ZAt s.heap z TI TO) (hTI : IsTupOf2 s.heap TI (.ref i1) (.ref i2)) (hTO : IsTupOf2 s.heap TO a1 a2) (st1 : St1 i s.heap) (st2 : St2 i s.heap) (hlt1 : i < n1) (hlt2 : i < n2)
    (ez : e ≠ z) (eTI : e ≠ TI) (eTO : e ≠ TO) (e1 : e ∉ fp1) (e2 : e ∉ fp2)
    (hQ : ∀ x1 x2 h' tk, P1 i x1 → P2 i x2 → (∃ it, IsEnumOut h' e z (c + 1) it (s.heap.objs.size + 1)) → ZAt h' z TI TO → IsTupOf2 h' TI (.ref i1) (.ref i2) → (∃ b1 b2, IsTupOf2 h' TO b1 b2) → St1 (i + 1) h' → St2 (i + 1) h' →
      IsTupOf2 h' s.heap.objs.size x1 x2 → IsTupOf2 h' (s.heap.objs.size + 1) (.int c tk) (.ref s.heap.objs.size) → h'.objs.size = s.heap.objs.size + 2 →
      (∀ b o, b ≠ e → b ≠ z → b ≠ TO → b ≠ i1 → b ≠ i2 → s.heap.get? b = some o → h'.get? b = some o) → Q (some (.ref (s.heap.objs.size + 1))) { s with heap := h', toks := tk + 1 }) :
    wpAny (model prog w) A (pyNext (.ref e)) Q E s := by
  have hT : s.TypeIs (.ref e) "enumerate" := ⟨_, he, rfl⟩
  unfold pyNext
  exact wpAny_bind (wpAny_attempt (wpAny_callSpecial?_slot (name := Str.ofString "__next__") hT F.slot_enumerate_next
    (wpAny_call_entry F.slot_enumerate_next hT F.entry_enumerate_next
      (enumZ_next_item S D1 D2 he hz hTI hTO st1 st2 hlt1 hlt2 ez eTI eTO e1 e2 fun x1 x2 h' tk a b c d k q r t u v w x => wpAny_pure (hQ x1 x2 h' tk a b c d k q r t u v w x)) (F.args_enumerate_next_1 _))))
theorem enumZ_pyNext_end {e : Addr} {c : Int} {old : Value} {Q : Option Value → Shared → Prop} (S : ZipSep2 z TI TO i1 i2 fp1 fp2) (D1 : Draws prog w A.in1.in1 i1 fp1 n1 P1 St1) (D2 : Draws prog w A.in1.in1 i2 fp2 n2 P2 St2)
    (he : IsEnum s.heap e z c old) (hz : ZAt s.heap z TI TO) (hTI : IsTupOf2 s.heap TI (.ref i1) (.ref i2)) (hTO : IsTupOf2 s.heap TO a1 a2) (st1 : St1 i s.heap) (st2 : St2 i s.heap) (hle1 : i ≤ n1) (hle2 : i ≤ n2) (hend : i = n1 ∨ i = n2)
    (hQ : ∀ h' tk, (∀ c o, c ≠ z → c ≠ TO → c ≠ i1 → c ≠ i2 → s.heap.get? c = some o → h'.get? c = some o) → Q none { s with heap := h', toks := tk }) : wpAny (model prog w) A (pyNext (.ref e)) Q E s := by
  have hT : s.TypeIs (.ref e) "enumerate" := ⟨_, he, rfl⟩
  unfold pyNext
  refine wpAny_bind (wpAny_attempt (wpAny_callSpecial?_slot (name := Str.ofString "__next__") hT F.slot_enumerate_next
    (wpAny_call_entry F.slot_enumerate_next hT F.entry_enumerate_next ?_ (F.args_enumerate_next_1 _))))
  show wpAny _ _ (field (.ref e) 2 >>= _) _ _ _
  refine wpAny_bind (wpAny_field he rfl (x := .ref z) rfl ?_)
  refine wpAny_bind (zipA_nextOf_end S D1 D2 hz hTI hTO st1 st2 hle1 hle2 hend fun h' tk x hk hx' => ?_)
  obtain ⟨o, ho, hc⟩ := hx'
  refine wpAny_bind (wpAny_isInstance (T := "StopIteration") (b := true) ⟨o, ho, hc⟩ isSubtype_stop ?_)
  exact wpAny_pure (hQ _ _ hk)
end
/-! as walks -/
theorem lt5 {b1 b2 : Bool} {h : Heap} {z TI TO i1 i2 a b : Addr} (hz : ZAt h z TI TO) (hTI : IsTupOf2 h TI (.ref i1) (.ref i2)) (hTO : ∃ x y, IsTupOf2 h TO x y) (h1 : ∃ i, ItB b1 h i1 a i) (h2 : ∃ i, ItB b2 h i2 b i) : ∀ c, c ∈ [z, TI, TO, i1, i2] → c < h.objs.size := fun c hcm => by
  have e' : c = z ∨ c = TI ∨ c = TO ∨ c = i1 ∨ c = i2 := by simpa using hcm
  rcases e' with q | q | q | q | q
  · rw [q]; obtain ⟨_, _, e, _⟩ := hz; exact Heap.lt_size e
  · rw [q]; exact Heap.lt_size hTI
  · rw [q]; obtain ⟨_, _, e⟩ := hTO; exact Heap.lt_size e
  · rw [q]; obtain ⟨_, h1⟩ := h1; obtain ⟨_, e, _⟩ := itB_obj h1; exact Heap.lt_size e
  · rw [q]; obtain ⟨_, h2⟩ := h2; obtain ⟨_, e, _⟩ := itB_obj h2; exact Heap.lt_size e
theorem turn_zipN {P : Program} {w : World} {K : PySem.W.Frag} {b1 b2 : Bool} {x : Str} {tpos : Pos} {a b z TI TO i1 i2 : Addr} (D : ZipSep2 z TI TO i1 i2 [i1, a] [i2, b]) (n1 : a ≠ i1) (n2 : b ≠ i2) :
    Turn P w K (.Name x tpos) (ItzB b1 b2 K a b) [z, TI, TO, i1, i2] z (fun i h => ZAt h z TI TO ∧ IsTupOf2 h TI (.ref i1) (.ref i2) ∧ (∃ x y, IsTupOf2 h TO x y) ∧ ItB b1 h i1 a i ∧ ItB b2 h i2 b i) where
  mem := by simp
  obj := fun i h st c hc => by
    obtain ⟨⟨_, _, hz, _⟩, hTI, ⟨x, y, hTO⟩, h1, h2⟩ := st
    have e' : c = z ∨ c = TI ∨ c = TO ∨ c = i1 ∨ c = i2 := by simpa using hc
    rcases e' with q | q | q | q | q
    · rw [q]; exact ⟨_, hz, fun v q => nomatch q⟩
    · rw [q]; exact ⟨_, hTI, fun v q => nomatch q⟩
    · rw [q]; exact ⟨_, hTO, fun v q => nomatch q⟩
    · rw [q]; exact itB_obj h1
    · rw [q]; exact itB_obj h2
  keep := fun i h h' st k => by
    obtain ⟨⟨u, f, hz, fv⟩, hTI, ⟨x, y, hTO⟩, h1, h2⟩ := st
    exact ⟨⟨u, f, k z (by simp) _ hz, fv⟩, k TI (by simp) _ hTI, ⟨x, y, k TO (by simp) _ hTO⟩, itB_at h1 fun o q => k i1 (by simp) o q, itB_at h2 fun o q => k i2 (by simp) o q⟩
  item := by
    intro X hP hw hK hc i pins s σ H E I hf st hg
    subst hP hw hK
    obtain ⟨hz, hTI, ⟨a1, a2, hTO⟩, h1, h2⟩ := st
    obtain ⟨xs, ys, x, y, hqx, hqy, hx, hy⟩ := hg
    obtain ⟨its, rv, p⟩ := inv_seqB I hqx
    obtain ⟨its2, rv2, p2⟩ := inv_seqB I hqy
    have hd : X.A.in1.handled = none := I.ok.hd hc
    have l1 := (List.getElem?_eq_some_iff.mp hx).1
    have l2 := (List.getElem?_eq_some_iff.mp hy).1
    have e1 := rv.length
    have e2 := rv2.length
    refine zipA_pyNext_item D (drawsB b1 hd i1 a n1 its.toArray) (drawsB b2 hd i2 b n2 its2.toArray) hz hTI hTO ⟨h1, p⟩ ⟨h2, p2⟩ (by rw [List.size_toArray]; omega) (by rw [List.size_toArray]; omega) fun u u2 h' tk hu hu2 zz tt q1 q2 hTT hsz hk => ⟨_, rfl, wpAny_pure ?_⟩
    obtain ⟨u', hu', ru⟩ := rv.get hx
    obtain ⟨u2', hu2', ru2⟩ := rv2.get hy
    have eu : u' = u := by
      have : its[i]? = some u := by simpa using hu
      rw [hu'] at this
      exact Option.some.inj this
    have eu2 : u2' = u2 := by
      have : its2[i]? = some u2 := by simpa using hu2
      rw [hu2'] at this
      exact Option.some.inj this
    subst eu eu2
    have hlt := lt5 hz hTI ⟨_, _, hTO⟩ ⟨_, h1⟩ ⟨_, h2⟩
    have new : ObjOk X.prog X.w (upd H s.heap.objs.size (.tup [x, y])) h' s.heap.objs.size (.tup [x, y]) := ⟨by show 2 ≤ sizeLine; decide, [u', u2'], .cons ru (.cons ru2 .nil), ⟨_, hTT, rfl, _, rfl⟩⟩
    have I1 : Inv X pins σ (upd H s.heap.objs.size (.tup [x, y])) { s with heap := h', toks := tk } :=
      I.turnedNew (ch := [z, TI, TO, i1, i2]) (fun c o hb q => hk c o (fun m => hb (by simp [m])) (fun m => hb (by simp [m])) (fun m => hb (by simp [m])) (fun m => hb (by simp [m])) q) hf (Nat.le_refl _) new
    refine ⟨.ref s.heap.objs.size, _, I1, rfl, ⟨_, x, y, rfl, I.hok.fresh (Nat.le_refl _), rfl, fun l hl => by rw [inv_injB I hl hqx]; exact hx, fun l hl => by rw [inv_injB I hl hqy]; exact hy⟩, ⟨zz, hk _ _ D.TIz D.TITO D.TIi1 D.TIi2 hTI, tt, q1.1, q2.1⟩, fun c hcm => ?_⟩
    rw [upd_ne (Nat.ne_of_lt (hlt c hcm))]
    exact (hf c hcm).1
  done := by
    intro X hP hw hK hc i pins s σ H E I hf st hg
    subst hP hw hK
    obtain ⟨hz, hTI, ⟨a1, a2, hTO⟩, h1, h2⟩ := st
    obtain ⟨xs, ys, hqx, hqy, hend⟩ := hg
    obtain ⟨its, rv, p⟩ := inv_seqB I hqx
    obtain ⟨its2, rv2, p2⟩ := inv_seqB I hqy
    have hd : X.A.in1.handled = none := I.ok.hd hc
    have e1 := rv.length
    have e2 := rv2.length
    refine zipA_pyNext_end D (drawsB b1 hd i1 a n1 its.toArray) (drawsB b2 hd i2 b n2 its2.toArray) hz hTI hTO ⟨h1, p⟩ ⟨h2, p2⟩ (by rw [List.size_toArray]; omega) (by rw [List.size_toArray]; omega) (by rw [List.size_toArray, List.size_toArray]; omega) fun h' tk hk => ⟨rfl, ?_⟩
    exact I.turnedL (ch := [z, TI, TO, i1, i2]) (fun c o hb q => hk c o (fun m => hb (by simp [m])) (fun m => hb (by simp [m])) (fun m => hb (by simp [m])) (fun m => hb (by simp [m])) q) hf
  self := fun A i s Q E st h => by
    obtain ⟨⟨x, f, hz, _⟩, _⟩ := st
    have hT : s.TypeIs (.ref z) "zip" := ⟨_, hz, rfl⟩
    refine wpAny_pyIter_slot hT F.slot_zip_iter (wpAny_call_entry F.slot_zip_iter hT F.entry_zip_iter ?_ (F.args_zip_iter_1 _))
    show wpAny _ _ (ret (.ref z)) _ _ s
    exact wpAny_pure ⟨_, rfl, "zip", _, hT, F.slot_zip_next.lookup, h⟩
theorem pi_zipN {X : Cx} {e e2 : Expr} {ta : TA} {p pos tpos : Pos} {x : Str} (hg : Gl X "zip") (hm : X.mg "zip" = none) (ha : PA X [e, e2] ta)
    (hs : starEach [e, e2] X.env = (false, eval e X.env) :: starEach [e2] X.env := by rfl) (hpl : (backTo pos (starEach [e2] X.env)).any (·.1) = false := by rfl) :
    PI X (.Name x tpos) (.Call (.Name "zip" p) [e, e2] [] pos) (iZipB X.K ta) := by
  refine ⟨fun pins s σ H R I h => ?_⟩
  refine Call_ (ld_blt I hg hm PyProof.Rows.boot_zip (PyProof.Rows.callWith_type1 (thn (ha.run pos pins s σ H _ I h) fun us s1 ⟨vs, H1, I1, r1, q1⟩ => ?_) hs hpl))
  obtain ⟨b1, b2, a, b, xs, ys, ex, hqx, hqy, q⟩ := q1
  subst ex
  cases r1 with
  | cons r rr =>
    cases rr with
    | cons r' rr =>
      cases rr
      cases r
      cases r'
      obtain ⟨its, rv, p1⟩ := inv_seqB I1 hqx
      obtain ⟨its2, rv2, p2⟩ := inv_seqB I1 hqy
      have la := seqB_lt p1
      have lb := seqB_lt p2
      refine zip_begins2 (beginsB b1 a its.toArray) (beginsB b2 b its2.toArray) p1 p2 fun h' hz hTI hTO h1 h2 hsz hk => wpAny_pyIter_zip hz ?_
      have I2 : Inv X pins σ H1 { s1 with heap := h' } := I1.kept (t' := s1.toks) hk
      refine ⟨s1.heap.objs.size + 4, [s1.heap.objs.size + 4, s1.heap.objs.size + 2, s1.heap.objs.size + 3, s1.heap.objs.size, s1.heap.objs.size + 1], _, _, H1, rfl, I2, turn_zipN (b1 := b1) (b2 := b2) (a := a) (b := b) (zip_sep2 (fp1 := [a]) (fp2 := [b]) (fun c m => by rw [List.mem_singleton.mp m]; exact la) fun c m => by rw [List.mem_singleton.mp m]; exact lb) (Nat.ne_of_lt la) (Nat.ne_of_lt (Nat.lt_succ_of_lt lb)), ⟨⟨.none, false, hz, .inl rfl⟩, hTI, ⟨_, _, hTO⟩, itB_new h1, itB_new h2⟩, fun c hcm => ?_, q⟩
      have e' : c = s1.heap.objs.size + 4 ∨ c = s1.heap.objs.size + 2 ∨ c = s1.heap.objs.size + 3 ∨ c = s1.heap.objs.size ∨ c = s1.heap.objs.size + 1 := by simpa using hcm
      have hle : s1.heap.objs.size ≤ c := by
        rcases e' with z | z | z | z | z
        · rw [z]; exact Nat.le_add_right _ _
        · rw [z]; exact Nat.le_add_right _ _
        · rw [z]; exact Nat.le_add_right _ _
        · rw [z]; exact Nat.le_refl _
        · rw [z]; exact Nat.le_add_right _ _
      exact I1.fpOk hle (I1.hok.fresh hle)
/-! enumerate(zip(..)) -/
theorem inv_two {X : Cx} {pins : List (Addr × Obj)} {σ : L2.St} {H : Hp} {s : Shared} {h' : Heap} {t' : Nat} {ch : List Addr} {T T2 : Addr} {xs ys : List V} (I : Inv X pins σ H s) (k : ∀ b o, b ∉ ch → s.heap.get? b = some o → h'.get? b = some o) (hf : ∀ b ∈ ch, FpOk X pins H b)
    (h2 : s.heap.objs.size ≤ T2) (h1 : s.heap.objs.size ≤ T) (ne : T2 ≠ T) (n2 : ∀ (H' : Hp) (G : Heap), (∀ b, b ≠ T → G.get? b = h'.get? b) → ObjOk X.prog X.w H' G T2 (.tup xs)) (n1 : ∀ H' : Hp, ObjOk X.prog X.w H' h' T (.tup ys)) :
    Inv X pins σ (upd (upd H T2 (.tup xs)) T (.tup ys)) { s with heap := h', toks := t' } := by
  obtain ⟨G, g1, g2⟩ := restrict h' fun b => decide (b ≠ T)
  have I1 : Inv X pins σ (upd H T2 (.tup xs)) { s with heap := G, toks := t' } := I.turnedNew (h' := G) (t' := t') (ch := ch) (fun b o hb q => by
    have hb2 : b ≠ T := Nat.ne_of_lt (Nat.lt_of_lt_of_le (Heap.lt_size q) h1)
    rw [g1 b (decide_eq_true hb2)]
    exact k b o hb q) hf h2 (n2 _ G fun b hb => g1 b (decide_eq_true hb))
  have gT : G.get? T = none := g2 T (decide_eq_false fun z => z rfl)
  refine I1.laidN (h' := h') (t' := t') (fun b u q => ?_) gT (by rw [upd_ne ne.symm]; exact I.hok.fresh h1) (n1 _)
  have hb2 : b ≠ T := fun z => by
    have q' : G.get? b = some u := q
    rw [z, gT] at q'
    cases q'
  rw [← g1 b (decide_eq_true hb2)]
  exact q
def ItezB (b1 b2 : Bool) (K : PySem.W.Frag) (a b : Addr) : It :=
  ⟨fun i H => ∃ (xs ys : List V) (x y : V), SqB b1 K H a xs ∧ SqB b2 K H b ys ∧ xs[i]? = some x ∧ ys[i]? = some y,
    fun i H v H' => ∃ T T2 x y, v = .ref T ∧ H T = none ∧ H T2 = none ∧ T2 ≠ T ∧ H' = upd (upd H T2 (.tup [x, y])) T (.tup [.int (i : Nat), .ref T2]) ∧ (∀ xs, SqB b1 K H a xs → xs[i]? = some x) ∧ ∀ ys, SqB b2 K H b ys → ys[i]? = some y,
    fun i H => ∃ xs ys : List V, SqB b1 K H a xs ∧ SqB b2 K H b ys ∧ i = min xs.length ys.length⟩
theorem turn_enumZ {P : Program} {w : World} {K : PySem.W.Frag} {b1 b2 : Bool} {elts : List Expr} {kk : Nat} {tpos : Pos} {a b e z TI TO i1 i2 : Addr} (D : ZipSep2 z TI TO i1 i2 [i1, a] [i2, b]) (n1 : a ≠ i1) (n2 : b ≠ i2)
    (ez : e ≠ z) (eTI : e ≠ TI) (eTO : e ≠ TO) (e1 : e ∉ [i1, a]) (e2 : e ∉ [i2, b]) :
    Turn P w K (.Tuple elts kk tpos) (ItezB b1 b2 K a b) [e, z, TI, TO, i1, i2] e (fun i h => (∃ old, IsEnum h e z ((i : Nat) : Int) old) ∧ ZAt h z TI TO ∧ IsTupOf2 h TI (.ref i1) (.ref i2) ∧ (∃ x y, IsTupOf2 h TO x y) ∧ ItB b1 h i1 a i ∧ ItB b2 h i2 b i) where
  mem := by simp
  obj := fun i h st c hc => by
    obtain ⟨⟨_, he⟩, ⟨_, _, hz, _⟩, hTI, ⟨x, y, hTO⟩, h1, h2⟩ := st
    have e' : c = e ∨ c = z ∨ c = TI ∨ c = TO ∨ c = i1 ∨ c = i2 := by simpa using hc
    rcases e' with q | q | q | q | q | q
    · rw [q]; exact ⟨_, he, fun v q => nomatch q⟩
    · rw [q]; exact ⟨_, hz, fun v q => nomatch q⟩
    · rw [q]; exact ⟨_, hTI, fun v q => nomatch q⟩
    · rw [q]; exact ⟨_, hTO, fun v q => nomatch q⟩
    · rw [q]; exact itB_obj h1
    · rw [q]; exact itB_obj h2
  keep := fun i h h' st k => by
    obtain ⟨⟨old, he⟩, ⟨u, f, hz, fv⟩, hTI, ⟨x, y, hTO⟩, h1, h2⟩ := st
    exact ⟨⟨old, k e (by simp) _ he⟩, ⟨u, f, k z (by simp) _ hz, fv⟩, k TI (by simp) _ hTI, ⟨x, y, k TO (by simp) _ hTO⟩, itB_at h1 fun o q => k i1 (by simp) o q, itB_at h2 fun o q => k i2 (by simp) o q⟩
  item := by
    intro X hP hw hK hc i pins s σ H E I hf st hg
    subst hP hw hK
    obtain ⟨⟨old, he⟩, hz, hTI, ⟨a1, a2, hTO⟩, h1, h2⟩ := st
    obtain ⟨xs, ys, x, y, hqx, hqy, hx, hy⟩ := hg
    obtain ⟨its, rv, p⟩ := inv_seqB I hqx
    obtain ⟨its2, rv2, p2⟩ := inv_seqB I hqy
    have hd : X.A.in1.in1.handled = none := I.ok.hd hc
    have l1 := (List.getElem?_eq_some_iff.mp hx).1
    have l2 := (List.getElem?_eq_some_iff.mp hy).1
    have q1 := rv.length
    have q2 := rv2.length
    have hlt5 := lt5 hz hTI ⟨_, _, hTO⟩ ⟨_, h1⟩ ⟨_, h2⟩
    have hel : e < s.heap.objs.size := Heap.lt_size he
    refine enumZ_pyNext_item D (drawsB b1 hd i1 a n1 its.toArray) (drawsB b2 hd i2 b n2 its2.toArray) he hz hTI hTO ⟨h1, p⟩ ⟨h2, p2⟩ (by rw [List.size_toArray]; omega) (by rw [List.size_toArray]; omega) ez eTI eTO e1 e2
      fun u u2 h' tk hu hu2 ho zz t1 tt s1 s2 hT2 hT hsz hk => ⟨_, rfl, ?_⟩
    obtain ⟨itm, ho⟩ := ho
    refine wpAny_letOwnedTupleGo_enum (s := { s with heap := h', toks := tk + 1 }) ho fun h'' he' sb => ?_
    replace sb : Heap.SameBut e h' h'' := sb
    obtain ⟨u', hu', ru⟩ := rv.get hx
    obtain ⟨u2', hu2', ru2⟩ := rv2.get hy
    have eu : u' = u := by
      have : its[i]? = some u := by simpa using hu
      rw [hu'] at this
      exact Option.some.inj this
    have eu2 : u2' = u2 := by
      have : its2[i]? = some u2 := by simpa using hu2
      rw [hu2'] at this
      exact Option.some.inj this
    subst eu eu2
    have up : ∀ b o, b ≠ e → h'.get? b = some o → h''.get? b = some o := fun b o hb q => (sb.2 b hb).trans q
    have hT2'' : IsTupOf2 h'' s.heap.objs.size u' u2' := up _ _ (Nat.ne_of_gt hel) hT2
    have hT'' : IsTupOf2 h'' (s.heap.objs.size + 1) (.int ((i : Nat) : Int) tk) (.ref s.heap.objs.size) := up _ _ (Nat.ne_of_gt (Nat.lt_succ_of_lt hel)) hT
    have ei1 : e ≠ i1 := fun q => e1 (by rw [q]; exact List.mem_cons_self)
    have ei2 : e ≠ i2 := fun q => e2 (by rw [q]; exact List.mem_cons_self)
    have I1 : Inv X pins σ (upd (upd H s.heap.objs.size (.tup [x, y])) (s.heap.objs.size + 1) (.tup [.int (i : Nat), .ref s.heap.objs.size])) { s with heap := h'', toks := tk + 1 } :=
      inv_two (ch := [e, z, TI, TO, i1, i2]) I (fun c o hb q => up c o (fun m => hb (by simp [m])) (hk c o (fun m => hb (by simp [m])) (fun m => hb (by simp [m])) (fun m => hb (by simp [m])) (fun m => hb (by simp [m])) (fun m => hb (by simp [m])) q)) hf (Nat.le_refl _) (Nat.le_succ _) (Nat.ne_of_lt (Nat.lt_succ_self _))
        (fun H' G hG => ⟨by show 2 ≤ sizeLine; decide, [u', u2'], .cons ru (.cons ru2 .nil), ⟨_, by rw [hG _ (Nat.ne_of_lt (Nat.lt_succ_self _))]; exact hT2'', rfl, _, rfl⟩⟩)
        (fun H' => ⟨by show 2 ≤ sizeLine; decide, [.int ((i : Nat) : Int) tk, .ref s.heap.objs.size], .cons ⟨tk, rfl⟩ (.cons rfl .nil), ⟨_, hT'', rfl, _, rfl⟩⟩)
    refine ⟨.ref (s.heap.objs.size + 1), _, I1, rfl, ⟨_, _, x, y, rfl, I.hok.fresh (Nat.le_succ _), I.hok.fresh (Nat.le_refl _), Nat.ne_of_lt (Nat.lt_succ_self _), rfl, fun l hl => by rw [inv_injB I hl hqx]; exact hx, fun l hl => by rw [inv_injB I hl hqy]; exact hy⟩,
      ⟨⟨itm, by rw [Int.natCast_add]; exact he'⟩, ?_, up _ _ eTI.symm t1, ?_, itB_at s1.1 fun o q => up _ o ei1.symm q, itB_at s2.1 fun o q => up _ o ei2.symm q⟩, fun c hcm => ?_⟩
    · obtain ⟨v, f, zz, fv⟩ := zz
      exact ⟨v, f, up _ _ ez.symm zz, fv⟩
    · obtain ⟨v1, v2, tt⟩ := tt
      exact ⟨v1, v2, up _ _ eTO.symm tt⟩
    · have hlt : c < s.heap.objs.size := by
        rcases List.mem_cons.mp hcm with q | q
        · rw [q]; exact hel
        · exact hlt5 c q
      rw [upd_ne (Nat.ne_of_lt (Nat.lt_succ_of_lt hlt)), upd_ne (Nat.ne_of_lt hlt)]
      exact (hf c hcm).1
  done := by
    intro X hP hw hK hc i pins s σ H E I hf st hg
    subst hP hw hK
    obtain ⟨⟨old, he⟩, hz, hTI, ⟨a1, a2, hTO⟩, h1, h2⟩ := st
    obtain ⟨xs, ys, hqx, hqy, hend⟩ := hg
    obtain ⟨its, rv, p⟩ := inv_seqB I hqx
    obtain ⟨its2, rv2, p2⟩ := inv_seqB I hqy
    have hd : X.A.in1.in1.handled = none := I.ok.hd hc
    have q1 := rv.length
    have q2 := rv2.length
    refine enumZ_pyNext_end D (drawsB b1 hd i1 a n1 its.toArray) (drawsB b2 hd i2 b n2 its2.toArray) he hz hTI hTO ⟨h1, p⟩ ⟨h2, p2⟩ (by rw [List.size_toArray]; omega) (by rw [List.size_toArray]; omega) (by rw [List.size_toArray, List.size_toArray]; omega) fun h' tk hk => ⟨rfl, ?_⟩
    exact I.turnedL (ch := [e, z, TI, TO, i1, i2]) (fun c o hb q => hk c o (fun m => hb (by simp [m])) (fun m => hb (by simp [m])) (fun m => hb (by simp [m])) (fun m => hb (by simp [m])) q) hf
  self := fun A i s Q E st h => let ⟨⟨_, he⟩, _⟩ := st; wpAny_pyIter_enum he h
theorem zat_iter {prog : Program} {w : World} {A : Around} {E : Value → Shared → Prop} {s : Shared} {z TI TO : Addr} {Q : Value → Shared → Prop} (hz : ZAt s.heap z TI TO) (h : Q (.ref z) s) : wpAny (model prog w) A (pyIter (.ref z)) Q E s := by
  obtain ⟨x, f, hz, _⟩ := hz
  have hT : s.TypeIs (.ref z) "zip" := ⟨_, hz, rfl⟩
  refine wpAny_pyIter_slot hT F.slot_zip_iter (wpAny_call_entry F.slot_zip_iter hT F.entry_zip_iter ?_ (F.args_zip_iter_1 _))
  show wpAny _ _ (ret (.ref z)) _ _ s
  exact wpAny_pure ⟨_, rfl, "zip", _, hT, F.slot_zip_next.lookup, h⟩
set_option maxHeartbeats 1000000 in
theorem meets_enumerate_newZ {z TI TO : Addr} :
    Meets (Builtin.«enumerate.__new__» ⟨[.type "enumerate", .ref z], []⟩) (fun _ R s => ZAt s.heap z TI TO ∧
      R (.ok (.ret (.ref s.heap.objs.size))) { s with heap := s.heap.push { cls := .type "enumerate", data := .fields #[.none, .bool false, .ref z, rawInt 0, .none, .none] } }) :=
  .of_wp fun prog w A R s h => by
    obtain ⟨hp, g, d, tk, os⟩ := s; obtain ⟨h1, h⟩ := h
    have hsub := sub_enumerate
    have q1 : ∀ {A' : Around} {E : Value → Shared → Prop} {Q : Value → Shared → Prop}, Q (.ref z) ⟨hp, g, d, tk, os⟩ → wpAny (model prog w) A' (pyIter (.ref z)) Q E ⟨hp, g, d, tk, os⟩ :=
      fun q => zat_iter (s := ⟨hp, g, d, tk, os⟩) h1 q
    wp_walk using q1
    refine wpAny_stack_any fun st => wpAny_pure ?_
    split
    · rename_i c _ _ _ _ _
      cases (c == Value.type "enumerate")
      · wp_walk using q1
        exact ⟨_, rfl, h⟩
      · wp_walk using q1
        exact ⟨_, rfl, h⟩
    · wp_walk using q1
      exact ⟨_, rfl, h⟩
theorem enum_beginsZ {prog : Program} {w : World} {A : Around} {E : Value → Shared → Prop} {s : Shared} {z TI TO : Addr} {Q : Value → Shared → Prop} (h1 : ZAt s.heap z TI TO)
    (h : ∀ h', IsEnum h' s.heap.objs.size z 0 .none → (∀ b o, s.heap.get? b = some o → h'.get? b = some o) → Q (.ref s.heap.objs.size) { s with heap := h' }) :
    wpAny (model prog w) A (call (.type "enumerate") [.ref z]) Q E s := by
  refine callType_new F.called_enumerate (by decide) (F.typeCall_enumerate_1 _) (F.newCall_enumerate_1 _) (fun obj => F.args_object_init_2 obj _) F.entry_enumerate_new
    (meets_enumerate_newZ (TI := TI) (TO := TO)) ⟨h1, ?_⟩
  have he : IsEnum (s.heap.push { cls := .type "enumerate", data := .fields #[.none, .bool false, .ref z, rawInt 0, .none, .none] }) s.heap.objs.size z 0 .none := Heap.get?_push_size _ rfl
  exact ⟨⟨_, he, rfl⟩, h _ he fun b o x => Heap.get?_push_of_some _ x⟩
def iEnumZ (K : PySem.W.Frag) (ta : TA) : TI := fun σ H R => ta σ H fun vs H1 => ∃ b1 b2 a b xs ys, vs = [.ref a, .ref b] ∧ SqB b1 K H1 a xs ∧ SqB b2 K H1 b ys ∧ R (ItezB b1 b2 K a b) H1
theorem pi_enumZ {X : Cx} {e e2 : Expr} {ta : TA} {p p2 pos pos2 tpos : Pos} {elts : List Expr} {kk : Nat} (hg : Gl X "enumerate") (hm : X.mg "enumerate" = none) (hg2 : Gl X "zip") (hm2 : X.mg "zip" = none) (ha : PA X [e, e2] ta)
    (hs : starEach [e, e2] X.env = (false, eval e X.env) :: starEach [e2] X.env := by rfl) (hpl : (backTo pos2 (starEach [e2] X.env)).any (·.1) = false := by rfl) :
    PI X (.Tuple elts kk tpos) (.Call (.Name "enumerate" p) [.Call (.Name "zip" p2) [e, e2] [] pos2] [] pos) (iEnumZ X.K ta) := by
  refine ⟨fun pins s σ H R I h => ?_⟩
  refine Call_ (ld_blt I hg hm boot_enumerate (PyProof.Rows.callWith_type1 (PyProof.Rows.args_cons ?_ rfl) rfl rfl))
  refine Call_ (ld_blt I hg2 hm2 PyProof.Rows.boot_zip (PyProof.Rows.callWith_type1 (thn (ha.run pos2 pins s σ H _ I h) fun us s1 ⟨vs, H1, I1, r1, q1⟩ => ?_) hs hpl))
  obtain ⟨b1, b2, a, b, xs, ys, ex, hqx, hqy, q⟩ := q1
  subst ex
  cases r1 with
  | cons r rr =>
    cases rr with
    | cons r' rr =>
      cases rr
      cases r
      cases r'
      obtain ⟨its, rv, p1⟩ := inv_seqB I1 hqx
      obtain ⟨its2, rv2, p2⟩ := inv_seqB I1 hqy
      have la := seqB_lt p1
      have lb := seqB_lt p2
      obtain ⟨hp, g, d, tk, os⟩ := s1
      refine zip_begins2 (beginsB b1 a its.toArray) (beginsB b2 b its2.toArray) p1 p2 fun h' hz hTI hTO h1 h2 hsz hk => PyProof.Rows.args_nil ?_
      have zst : ZAt h' (hp.objs.size + 4) (hp.objs.size + 2) (hp.objs.size + 3) := ⟨.none, false, hz, .inl rfl⟩
      replace hsz : h'.objs.size = hp.objs.size + 5 := hsz
      refine enum_beginsZ (s := ⟨h', g, d, tk, os⟩) zst fun h'' he hk2 => wpAny_pyIter_enum he ?_
      have hk3 : ∀ b o, hp.get? b = some o → h''.get? b = some o := fun b o e => hk2 b o (hk b o e)
      have I2 : Inv X pins σ H1 { (⟨hp, g, d, tk, os⟩ : Shared) with heap := h'' } := I1.kept (t' := tk) hk3
      replace he : IsEnum h'' (hp.objs.size + 5) (hp.objs.size + 4) 0 .none := by rw [← hsz]; exact he
      have la : a < hp.objs.size := la
      have lb : b < hp.objs.size := lb
      show PIE X pins σ _ R (.ref h'.objs.size) _
      rw [hsz]
      refine ⟨hp.objs.size + 5, [hp.objs.size + 5, hp.objs.size + 4, hp.objs.size + 2, hp.objs.size + 3, hp.objs.size, hp.objs.size + 1], _, _, H1, rfl, I2, turn_enumZ (b1 := b1) (b2 := b2) (a := a) (b := b) (z := hp.objs.size + 4) (TI := hp.objs.size + 2) (TO := hp.objs.size + 3) (i1 := hp.objs.size) (i2 := hp.objs.size + 1) (zip_sep2 (fp1 := [a]) (fp2 := [b]) (fun c m => by rw [List.mem_singleton.mp m]; exact la) fun c m => by rw [List.mem_singleton.mp m]; exact lb) (Nat.ne_of_lt la) (Nat.ne_of_lt (Nat.lt_succ_of_lt lb))
        (by simp) (by simp) (by simp)
        (fun m => (List.mem_cons.mp m).elim (fun q => absurd q (Nat.ne_of_gt (Nat.lt_add_of_pos_right (by decide)))) fun q => absurd (List.mem_singleton.mp q) (Nat.ne_of_gt (Nat.lt_of_lt_of_le la (Nat.le_add_right _ _))))
        (fun m => (List.mem_cons.mp m).elim (fun q => absurd q (Nat.ne_of_gt (Nat.add_lt_add_left (by decide) _))) fun q => absurd (List.mem_singleton.mp q) (Nat.ne_of_gt (Nat.lt_of_lt_of_le lb (Nat.le_add_right _ _)))), ⟨⟨.none, he⟩, ⟨.none, false, hk2 _ _ hz, .inl rfl⟩, hk2 _ _ hTI, ⟨_, _, hk2 _ _ hTO⟩, itB_at (itB_new h1) fun o q => hk2 _ _ q, itB_at (itB_new h2) fun o q => hk2 _ _ q⟩, fun c hcm => ?_, q⟩
      have hle : hp.objs.size ≤ c := by
        have e' : c = hp.objs.size + 5 ∨ c = hp.objs.size + 4 ∨ c = hp.objs.size + 2 ∨ c = hp.objs.size + 3 ∨ c = hp.objs.size ∨ c = hp.objs.size + 1 := by simpa using hcm
        rcases e' with q | q | q | q | q | q
        · rw [q]; exact Nat.le_add_right _ _
        · rw [q]; exact Nat.le_add_right _ _
        · rw [q]; exact Nat.le_add_right _ _
        · rw [q]; exact Nat.le_add_right _ _
        · rw [q]; exact Nat.le_refl _
        · rw [q]; exact Nat.le_add_right _ _
      exact I1.fpOk hle (I1.hok.fresh hle)
theorem walk_enumZ {b1 b2 : Bool} {K : PySem.W.Frag} {a b : Addr} {xs ys : List V} {n : Nat} (hn : n = min xs.length ys.length) :
    Walk (ItezB b1 b2 K a b) n (fun H => SqB b1 K H a xs ∧ SqB b2 K H b ys) (fun i H v H' => ∃ T T2 x y, v = .ref T ∧ H T = none ∧ H T2 = none ∧ T2 ≠ T ∧ H' = upd (upd H T2 (.tup [x, y])) T (.tup [.int (i : Nat), .ref T2]) ∧ xs[i]? = some x ∧ ys[i]? = some y) := by
  subst hn
  refine ⟨fun i _ hi q => ?_, fun _ q => ⟨xs, ys, q.1, q.2, rfl⟩, fun i H v H' _ q y => ?_⟩
  · have h1 : i < xs.length := by omega
    have h2 : i < ys.length := by omega
    exact ⟨xs, ys, xs[i], ys[i], q.1, q.2, by simp [h1], by simp [h2]⟩
  · obtain ⟨T, T2, x, z, h1, h2, h3, h4, h5, h6, h7⟩ := y
    exact ⟨T, T2, x, z, h1, h2, h3, h4, h5, h6 xs q.1, h7 ys q.2⟩
end Wa

set_option maxHeartbeats 4000000
/-! a tuple once over is the tuple -/
namespace Wa
open PySem PySem.Spec PyProof.Rows L2
theorem tuple_mul1 (l : Addr) (items : Array Value) (n : Nat) (dd : Option Addr) (sl : Array (Option Value)) (u : PySem.Tok) :
    Meets (Builtin.«tuple.__mul__» ⟨[.ref l, .int 1 u], []⟩) (fun _ R s => s.heap.get? l = some { cls := .type "tuple", dict := dd, data := .seq items n, slots := sl } ∧
      R (.ok (.ret (.ref l))) s) :=
  .of_wp fun prog w A R s h => by
    obtain ⟨hp, g, d, tk, os⟩ := s
    obtain ⟨hl, h⟩ := h
    have f1 := AutoSeq1.idx_int
    wp_walk using wpAny_loadPart' hl
    repeat (first
      | (refine wpAny_ite_false (decide_eq_false (by decide)) ?_; wp_walk using wpAny_loadPart' hl)
      | (refine wpAny_ite_true (decide_eq_true (by rw [Bool.or_eq_true]; exact .inr rfl)) ?_; wp_walk using wpAny_loadPart' hl))
    exact ⟨_, rfl, h⟩
theorem tuple_mul0 (l : Addr) (items : Array Value) (n : Nat) (dd : Option Addr) (sl : Array (Option Value)) (u : PySem.Tok) (hne : items.isEmpty = false) :
    Meets (Builtin.«tuple.__mul__» ⟨[.ref l, .int 0 u], []⟩) (fun _ R s => s.heap.get? l = some { cls := .type "tuple", dict := dd, data := .seq items n, slots := sl } ∧
      R (.ok (.ret (Value.ref s.heap.objs.size))) { s with heap := s.heap.push { cls := Value.type "tuple", data := Data.seq #[] }, toks := s.toks }) :=
  .of_wp fun prog w A R s h => by
    obtain ⟨hp, g, d, tk, os⟩ := s
    obtain ⟨hl, h⟩ := h
    have f1 := AutoSeq1.idx_int
    wp_walk using wpAny_loadPart' hl
    repeat (first
      | (refine wpAny_ite_false (decide_eq_false (by decide)) ?_; wp_walk using wpAny_loadPart' hl)
      | (refine wpAny_ite_false (decide_eq_false (by rw [hne]; exact Bool.false_ne_true)) ?_; wp_walk using wpAny_loadPart' hl)
      | (refine wpAny_ite_true (decide_eq_true (by decide)) ?_; wp_walk using wpAny_loadPart' hl)
      | (refine wpAny_ite_true (decide_eq_true (by rw [Bool.or_eq_true]; exact .inl rfl)) ?_; wp_walk using wpAny_loadPart' hl))
    exact ⟨_, rfl, h⟩
def rRepT1 (K : PySem.W.Frag) : R2 := fun x y H Q => (∃ l xs, x = .ref l ∧ y = .int 1 ∧ SqT K H l xs ∧ Q (.ref l) H) ∨ ∃ l xs, x = .ref l ∧ y = .int 0 ∧ SqT K H l xs ∧ xs ≠ [] ∧ ∀ p, H p = none → Q (.ref p) (upd H p (.tup []))
section
variable {X : Cx}
theorem op_repT1 : OpR X (binaryOp .Mult) (rRepT1 X.K) := by
  intro pins s σ H x y v u Q I rx ry h
  rcases h with ⟨l, xs, rfl, rfl, hT, q⟩ | ⟨l, xs, rfl, rfl, hT, hne, q⟩
  · cases rx
    obtain ⟨t, rfl⟩ := ry
    obtain ⟨its, r, ⟨⟨cls, dd, data, sl⟩, ho, hc, n, hd⟩, hs⟩ := I.tuple hT
    simp only at hc hd
    subst hc hd
    refine wpAny_binaryOp_repeat_ref (T := "tuple") (U := "int") (by decide) ⟨_, ho, rfl⟩ (fun s' => typeIs_int s' 1 t) noFill_tuple_mul F.fills_int_mul F.slot_int_rmul repeat_tuple F.slot_int_index.lookup
      (call_meets F.slot_int_rmul (typeIs_int s 1 t) F.entry_int_rmul (F.args_int_rmul_2 _ _) (int_rmul_tuple 1 t l its.toArray n dd sl)
        ⟨ho, rfl, ⟨_, ho, rfl⟩, call_meets F.slot_tuple_mul ⟨_, ho, rfl⟩ F.entry_tuple_mul (F.args_tuple_mul_2 _ _) (tuple_mul1 l its.toArray n dd sl t) ⟨ho, ?_⟩⟩)
    exact ⟨.ref l, _, I, rfl, q⟩
  · cases rx
    obtain ⟨t, rfl⟩ := ry
    obtain ⟨its, r, ⟨⟨cls, dd, data, sl⟩, ho, hc, n, hd⟩, hs⟩ := I.tuple hT
    simp only at hc hd
    subst hc hd
    have hle : its.length = xs.length := r.length.symm
    have hi : its.toArray.isEmpty = false := by
      cases its with
      | nil => exact absurd (List.eq_nil_of_length_eq_zero hle.symm) hne
      | cons a b => rfl
    refine wpAny_binaryOp_repeat_ref (T := "tuple") (U := "int") (by decide) ⟨_, ho, rfl⟩ (fun s' => typeIs_int s' 0 t) noFill_tuple_mul F.fills_int_mul F.slot_int_rmul repeat_tuple F.slot_int_index.lookup
      (call_meets F.slot_int_rmul (typeIs_int s 0 t) F.entry_int_rmul (F.args_int_rmul_2 _ _) (int_rmul_tuple 0 t l its.toArray n dd sl)
        ⟨ho, rfl, ⟨_, ho, rfl⟩, call_meets F.slot_tuple_mul ⟨_, ho, rfl⟩ F.entry_tuple_mul (F.args_tuple_mul_2 _ _) (tuple_mul0 l its.toArray n dd sl t hi) ⟨ho, ?_⟩⟩)
    refine ⟨.ref s.heap.objs.size, _, I.laid (t' := s.toks) (o := .tup []) (fun b ob q => Heap.get?_push_of_some _ q) (Nat.le_refl _) ?_, rfl, q _ (I.hok.fresh (Nat.le_refl _))⟩
    exact ⟨Nat.zero_le _, [], .nil, IsTup.new _ _⟩
end
end Wa

/-! each built-in operation by value, over the layer's rules -/
namespace Wa
open PySem PySem.Spec PyProof.Rows L2
variable [CM]

/-- a list that one name may change -/
def OwnD (p : Addr) (F : Addr → Prop) (H : Hp) (a : Addr) (d : D) : Prop := match d with
  | .lst ds => ∃ xs, H a = some (.lst xs) ∧ ds.length ≤ sizeLine ∧ Reps p F H ds xs
  | .dic ds => ∃ xs, H a = some (.dK xs) ∧ ds.length ≤ sizeLine ∧ Repk p F H ds xs
  | _ => False
/-- what an operation gives: a new list, or a value -/
def Giv (p : Addr) (F : Addr → Prop) (H H' : Hp) (fl : Bool) (d : D) (v : V) : Prop :=
  if fl = true then ∃ a, v = .ref a ∧ H a = none ∧ OwnD p F H' a d else Rep p F H' d v
def Tops (p : Addr) (F : Addr → Prop) (H : Hp) : List D → List V → Prop
  | [], vs => vs = []
  | d :: ds, vs => ∃ v ws, vs = v :: ws ∧ Top p F H d v ∧ Tops p F H ds ws
def CallOk (r : List V → Hp → VK → Prop) (k : List D → PR) : Prop :=
  ∀ {p : Addr} {F : Addr → Prop} {H : Hp} {ds : List D} {vs : List V} {fl : Bool} {d : D} {Q : VK}, Tops p F H ds vs → k ds = some (fl, d) →
    (∀ v H', Same H H' → Giv p F H H' fl d v → Q v H') → r vs H Q
def BinOk (r : R2) (k : List D → PR) : Prop :=
  ∀ {p : Addr} {F : Addr → Prop} {H : Hp} {d e z : D} {x y : V} {fl : Bool} {Q : VK}, Top p F H d x → Top p F H e y → k [d, e] = some (fl, z) →
    (∀ v H', Same H H' → Giv p F H H' fl z v → Q v H') → r x y H Q
def UnOk (r : V → Hp → VK → Prop) (k : List D → PR) : Prop :=
  ∀ {p : Addr} {F : Addr → Prop} {H : Hp} {d z : D} {x : V} {fl : Bool} {Q : VK}, Top p F H d x → k [d] = some (fl, z) →
    (∀ v H', Same H H' → Giv p F H H' fl z v → Q v H') → r x H Q
section
variable {p : Addr} {F : Addr → Prop} {H H' : Hp} {Q : VK}
theorem same_new {o : HO} {a : Addr} (h : H a = none) : Same H (upd H a o) := fun b u e => by rw [upd_ne (ne_of_none e h)]; exact e
theorem Giv.val {d : D} {v : V} (h : Rep p F H' d v) : Giv p F H H' false d v := h
theorem Giv.lst {ds : List D} {xs : List V} {a : Addr} (h : H a = none) (l : ds.length ≤ sizeLine) (r : Reps p F H ds xs) : Giv p F H (upd H a (.lst xs)) true (.lst ds) (.ref a) :=
  ⟨a, rfl, h, xs, upd_same, l, Reps.step (Step.of_same (same_new h)) _ _ r⟩
theorem Giv.tup {ds : List D} {xs : List V} {a : Addr} (h : H a = none) (l : ds.length ≤ sizeLine) (r : Reps p F H ds xs) : Giv p F H (upd H a (.tup xs)) false (.tup ds) (.ref a) :=
  ⟨a, xs, rfl, upd_same, l, Reps.step (Step.of_same (same_new h)) _ _ r⟩
theorem top_lst {ds : List D} {v : V} (h : Top p F H (.lst ds) v) : ∃ a xs, v = .ref a ∧ H a = some (.lst xs) ∧ ds.length ≤ sizeLine ∧ Reps p F H ds xs := h
theorem top_tup {ds : List D} {v : V} (h : Top p F H (.tup ds) v) : ∃ a xs, v = .ref a ∧ H a = some (.tup xs) ∧ ds.length ≤ sizeLine ∧ Reps p F H ds xs := h
theorem top_int {i : Int} {v : V} (h : Top p F H (.int i) v) : v = .int i := h
theorem top_str {i : Str} {v : V} (h : Top p F H (.str i) v) : v = .str i := h
theorem tops1 {d : D} {vs : List V} (h : Tops p F H [d] vs) : ∃ v, vs = [v] ∧ Top p F H d v := by
  obtain ⟨v, ws, e, t, q⟩ := h
  cases q
  exact ⟨v, e, t⟩
theorem tops2 {d e : D} {vs : List V} (h : Tops p F H [d, e] vs) : ∃ v w, vs = [v, w] ∧ Top p F H d v ∧ Top p F H e w := by
  obtain ⟨v, ws, e1, t, q⟩ := h
  obtain ⟨w, rfl, t2⟩ := tops1 q
  exact ⟨v, w, e1, t, t2⟩
theorem okI_some {b : Bool} {d z : D} {fl : Bool} (h : okI b d = some (fl, z)) : b = true ∧ fl = false ∧ z = d := by
  unfold okI at h
  cases b with
  | true => simp at h; exact ⟨rfl, h.1, h.2.symm⟩
  | false => simp at h
end
/-! ### calls -/
theorem k_len {K : PySem.W.Frag} : CallOk (fun xs H Q => (∃ p ys, xs = [.ref p] ∧ (SqL K H p ys ∨ SqT K H p ys) ∧ Q (.int ys.length) H) ∨ ∃ z, xs = [.str z] ∧ z.length ≤ sizeLine ∧ Q (.int z.length) H) pLen := by
  intro p F H ds vs fl d Q ht hk hq
  unfold pLen at hk
  split at hk <;> first
    | (cases hk; done)
    | (cases hk
       obtain ⟨v, rfl, t⟩ := tops1 ht
       first
         | (obtain ⟨a, xs, rfl, e, _, r⟩ := top_lst t
            exact .inl ⟨a, xs, rfl, .inl (SqL.of e), hq _ _ (Same.refl _) (.val (by rw [r.length]; rfl))⟩)
         | (obtain ⟨a, xs, rfl, e, _, r⟩ := top_tup t
            exact .inl ⟨a, xs, rfl, .inr (SqT.of e), hq _ _ (Same.refl _) (.val (by rw [r.length]; rfl))⟩))
    | (obtain ⟨h1, rfl, rfl⟩ := okI_some hk
       obtain ⟨v, rfl, t⟩ := tops1 ht
       cases top_str t
       exact .inr ⟨_, rfl, by have := of_decide_eq_true h1; rw [sizeLine_eq]; exact this, hq _ _ (Same.refl _) (.val rfl)⟩)
theorem k_all {K : PySem.W.Frag} : CallOk (rAll K) pAll := by
  intro p F H ds vs fl d Q ht hk hq
  unfold pAll at hk
  split at hk
  · rename_i xs
    cases q : boolsD xs with
    | none => rw [q] at hk; cases hk
    | some bs =>
      rw [q] at hk; cases hk
      obtain ⟨v, rfl, t⟩ := tops1 ht
      obtain ⟨a, ys, rfl, e, _, r⟩ := top_lst t
      have e2 := boolsD_of q r
      subst e2
      exact ⟨a, bs, rfl, SqL.of e, hq _ _ (Same.refl _) (.val rfl)⟩
  · cases hk
theorem k_any {K : PySem.W.Frag} : CallOk (rAny K) pAny := by
  intro p F H ds vs fl d Q ht hk hq
  unfold pAny at hk
  split at hk
  · rename_i xs
    cases q : boolsD xs with
    | none => rw [q] at hk; cases hk
    | some bs =>
      rw [q] at hk; cases hk
      obtain ⟨v, rfl, t⟩ := tops1 ht
      obtain ⟨a, ys, rfl, e, _, r⟩ := top_lst t
      have e2 := boolsD_of q r
      subst e2
      exact ⟨a, bs, rfl, SqL.of e, hq _ _ (Same.refl _) (.val rfl)⟩
  · cases hk
theorem k_sum {K : PySem.W.Frag} : CallOk (rSum K) pSum := by
  intro p F H ds vs fl d Q ht hk hq
  unfold pSum at hk
  split at hk
  · rename_i xs
    cases q : intsD xs with
    | none => rw [q] at hk; cases hk
    | some bs =>
      rw [q] at hk; cases hk
      obtain ⟨v, rfl, t⟩ := tops1 ht
      obtain ⟨a, ys, rfl, e, _, r⟩ := top_lst t
      have e2 := (intsD_of q r).1
      subst e2
      exact ⟨a, bs, rfl, SqL.of e, hq _ _ (Same.refl _) (.val rfl)⟩
  · cases hk
theorem k_tuple {K : PySem.W.Frag} : CallOk (fun xs H Q => ∃ p ys, xs = [.ref p] ∧ ((SqL K H p ys ∧ ∀ l, H l = none → Q (.ref l) (upd H l (.tup ys))) ∨ (SqT K H p ys ∧ Q (.ref p) H))) pTuple := by
  intro p F H ds vs fl d Q ht hk hq
  unfold pTuple at hk
  split at hk
  · cases hk
    obtain ⟨v, rfl, t⟩ := tops1 ht
    obtain ⟨a, ys, rfl, e, l, r⟩ := top_lst t
    exact ⟨a, ys, rfl, .inl ⟨SqL.of e, fun q hn => hq _ _ (same_new hn) (.tup hn l r)⟩⟩
  · cases hk
    obtain ⟨v, rfl, t⟩ := tops1 ht
    obtain ⟨a, ys, rfl, e, l, r⟩ := top_tup t
    exact ⟨a, ys, rfl, .inr ⟨SqT.of e, hq _ _ (Same.refl _) (.val ⟨a, ys, rfl, e, l, r⟩)⟩⟩
  · cases hk
theorem k_list {K : PySem.W.Frag} : CallOk (fun xs H Q => ∃ p ys, xs = [.ref p] ∧ (SqL K H p ys ∨ SqT K H p ys) ∧ ∀ l, H l = none → Q (.ref l) (upd H l (.lst ys))) pList := by
  intro p F H ds vs fl d Q ht hk hq
  unfold pList at hk
  split at hk
  · cases hk
    obtain ⟨v, rfl, t⟩ := tops1 ht
    obtain ⟨a, ys, rfl, e, l, r⟩ := top_lst t
    exact ⟨a, ys, rfl, .inl (SqL.of e), fun q hn => hq _ _ (same_new hn) (.lst hn l r)⟩
  · cases hk
    obtain ⟨v, rfl, t⟩ := tops1 ht
    obtain ⟨a, ys, rfl, e, l, r⟩ := top_tup t
    exact ⟨a, ys, rfl, .inr (SqT.of e), fun q hn => hq _ _ (same_new hn) (.lst hn l r)⟩
  · cases hk
/-! sorting -/
theorem insI_perm (x : Int) : ∀ l : List Int, (insI x l).Perm (x :: l)
  | [] => .refl _
  | y :: r => by
    unfold insI
    split
    · exact .refl _
    · exact .trans (.cons y (insI_perm x r)) (.swap x y r)
theorem sortI_perm : ∀ l : List Int, (sortI l).Perm l
  | [] => .refl _
  | x :: r => .trans (insI_perm x (sortI r)) (.cons x (sortI_perm r))
theorem insI_sorted (x : Int) : ∀ l : List Int, l.Pairwise (· ≤ ·) → (insI x l).Pairwise (· ≤ ·)
  | [], _ => by simp [insI]
  | y :: r, h => by
    unfold insI
    split
    · rename_i hxy
      refine List.pairwise_cons.mpr ⟨fun z hz => ?_, h⟩
      rcases List.mem_cons.mp hz with rfl | hz
      · exact hxy
      · exact Int.le_trans hxy ((List.pairwise_cons.mp h).1 z hz)
    · rename_i hxy
      refine List.pairwise_cons.mpr ⟨fun z hz => ?_, insI_sorted x r (List.pairwise_cons.mp h).2⟩
      rcases List.mem_cons.mp ((insI_perm x r).mem_iff.mp hz) with rfl | hz
      · omega
      · exact (List.pairwise_cons.mp h).1 z hz
theorem sortI_sorted : ∀ l : List Int, (sortI l).Pairwise (· ≤ ·)
  | [] => .nil
  | x :: r => insI_sorted x _ (sortI_sorted r)
theorem sortI_uniq {l m : List Int} (h : m.Perm l) (s : m.Pairwise (· ≤ ·)) : m = sortI l := PySem.W.ksm_same (h.trans (sortI_perm l).symm) s (sortI_sorted l)
theorem keysI_of {p : Addr} {F : Addr → Prop} {H : Hp} : ∀ {ds : List (Key × D)} {ns : List Int} {vs : List (Key × V)}, keysI ds = some ns → Repk p F H ds vs → vs.map (·.1) = ns.map Sum.inl ∧ ns.length = ds.length
  | [], ns, _, e, h => by cases h; cases e; exact ⟨rfl, rfl⟩
  | (.inl i, d) :: ds, ns, _, e, h => by
    obtain ⟨v, vs, rfl, a, b⟩ := h
    have e' : (keysI ds).map (fun x => i :: x) = some ns := e
    cases q : keysI ds with
    | none => rw [q] at e'; cases e'
    | some ms =>
      rw [q] at e'
      cases e'
      obtain ⟨h1, h2⟩ := keysI_of q b
      exact ⟨by rw [List.map_cons, List.map_cons, h1], by rw [List.length_cons, List.length_cons, h2]⟩
  | (.inr _, _) :: _, _, _, e, _ => by cases e
theorem k_sorted {K : PySem.W.Frag} : CallOk (rSortedA K) pSorted := by
  intro p F H ds vs fl d Q ht hk hq
  unfold pSorted at hk
  split at hk
  · rename_i xs
    cases q : intsD xs with
    | none => rw [q] at hk; cases hk
    | some bs =>
      rw [q] at hk; cases hk
      obtain ⟨v, rfl, t⟩ := tops1 ht
      obtain ⟨a, ys, rfl, e, l, r⟩ := top_lst t
      obtain ⟨e2, e3⟩ := intsD_of q r
      subst e2 e3
      refine ⟨a, bs, rfl, .inl (SqL.of e), fun ns' b hp hs hn => ?_⟩
      have e4 := sortI_uniq hp hs
      subst e4
      refine hq _ _ (same_new hn) (.lst hn ?_ .mapInt)
      rw [List.length_map, (sortI_perm bs).length_eq]
      simpa using l
  · rename_i xs
    cases q : intsD xs with
    | none => rw [q] at hk; cases hk
    | some bs =>
      rw [q] at hk
      replace hk : (if bs.length < 64 then some (true, D.lst ((sortI bs).map .int)) else none) = some (fl, d) := hk
      split at hk
      · rename_i h64
        cases hk
        obtain ⟨v, rfl, t⟩ := tops1 ht
        obtain ⟨a, ys, rfl, e, l, r⟩ := top_tup t
        obtain ⟨e2, e3⟩ := intsD_of q r
        subst e2 e3
        refine ⟨a, bs, rfl, .inr (.inl ⟨SqT.of e, h64⟩), fun ns' b hp hs hn => ?_⟩
        have e4 := sortI_uniq hp hs
        subst e4
        refine hq _ _ (same_new hn) (.lst hn ?_ .mapInt)
        rw [List.length_map, (sortI_perm bs).length_eq]
        simpa using l
      · cases hk
  · rename_i kvs
    cases q : keysI kvs with
    | none => rw [q] at hk; cases hk
    | some bs =>
      rw [q] at hk; cases hk
      obtain ⟨v, rfl, t⟩ := tops1 ht
      obtain ⟨a, ys, rfl, e, l, r⟩ := t
      obtain ⟨e2, e3⟩ := keysI_of q r
      refine ⟨a, bs, rfl, .inr (.inr ⟨ys, e, e2⟩), fun ns' b hp hs hn => ?_⟩
      have e4 := sortI_uniq hp hs
      subst e4
      refine hq _ _ (same_new hn) (.lst hn ?_ .mapInt)
      rw [List.length_map, (sortI_perm bs).length_eq, e3]
      exact l
  · cases hk
theorem maxI_uniq : ∀ {l : List Int} {m : Int}, m ∈ l → (∀ y, y ∈ l → y ≤ m) → m = maxI l
  | [], _, h, _ => by cases h
  | [x], m, h, _ => List.mem_singleton.mp h
  | x :: y :: r, m, h, hm => by
    have ih := @maxI_uniq (y :: r)
    have hmem : maxI (y :: r) ∈ y :: r ∧ ∀ z, z ∈ y :: r → z ≤ maxI (y :: r) := maxI_ok (y :: r) (by simp)
    show m = if maxI (y :: r) ≤ x then x else maxI (y :: r)
    have h1 := hm x List.mem_cons_self
    have h2 := hm (maxI (y :: r)) (List.mem_cons_of_mem _ hmem.1)
    rcases List.mem_cons.mp h with rfl | h
    · rw [if_pos h2]
    · have h3 := hmem.2 m h
      split <;> omega
where maxI_ok : ∀ l : List Int, l ≠ [] → maxI l ∈ l ∧ ∀ z, z ∈ l → z ≤ maxI l
  | [], h => absurd rfl h
  | [x], _ => ⟨List.mem_singleton.mpr rfl, fun z hz => by rw [List.mem_singleton.mp hz]; exact Int.le_refl _⟩
  | x :: y :: r, _ => by
    obtain ⟨i1, i2⟩ := maxI_ok (y :: r) (by simp)
    show (if maxI (y :: r) ≤ x then x else maxI (y :: r)) ∈ x :: y :: r ∧ ∀ z, z ∈ x :: y :: r → z ≤ if maxI (y :: r) ≤ x then x else maxI (y :: r)
    split
    · refine ⟨List.mem_cons_self, fun z hz => ?_⟩
      rcases List.mem_cons.mp hz with rfl | hz
      · exact Int.le_refl _
      · have := i2 z hz; omega
    · refine ⟨List.mem_cons_of_mem _ i1, fun z hz => ?_⟩
      rcases List.mem_cons.mp hz with rfl | hz
      · omega
      · exact i2 z hz
theorem k_max1 {K : PySem.W.Frag} : CallOk (rMaxA K) pMax1 := by
  intro p F H ds vs fl d Q ht hk hq
  have fin : ∀ (ns : List Int) (a : Addr), (SqL K H a (ns.map V.int) ∨ SqT K H a (ns.map V.int)) → (if ns.length = 0 then none else some (false, D.int (maxI ns))) = some (fl, d) → rMaxA K [.ref a] H Q := fun ns a hs e => by
    split at e
    · cases e
    · rename_i hn
      cases e
      exact ⟨a, ns, rfl, hs, by omega, fun m h1 h2 => by rw [maxI_uniq h1 h2]; exact hq _ _ (Same.refl _) rfl⟩
  unfold pMax1 at hk
  split at hk
  · rename_i xs
    cases q : intsD xs with
    | none => rw [q] at hk; cases hk
    | some ns =>
      rw [q] at hk
      obtain ⟨v, rfl, t⟩ := tops1 ht
      obtain ⟨a, ys, rfl, e, l, r⟩ := top_lst t
      obtain ⟨e2, e3⟩ := intsD_of q r
      subst e2
      exact fin ns a (.inl (SqL.of e)) hk
  · rename_i xs
    cases q : intsD xs with
    | none => rw [q] at hk; cases hk
    | some ns =>
      rw [q] at hk
      obtain ⟨v, rfl, t⟩ := tops1 ht
      obtain ⟨a, ys, rfl, e, l, r⟩ := t
      obtain ⟨e2, e3⟩ := intsD_of q r
      subst e2
      exact fin ns a (.inr (SqT.of e)) hk
  · cases hk
theorem minI_uniq : ∀ {l : List Int} {m : Int}, m ∈ l → (∀ y, y ∈ l → m ≤ y) → m = minI l
  | [], _, h, _ => by cases h
  | [x], m, h, _ => List.mem_singleton.mp h
  | x :: y :: r, m, h, hm => by
    have ih := @minI_uniq (y :: r)
    have hmem : minI (y :: r) ∈ y :: r ∧ ∀ z, z ∈ y :: r → minI (y :: r) ≤ z := minI_ok (y :: r) (by simp)
    show m = if x ≤ minI (y :: r) then x else minI (y :: r)
    have h1 := hm x List.mem_cons_self
    have h2 := hm (minI (y :: r)) (List.mem_cons_of_mem _ hmem.1)
    rcases List.mem_cons.mp h with rfl | h
    · rw [if_pos h2]
    · have h3 := hmem.2 m h
      split <;> omega
where minI_ok : ∀ l : List Int, l ≠ [] → minI l ∈ l ∧ ∀ z, z ∈ l → minI l ≤ z
  | [], h => absurd rfl h
  | [x], _ => ⟨List.mem_singleton.mpr rfl, fun z hz => by rw [List.mem_singleton.mp hz]; exact Int.le_refl _⟩
  | x :: y :: r, _ => by
    obtain ⟨i1, i2⟩ := minI_ok (y :: r) (by simp)
    show (if x ≤ minI (y :: r) then x else minI (y :: r)) ∈ x :: y :: r ∧ ∀ z, z ∈ x :: y :: r → (if x ≤ minI (y :: r) then x else minI (y :: r)) ≤ z
    split
    · refine ⟨List.mem_cons_self, fun z hz => ?_⟩
      rcases List.mem_cons.mp hz with rfl | hz
      · exact Int.le_refl _
      · have := i2 z hz; omega
    · refine ⟨List.mem_cons_of_mem _ i1, fun z hz => ?_⟩
      rcases List.mem_cons.mp hz with rfl | hz
      · omega
      · exact i2 z hz
theorem k_min1 {K : PySem.W.Frag} : CallOk (rMinA K) pMin1 := by
  intro p F H ds vs fl d Q ht hk hq
  have fin : ∀ (ns : List Int) (a : Addr), (SqL K H a (ns.map V.int) ∨ SqT K H a (ns.map V.int)) → (if ns.length = 0 then none else some (false, D.int (minI ns))) = some (fl, d) → rMinA K [.ref a] H Q := fun ns a hs e => by
    split at e
    · cases e
    · rename_i hn
      cases e
      exact ⟨a, ns, rfl, hs, by omega, fun m h1 h2 => by rw [minI_uniq h1 h2]; exact hq _ _ (Same.refl _) rfl⟩
  unfold pMin1 at hk
  split at hk
  · rename_i xs
    cases q : intsD xs with
    | none => rw [q] at hk; cases hk
    | some ns =>
      rw [q] at hk
      obtain ⟨v, rfl, t⟩ := tops1 ht
      obtain ⟨a, ys, rfl, e, l, r⟩ := top_lst t
      obtain ⟨e2, e3⟩ := intsD_of q r
      subst e2
      exact fin ns a (.inl (SqL.of e)) hk
  · rename_i xs
    cases q : intsD xs with
    | none => rw [q] at hk; cases hk
    | some ns =>
      rw [q] at hk
      obtain ⟨v, rfl, t⟩ := tops1 ht
      obtain ⟨a, ys, rfl, e, l, r⟩ := t
      obtain ⟨e2, e3⟩ := intsD_of q r
      subst e2
      exact fin ns a (.inr (SqT.of e)) hk
  · cases hk
theorem k_abs : CallOk (fun xs H Q => ∃ i, xs = [.int i] ∧ Q (.int (if i < 0 then -i else i)) H) pAbs := by
  intro p F H ds vs fl d Q ht hk hq
  unfold pAbs at hk
  split at hk
  · cases hk
    obtain ⟨v, rfl, t⟩ := tops1 ht
    have t' : v = .int _ := t
    subst t'
    exact ⟨_, rfl, hq _ _ (Same.refl _) rfl⟩
  · cases hk
theorem k_toInt : CallOk (fun xs H Q => (∃ i, xs = [.int i] ∧ Q (.int i) H) ∨ ∃ k, xs = [.bl k] ∧ Q (.int (if k then 1 else 0)) H) pToInt := by
  intro p F H ds vs fl d Q ht hk hq
  unfold pToInt at hk
  split at hk
  · cases hk
    obtain ⟨v, rfl, t⟩ := tops1 ht
    have t' : v = .int _ := t
    subst t'
    exact .inl ⟨_, rfl, hq _ _ (Same.refl _) rfl⟩
  · cases hk
    obtain ⟨v, rfl, t⟩ := tops1 ht
    have t' : v = .bl _ := t
    subst t'
    exact .inr ⟨_, rfl, hq _ _ (Same.refl _) rfl⟩
  · cases hk
theorem k_max2 : CallOk (fun xs H Q => ∃ i j, xs = [.int i, .int j] ∧ Q (.int (if j > i then j else i)) H) pMax2 := by
  intro p F H ds vs fl d Q ht hk hq
  unfold pMax2 at hk
  split at hk
  · cases hk
    obtain ⟨v, w, rfl, t1, t2⟩ := tops2 ht
    cases top_int t1; cases top_int t2
    exact ⟨_, _, rfl, hq _ _ (Same.refl _) (.val rfl)⟩
  · cases hk
theorem k_min2 : CallOk (fun xs H Q => ∃ i j, xs = [.int i, .int j] ∧ Q (.int (if j < i then j else i)) H) pMin2 := by
  intro p F H ds vs fl d Q ht hk hq
  unfold pMin2 at hk
  split at hk
  · cases hk
    obtain ⟨v, w, rfl, t1, t2⟩ := tops2 ht
    cases top_int t1; cases top_int t2
    exact ⟨_, _, rfl, hq _ _ (Same.refl _) (.val rfl)⟩
  · cases hk
/-! ### operators -/
def pAddI : List D → PR
  | [.int i, .int j] => some (false, .int (i + j))
  | _ => none
def pAddL : List D → PR
  | [.lst xs, .lst ys] => if xs.length + ys.length ≤ big then some (true, .lst (xs ++ ys)) else none
  | _ => none
def pAddT : List D → PR
  | [.tup xs, .tup ys] => if xs.length + ys.length ≤ big then some (false, .tup (xs ++ ys)) else none
  | _ => none
def pAddS : List D → PR
  | [.str x, .str y] => okI (decide (x.length + y.length ≤ big)) (.str (x ++ y))
  | _ => none
theorem big_eq : big = sizeLine := by rw [sizeLine_eq]; rfl
theorem k_addI : BinOk (rI0 fun i j => .int (i + j)) pAddI := by
  intro p F H d e z x y fl Q tx ty hk hq
  unfold pAddI at hk
  split at hk
  · rename_i i j he
    cases hk; cases he
    cases top_int tx; cases top_int ty
    exact ⟨i, j, rfl, rfl, hq _ _ (Same.refl _) (.val rfl)⟩
  · cases hk
theorem k_addL : BinOk rCat pAddL := by
  intro p F H d e z x y fl Q tx ty hk hq
  unfold pAddL at hk
  split at hk
  · rename_i i j he
    cases he
    split at hk
    · rename_i hl
      cases hk
      obtain ⟨a, xs, rfl, ea, la, ra⟩ := top_lst tx
      obtain ⟨b, ys, rfl, eb, lb, rb⟩ := top_lst ty
      rw [big_eq] at hl
      refine ⟨a, b, xs, ys, rfl, rfl, ea, eb, by rw [ra.length, rb.length]; exact hl, fun q hn => hq _ _ (same_new hn) (.lst hn (by rw [List.length_append]; exact hl) (ra.append rb))⟩
    · cases hk
  · cases hk
theorem k_addT {K : PySem.W.Frag} : BinOk (rCatA K) pAddT := by
  intro p F H d e z x y fl Q tx ty hk hq
  unfold pAddT at hk
  split at hk
  · rename_i i j he
    cases he
    split at hk
    · rename_i hl
      cases hk
      obtain ⟨a, xs, rfl, ea, la, ra⟩ := top_tup tx
      obtain ⟨b, ys, rfl, eb, lb, rb⟩ := top_tup ty
      rw [big_eq] at hl
      refine ⟨a, b, xs, ys, rfl, rfl, SqT.of ea, SqT.of eb, by rw [ra.length, rb.length]; exact hl, fun e0 => ?_, fun e0 e1 => ?_, fun _ _ q hn => hq _ _ (same_new hn) (.tup hn (by rw [List.length_append]; exact hl) (ra.append rb))⟩
      · subst e0
        have z : i = [] := List.eq_nil_of_length_eq_zero (by rw [← ra.length]; rfl)
        subst z
        exact hq _ _ (Same.refl _) (.val ⟨b, ys, rfl, eb, lb, rb⟩)
      · subst e1
        have z : j = [] := List.eq_nil_of_length_eq_zero (by rw [← rb.length]; rfl)
        subst z
        rw [List.append_nil] at hq
        exact hq _ _ (Same.refl _) (.val ⟨a, xs, rfl, ea, la, ra⟩)
    · cases hk
  · cases hk
theorem k_addS : BinOk (fun x y H Q => ∃ i j, x = .str i ∧ y = .str j ∧ i.length + j.length ≤ sizeLine ∧ Q (.str (i ++ j)) H) pAddS := by
  intro p F H d e z x y fl Q tx ty hk hq
  unfold pAddS at hk
  split at hk
  · rename_i i j he
    cases he
    obtain ⟨h1, rfl, rfl⟩ := okI_some hk
    cases top_str tx; cases top_str ty
    exact ⟨i, j, rfl, rfl, by rw [← big_eq]; exact of_decide_eq_true h1, hq _ _ (Same.refl _) (.val rfl)⟩
  · cases hk
theorem k_add {K : PySem.W.Frag} : BinOk (fun x y H Q => (rI0 fun i j => .int (i + j)) x y H Q ∨ (rCat x y H Q ∨ (rCatA K x y H Q ∨ (∃ i j, x = .str i ∧ y = .str j ∧ i.length + j.length ≤ sizeLine ∧ Q (.str (i ++ j)) H)))) pAdd := by
  intro p F H d e z x y fl Q tx ty hk hq
  unfold pAdd at hk
  split at hk
  · rename_i he; cases he; exact .inl (k_addI tx ty hk hq)
  · rename_i he; cases he; exact .inr (.inl (k_addL tx ty hk hq))
  · rename_i he; cases he; exact .inr (.inr (.inl (k_addT tx ty hk hq)))
  · rename_i he; cases he; exact .inr (.inr (.inr (k_addS tx ty hk hq)))
  · cases hk
theorem k_int2 {g : Int → Int → D} {f : Int → Int → V} {C : Int → Int → Prop} {k : List D → PR} (hr : ∀ p F H i j, Rep p F H (g i j) (f i j))
    (hk : ∀ d e fl z, k [d, e] = some (fl, z) → ∃ i j, d = .int i ∧ e = .int j ∧ C i j ∧ fl = false ∧ z = g i j) : BinOk (rI C f) k := by
  intro p F H d e z x y fl Q tx ty h hq
  obtain ⟨i, j, rfl, rfl, c, rfl, rfl⟩ := hk _ _ _ _ h
  cases top_int tx; cases top_int ty
  exact ⟨i, j, rfl, rfl, c, hq _ _ (Same.refl _) (.val (hr _ _ _ _ _))⟩
theorem k_int0 {g : Int → Int → D} {f : Int → Int → V} {k : List D → PR} (hr : ∀ p F H i j, Rep p F H (g i j) (f i j))
    (hk : ∀ d e fl z, k [d, e] = some (fl, z) → ∃ i j, d = .int i ∧ e = .int j ∧ fl = false ∧ z = g i j) : BinOk (rI0 f) k := by
  intro p F H d e z x y fl Q tx ty h hq
  obtain ⟨i, j, rfl, rfl, rfl, rfl⟩ := hk _ _ _ _ h
  cases top_int tx; cases top_int ty
  exact ⟨i, j, rfl, rfl, hq _ _ (Same.refl _) (.val (hr _ _ _ _ _))⟩
theorem k_sub : BinOk (rI0 fun i j => .int (i - j)) pSub := k_int0 (g := fun i j => .int (i - j)) (fun _ _ _ _ _ => rfl) fun d e fl z h => by
  unfold pSub at h
  split at h
  · rename_i he; cases he; cases h; exact ⟨_, _, rfl, rfl, rfl, rfl⟩
  · cases h
theorem k_cmp (f : Int → Int → Bool) : BinOk (rI0 fun i j => .bl (f i j)) (pCmp f) := k_int0 (g := fun i j => .bl (f i j)) (fun _ _ _ _ _ => rfl) fun d e fl z h => by
  unfold pCmp at h
  split at h
  · rename_i he; cases he; cases h; exact ⟨_, _, rfl, rfl, rfl, rfl⟩
  · cases h
theorem k_mulI : BinOk (rI CMul fun i j => .int (i * j)) pMulI := k_int2 (g := fun i j => .int (i * j)) (fun _ _ _ _ _ => rfl) fun d e fl z h => by
  unfold pMulI at h
  split at h
  · rename_i i j he
    cases he
    obtain ⟨h1, rfl, rfl⟩ := okI_some h
    refine ⟨_, _, rfl, rfl, ?_, rfl, rfl⟩
    simp only [small64, Bool.or_eq_true, Bool.and_eq_true, decide_eq_true_eq] at h1
    exact h1
  · cases h
theorem k_mulT {K : PySem.W.Frag} : BinOk (fun x y H Q => rRepT1 K x y H Q ∨ rRepT K x y H Q) pMulT := by
  intro p F H d e z x y fl Q tx ty hk hq
  unfold pMulT at hk
  split at hk
  · rename_i xs k he
    cases he
    obtain ⟨h1, rfl, rfl⟩ := okI_some hk
    simp only [Bool.and_eq_true, decide_eq_true_eq] at h1
    obtain ⟨⟨⟨h1, h2⟩, h3⟩, h4⟩ := h1
    obtain ⟨a, ys, rfl, ea, la, ra⟩ := top_tup tx
    cases top_int ty
    have hl := ra.length
    by_cases k1 : k = 1
    · subst k1
      rw [show (List.replicate (1 : Int).toNat xs).flatten = xs from List.append_nil xs] at hq
      exact .inl (.inl ⟨a, ys, rfl, rfl, SqT.of ea, hq _ _ (Same.refl _) (.val ⟨a, ys, rfl, ea, la, ra⟩)⟩)
    by_cases k0 : k = 0
    · subst k0
      refine .inl (.inr ⟨a, ys, rfl, rfl, SqT.of ea, fun e0 => ?_, fun q hn => hq _ _ (same_new hn) (.tup hn (Nat.zero_le _) (show Reps p F H [] [] from rfl))⟩)
      subst e0
      exact absurd hl (by simp; omega)
    refine .inr ⟨a, k, ys, rfl, rfl, SqT.of ea, fun e0 => ?_, by omega, h2, by omega, fun q hn => hq _ _ (same_new hn) (.tup hn ?_ (ra.rep _))⟩
    · subst e0
      exact absurd hl (by simp; omega)
    · rw [List.length_flatten]
      simp only [List.map_replicate, List.sum_replicate_nat]
      have h5 : k.toNat * xs.length ≤ 1000 * 1000 := Nat.mul_le_mul (by omega) h3
      rw [sizeLine_eq]
      omega
  · cases hk
theorem k_mul {K : PySem.W.Frag} : BinOk (fun x y H Q => (rI CMul fun i j => .int (i * j)) x y H Q ∨ (rRepT1 K x y H Q ∨ rRepT K x y H Q) ∨ rRep x y H Q) pMul := by
  intro p F H d e z x y fl Q tx ty hk hq
  unfold pMul at hk
  split at hk
  · rename_i he; cases he; exact .inl (k_mulI tx ty hk hq)
  · rename_i he; cases he; exact .inr (.inl (k_mulT tx ty hk hq))
  · rename_i xs k he
    cases he
    split at hk
    · rename_i h1
      cases hk
      simp only [Bool.and_eq_true, decide_eq_true_eq] at h1
      obtain ⟨⟨h1, h2⟩, h3⟩ := h1
      obtain ⟨a, ys, rfl, ea, la, ra⟩ := top_lst tx
      cases top_int ty
      have hl := ra.length
      have h5 : k.toNat * xs.length ≤ 1000 * 1000 := Nat.mul_le_mul (by omega) h3
      refine .inr (.inr ⟨a, k, ys, rfl, rfl, ea, by omega, by omega, by rw [hl, Nat.mul_comm, sizeLine_eq]; omega, fun q hn => hq _ _ (same_new hn) (.lst hn ?_ (ra.rep _))⟩)
      rw [List.length_flatten]
      simp only [List.map_replicate, List.sum_replicate_nat]
      rw [sizeLine_eq]
      omega
    · cases hk
  · cases hk
theorem k_mod : BinOk (rI (fun _ j => j ≠ 0) fun i j => .int (i.fmod j)) pMod := k_int2 (g := fun i j => .int (i.fmod j)) (fun _ _ _ _ _ => rfl) fun d e fl z h => by
  unfold pMod at h
  split at h
  · rename_i i j he
    cases he
    obtain ⟨h1, rfl, rfl⟩ := okI_some h
    exact ⟨_, _, rfl, rfl, of_decide_eq_true h1, rfl, rfl⟩
  · cases h
theorem k_fdiv : BinOk (rI CDivN fun i j => .int (i.fdiv j)) pFdiv := k_int2 (g := fun i j => .int (i.fdiv j)) (fun _ _ _ _ _ => rfl) fun d e fl z h => by
  unfold pFdiv at h
  split at h
  · rename_i i j he
    cases he
    obtain ⟨h1, rfl, rfl⟩ := okI_some h
    simp only [Bool.and_eq_true, decide_eq_true_eq] at h1
    exact ⟨_, _, rfl, rfl, h1, rfl, rfl⟩
  · cases h
theorem k_pow : BinOk (rI CPow fun i j => .int (i ^ j.toNat)) pPow := k_int2 (g := fun i j => .int (i ^ j.toNat)) (fun _ _ _ _ _ => rfl) fun d e fl z h => by
  unfold pPow at h
  split at h
  · rename_i i j he
    cases he
    obtain ⟨h1, rfl, rfl⟩ := okI_some h
    simp only [Bool.and_eq_true, decide_eq_true_eq] at h1
    exact ⟨_, _, rfl, rfl, ⟨h1.1.1, h1.1.2, h1.2⟩, rfl, rfl⟩
  · cases h
theorem k_neg : UnOk (rU fun i => .int (-i)) pNeg := by
  intro p F H d z x fl Q tx hk hq
  unfold pNeg at hk
  split at hk
  · rename_i i he
    cases he; cases hk
    cases top_int tx
    exact ⟨i, rfl, hq _ _ (Same.refl _) (.val rfl)⟩
  · cases hk
theorem k_eq {K : PySem.W.Frag} : BinOk (rEqD K) pEq := by
  intro p F H d e z x y fl Q tx ty hk hq
  obtain ⟨h1, rfl, rfl⟩ := okI_some (show okI (shp d 60 && shp e 60) (.bl (eqd d e)) = _ from hk)
  rw [Bool.and_eq_true] at h1
  exact ⟨_, _, dp_top h1.1 tx, dp_top h1.2 ty, shaped_of h1.1, shaped_of h1.2, hq _ _ (Same.refl _) (.val rfl)⟩
theorem k_ne {K : PySem.W.Frag} : BinOk (rNeD K) pNe := by
  intro p F H d e z x y fl Q tx ty hk hq
  obtain ⟨h1, rfl, rfl⟩ := okI_some (show okI (shp d 60 && shp e 60) (.bl (!eqd d e)) = _ from hk)
  rw [Bool.and_eq_true] at h1
  exact ⟨_, _, dp_top h1.1 tx, dp_top h1.2 ty, shaped_of h1.1, shaped_of h1.2, hq _ _ (Same.refl _) (.val rfl)⟩
/-! in -/
theorem flat_of {p : Addr} {F : Addr → Prop} {H : Hp} {d : D} {v : V} (f : flatD d = true) (r : Rep p F H d v) : flatV v = true := by
  cases d <;> first | (cases f; done) | (cases r; rfl)
theorem flats_of {p : Addr} {F : Addr → Prop} {H : Hp} : ∀ {ds : List D} {vs : List V}, ds.all flatD = true → Reps p F H ds vs → vs.all flatV = true
  | [], _, _, h => by cases h; rfl
  | d :: ds, _, f, h => by
    obtain ⟨v, vs, rfl, a, b⟩ := h
    rw [List.all_cons, Bool.and_eq_true] at f
    rw [List.all_cons, flat_of f.1 a, flats_of f.2 b]; rfl
theorem eqV_of {p : Addr} {F : Addr → Prop} {H : Hp} {d e : D} {v w : V} (f : flatD d = true) (g : flatD e = true) (r : Rep p F H d v) (q : Rep p F H e w) : eqV v w = eqd d e := by
  cases d <;> first | (cases f; done) | (cases e <;> first | (cases g; done) | (cases r; cases q; simp only [eqV, eqd, toPy, PyData.eqv]))
theorem inV_of {p : Addr} {F : Addr → Prop} {H : Hp} {x : D} {v : V} (f : flatD x = true) (r : Rep p F H x v) : ∀ {ds : List D} {vs : List V}, ds.all flatD = true → Reps p F H ds vs → inV v vs = inD x ds
  | [], _, _, h => by cases h; rfl
  | d :: ds, _, g, h => by
    obtain ⟨w, vs, rfl, a, b⟩ := h
    rw [List.all_cons, Bool.and_eq_true] at g
    have ih := inV_of f r g.2 b
    unfold inV inD at ih ⊢
    rw [List.any_cons, List.any_cons, ih, eqV_of g.1 f a r]
theorem toPys_any (f : PyData → Bool) : ∀ ds : List D, (toPys ds).any f = ds.any fun d => f (toPy d)
  | [] => rfl
  | d :: ds => by simp only [toPys, List.any_cons, toPys_any f ds]
theorem top_flat {p : Addr} {F : Addr → Prop} {H : Hp} {d : D} {v : V} (f : flatD d = true) (t : Top p F H d v) : Rep p F H d v := by
  cases d <;> first | (cases f; done) | exact t
theorem memD_ok {K : PySem.W.Frag} {p : Addr} {F : Addr → Prop} {H : Hp} {d e : D} {x y : V} {b : Bool} (tx : Top p F H d x) (ty : Top p F H e y) (h : memD d e = some b) :
    (∃ ds, Dp K H x (toPy d) ∧ Dp K H y (.list ds) ∧ SeqAt.shaped (toPy d) = true ∧ SeqAt.shaped (.list ds) = true ∧ (ds.any fun z => PyData.eqv z (toPy d)) = b) ∨
    (∃ q xs, y = .ref q ∧ (SqL K H q xs ∨ SqT K H q xs) ∧ flatV x = true ∧ xs.all flatV = true ∧ inV x xs = b) ∨ (∃ ds, Dp K H x (toPy d) ∧ Dp K H y (.tuple ds) ∧ SeqAt.shaped (toPy d) = true ∧ SeqAt.shaped (.tuple ds) = true ∧ (ds.any fun z => PyData.eqv z (toPy d)) = b) ∨ (∃ i j, x = .str i ∧ y = .str j ∧ (!(Builtin.Str.occurrences j i 0 j.length 1).isEmpty) = b) := by
  unfold memD at h
  split at h
  · rename_i xs
    split at h
    · rename_i hs
      rw [Bool.and_eq_true] at hs
      cases h
      have hs2 : shp (.lst xs) 60 = true := hs.2
      exact .inl ⟨toPys xs, dp_top hs.1 tx, dp_top hs2 ty, shaped_of hs.1, shaped_of hs2, by rw [toPys_any]; rfl⟩
    · cases h
  · rename_i xs
    split at h
    · rename_i hs
      rw [Bool.and_eq_true] at hs
      cases h
      obtain ⟨a, ys, rfl, ea, la, ra⟩ := top_tup ty
      have rx := top_flat hs.1 tx
      exact .inr (.inl ⟨a, ys, rfl, .inr (SqT.of ea), flat_of hs.1 rx, flats_of hs.2 ra, inV_of hs.1 rx hs.2 ra⟩)
    · split at h
      · rename_i hs
        rw [Bool.and_eq_true] at hs
        cases h
        have hs2 : shp (.tup xs) 60 = true := hs.2
        exact .inr (.inr (.inl ⟨toPys xs, dp_top hs.1 tx, dp_top hs2 ty, shaped_of hs.1, shaped_of hs2, by rw [toPys_any]; rfl⟩))
      · cases h
  · split at h
    · cases h
      cases top_str tx
      cases top_str ty
      exact .inr (.inr (.inr ⟨_, _, rfl, rfl, rfl⟩))
    · cases h
  · cases h
/-- x in t, t a tuple of data of any depth -/
def rInT (K : PySem.W.Frag) (neg : Bool) : R2 := fun x y H Q => ∃ d ds, Dp K H x d ∧ Dp K H y (.tuple ds) ∧ SeqAt.shaped d = true ∧ SeqAt.shaped (.tuple ds) = true ∧ Q (.bl (if neg = true then !ds.any fun z => PyData.eqv z d else ds.any fun z => PyData.eqv z d)) H
theorem op_inT {X : Cx} (hu : X.A.units + 65 < cLine) : OpR X (compareOp .In) (rInT X.K false) := by
  intro pins s σ H x y v u Q I rx ry h
  obtain ⟨d, ds, hd, he, sd, se, q⟩ := h
  obtain ⟨as, r1⟩ := Dp.reads I d x v hd rx
  obtain ⟨bs, r2⟩ := Dp.reads I (.tuple ds) y u he ry
  exact SeqAt.in_tuple_reads r2 r1 (SeqAt.canLay_of_shaped se) (SeqAt.canLay_of_shaped sd) (room_in_shaped sd hu) ⟨.bl _, H, I, rfl, q⟩
theorem op_notInT {X : Cx} (hu : X.A.units + 65 < cLine) : OpR X (compareOp .NotIn) (rInT X.K true) := by
  intro pins s σ H x y v u Q I rx ry h
  obtain ⟨d, ds, hd, he, sd, se, q⟩ := h
  obtain ⟨as, r1⟩ := Dp.reads I d x v hd rx
  obtain ⟨bs, r2⟩ := Dp.reads I (.tuple ds) y u he ry
  exact SeqAt.notIn_tuple_reads r2 r1 (SeqAt.canLay_of_shaped se) (SeqAt.canLay_of_shaped sd) (room_in_shaped sd hu) ⟨.bl _, H, I, rfl, q⟩
theorem k_in {K : PySem.W.Frag} : BinOk (fun x y H Q => rInD K x y H Q ∨ (rIn K false x y H Q ∨ rInT K false x y H Q ∨ ∃ i j, x = .str i ∧ y = .str j ∧ Q (.bl (!(Builtin.Str.occurrences j i 0 j.length 1).isEmpty)) H)) pIn := by
  intro p F H d e z x y fl Q tx ty hk hq
  have hk' : (memD d e).map (fun b => (false, D.bl b)) = some (fl, z) := hk
  cases q : memD d e with
  | none => rw [q] at hk'; cases hk'
  | some b =>
    rw [q] at hk'; cases hk'
    rcases memD_ok (K := K) tx ty q with ⟨ds, h1, h2, h3, h4, h5⟩ | ⟨a, xs, h1, h2, h3, h4, h5⟩ | ⟨ds, h1, h2, h3, h4, h5⟩ | ⟨i, j, h1, h2, h3⟩
    · exact .inl ⟨_, ds, h1, h2, h3, h4, hq _ _ (Same.refl _) (.val (by rw [h5]; rfl))⟩
    · exact .inr (.inl ⟨a, xs, h1, h2, h3, h4, hq _ _ (Same.refl _) (.val (by rw [← h5]; rfl))⟩)
    · exact .inr (.inr (.inl ⟨_, ds, h1, h2, h3, h4, hq _ _ (Same.refl _) (.val (by rw [h5]; rfl))⟩))
    · exact .inr (.inr (.inr ⟨i, j, h1, h2, hq _ _ (Same.refl _) (.val (by rw [h3]; rfl))⟩))
theorem k_nin {K : PySem.W.Frag} : BinOk (fun x y H Q => rNotInD K x y H Q ∨ (rIn K true x y H Q ∨ rInT K true x y H Q ∨ ∃ i j, x = .str i ∧ y = .str j ∧ Q (.bl (!(!(Builtin.Str.occurrences j i 0 j.length 1).isEmpty))) H)) pNin := by
  intro p F H d e z x y fl Q tx ty hk hq
  have hk' : (memD d e).map (fun b => (false, D.bl (!b))) = some (fl, z) := hk
  cases q : memD d e with
  | none => rw [q] at hk'; cases hk'
  | some b =>
    rw [q] at hk'; cases hk'
    rcases memD_ok (K := K) tx ty q with ⟨ds, h1, h2, h3, h4, h5⟩ | ⟨a, xs, h1, h2, h3, h4, h5⟩ | ⟨ds, h1, h2, h3, h4, h5⟩ | ⟨i, j, h1, h2, h3⟩
    · exact .inl ⟨_, ds, h1, h2, h3, h4, hq _ _ (Same.refl _) (.val (by rw [h5]; rfl))⟩
    · exact .inr (.inl ⟨a, xs, h1, h2, h3, h4, hq _ _ (Same.refl _) (.val (by rw [← h5]; rfl))⟩)
    · exact .inr (.inr (.inl ⟨_, ds, h1, h2, h3, h4, hq _ _ (Same.refl _) (.val (by rw [h5]; rfl))⟩))
    · exact .inr (.inr (.inr ⟨i, j, h1, h2, hq _ _ (Same.refl _) (.val (by rw [h3]; rfl))⟩))
theorem isNon_of {p : Addr} {F : Addr → Prop} {H : Hp} {d : D} {x : V} (t : Top p F H d x) : decide (x = .non) = isNon d := by
  cases d with
  | lst ds => obtain ⟨a, xs, rfl, _⟩ := top_lst t; rfl
  | tup ds => obtain ⟨a, xs, rfl, _⟩ := top_tup t; rfl
  | dic ds => obtain ⟨a, xs, rfl, _⟩ := t; rfl
  | exc _ _ => obtain ⟨e, _, _, rfl, _⟩ := t; rfl
  | _ => cases t; rfl
theorem k_isN : BinOk (fun x y H Q => y = .non ∧ Q (.bl (decide (x = .non))) H) pIsN2 := by
  intro p F H d e z x y fl Q tx ty hk hq
  unfold pIsN2 at hk
  split at hk
  · rename_i he; cases he
    cases hk
    exact ⟨ty, hq _ _ (Same.refl _) (.val (by rw [isNon_of tx]; rfl))⟩
  · cases hk
theorem k_isnN : BinOk (fun x y H Q => y = .non ∧ Q (.bl (!decide (x = .non))) H) pIsnN2 := by
  intro p F H d e z x y fl Q tx ty hk hq
  unfold pIsnN2 at hk
  split at hk
  · rename_i he; cases he
    cases hk
    exact ⟨ty, hq _ _ (Same.refl _) (.val (by rw [isNon_of tx]; rfl))⟩
  · cases hk
theorem k_isB : BinOk (fun x y H Q => ∃ a b, x = .bl a ∧ y = .bl b ∧ Q (.bl (decide (a = b))) H) pIsB2 := by
  intro p F H d e z x y fl Q tx ty hk hq
  unfold pIsB2 at hk
  split at hk
  · rename_i he; cases he
    cases hk
    exact ⟨_, _, tx, ty, hq _ _ (Same.refl _) (.val rfl)⟩
  · cases hk
/-! items -/
theorem Reps.atI {p : Addr} {F : Addr → Prop} {H : Hp} {ds : List D} {vs : List V} {i : Int} {d : D} (h : Reps p F H ds vs) (e : L2.atI ds i = some d) : ∃ v, L2.atI vs i = some v ∧ Rep p F H d v := by
  unfold L2.atI at e ⊢
  rw [h.length]
  cases q : ixN ds.length i with
  | none => rw [q] at e; cases e
  | some j =>
    rw [q] at e
    exact h.get e
theorem isAt_some {xs : List D} {i : Int} {fl : Bool} {z : D} (h : isAt xs i = some (fl, z)) : fl = false ∧ L2.atI xs i = some z := by
  unfold isAt at h
  cases q : L2.atI xs i with
  | none => rw [q] at h; cases h
  | some d => rw [q] at h; cases h; exact ⟨rfl, rfl⟩
theorem k_ix {K : PySem.W.Frag} : BinOk (rIx K) pIx := by
  intro p F H d e z x y fl Q tx ty hk hq
  unfold pIx at hk
  split at hk
  · rename_i xs i he
    cases he
    obtain ⟨rfl, h⟩ := isAt_some hk
    obtain ⟨a, ys, rfl, ea, la, ra⟩ := top_lst tx
    cases top_int ty
    obtain ⟨v, hv, rv⟩ := Reps.atI ra h
    exact .inl ⟨a, ys, i, v, rfl, rfl, SqL.of ea, hv, hq _ _ (Same.refl _) (.val rv)⟩
  · rename_i xs i he
    cases he
    obtain ⟨rfl, h⟩ := isAt_some hk
    obtain ⟨a, ys, rfl, ea, la, ra⟩ := top_tup tx
    cases top_int ty
    obtain ⟨v, hv, rv⟩ := Reps.atI ra h
    exact .inr (.inl ⟨a, ys, i, v, rfl, rfl, SqT.of ea, hv, hq _ _ (Same.refl _) (.val rv)⟩)
  · cases hk
def SlOkR (r : V → Option Int → Option Int → Hp → VK → Prop) : Prop :=
  ∀ {p : Addr} {F : Addr → Prop} {H : Hp} {d z : D} {x : V} {lo hi : Option Int} {fl : Bool} {Q : VK}, Top p F H d x → pCut d lo hi = some (fl, z) →
    (∀ v H', Same H H' → Giv p F H H' fl z v → Q v H') → r x lo hi H Q
theorem Reps.cut {p : Addr} {F : Addr → Prop} {H : Hp} {ds : List D} {vs : List V} {lo hi : Option Int} (h : Reps p F H ds vs) : Reps p F H (cutD ds lo hi) (cutV vs lo hi) := by
  unfold cutD cutV
  rw [h.length]
  exact Reps.take _ (Reps.drop _ h)
theorem cutD_length (xs : List D) (lo hi : Option Int) : (cutD xs lo hi).length ≤ xs.length := by
  unfold cutD
  rw [List.length_take, List.length_drop]
  omega
theorem k_sl {K : PySem.W.Frag} : SlOkR (fun x lo hi H Q => rSlL K x lo hi H Q ∨ (rSlA K x lo hi H Q ∨ rSlS x lo hi H Q)) := by
  intro p F H d z x lo hi fl Q tx hk hq
  unfold pCut at hk
  split at hk
  · rename_i xs
    cases hk
    obtain ⟨a, ys, rfl, ea, la, ra⟩ := top_lst tx
    exact .inl ⟨a, ys, rfl, SqL.of ea, fun q hn => hq _ _ (same_new hn) (.lst hn (Nat.le_trans (cutD_length _ _ _) la) ra.cut)⟩
  · rename_i xs
    cases hk
    obtain ⟨a, ys, rfl, ea, la, ra⟩ := top_tup tx
    refine .inr (.inl ⟨a, ys, rfl, SqT.of ea, fun hw => ?_, fun _ q hn => hq _ _ (same_new hn) (.tup hn (Nat.le_trans (cutD_length _ _ _) la) ra.cut)⟩)
    have e1 : cutD xs lo hi = xs := by
      unfold cutD
      rw [ra.length] at hw
      rw [hw.1, hw.2, List.drop_zero, Nat.sub_zero, List.take_length]
    rw [e1] at hq
    exact hq _ _ (Same.refl _) (.val ⟨a, ys, rfl, ea, la, ra⟩)
  · obtain ⟨h1, rfl, rfl⟩ := okI_some hk
    cases top_str tx
    exact .inr (.inr ⟨_, rfl, by have := of_decide_eq_true h1; rw [sizeLine_eq]; exact this, hq _ _ (Same.refl _) (.val rfl)⟩)
  · cases hk
/-! isinstance -/
def tyN : Ty → String
  | .int => "int" | .bool => "bool" | .tuple => "tuple" | .list => "list" | .str => "str" | .dict => "dict"
def tyOfD : D → String
  | .non => "NoneType" | .bl _ => "bool" | .int _ => "int" | .str _ => "str" | .tup _ => "tuple" | .lst _ => "list" | .dic _ => "dict" | _ => "object"
theorem kit_all (t : Ty) (d : D) (hd : isData d = true) : kitB (tyOfD d) (tyN t) = some (isiD t d) := by
  cases d <;> first | (cases hd; done) | (cases t <;> (simp only [isiD, tyN, tyOfD]; decide +kernel))
theorem tyX_of {K : PySem.W.Frag} {p : Addr} {F : Addr → Prop} {H : Hp} {d : D} {x : V} (hd : isData d = true) (t : Top p F H d x) : TyX K H x (.type (tyOfD d)) := by
  cases d with
  | lst ds => obtain ⟨a, xs, rfl, e, _⟩ := top_lst t; exact .base (.lst e)
  | tup ds => obtain ⟨a, xs, rfl, e, _⟩ := top_tup t; exact .base (.tup e)
  | dic ds =>
    obtain ⟨a, xs, rfl, e | ⟨q, e⟩, _⟩ := t
    · exact .base (.dK e)
    · exact .fDict e
  | exc _ _ => cases hd
  | pen => cases hd
  | non => cases (show x = .non from t); exact .base .non
  | bl b => cases (show x = .bl b from t); exact .base (.bl b)
  | int b => cases (show x = .int b from t); exact .base (.int b)
  | str b => cases (show x = .str b from t); exact .base (.str b)
theorem k_isi {K : PySem.W.Frag} (t : Ty) {p : Addr} {F : Addr → Prop} {H : Hp} {ds : List D} {x : V} {fl : Bool} {d : D} {Q : VK} (ht : Tops p F H ds [x]) (hk : pIsi t ds = some (fl, d))
    (hq : ∀ v H', Same H H' → Giv p F H H' fl d v → Q v H') : rIsi K [x, .ty (tyN t)] H Q := by
  unfold pIsi at hk
  split at hk
  · rename_i e
    obtain ⟨h1, rfl, rfl⟩ := okI_some hk
    obtain ⟨v, hv, tv⟩ := tops1 ht
    cases hv
    exact ⟨_, _, _, _, isiD t e, rfl, .ty (tyN t), tyX_of h1 tv, kit_ty (kit_all t e h1), hq _ _ (Same.refl _) (.val rfl)⟩
  · cases hk
/-! dicts -/
theorem Giv.dic {ds : List (Key × D)} {xs : List (Key × V)} {a : Addr} {p : Addr} {F : Addr → Prop} {H : Hp} (h : H a = none) (l : ds.length ≤ sizeLine) (r : Repk p F H ds xs) : Giv p F H (upd H a (.dK xs)) true (.dic ds) (.ref a) :=
  ⟨a, rfl, h, xs, upd_same, l, Repk.step (Step.of_same (same_new h)) _ _ r⟩
theorem top_dic {p : Addr} {F : Addr → Prop} {H : Hp} {ds : List (Key × D)} {v : V} (h : Top p F H (.dic ds) v) : ∃ a xs, v = .ref a ∧ Rd H a (.dK xs) ∧ ds.length ≤ sizeLine ∧ Repk p F H ds xs := h
theorem DGet.rd {H : Hp} {a : Addr} {kvs : List (Key × V)} {k : Key} (e : Rd H a (.dK kvs)) : DGet H a (kV k) (valV kvs k) := .inl ⟨kvs, k, e, rfl, rfl⟩
theorem key_of {p : Addr} {F : Addr → Prop} {H : Hp} {d : D} {v : V} {k : Key} (t : Top p F H d v) (e : keyD d = some k) : v = kV k := by
  cases d <;> first
    | (cases e; done)
    | (cases e; exact t)
theorem k_dix : BinOk (fun x y H Q => ∃ a v, x = .ref a ∧ DGet H a y (some v) ∧ Q v H) pDix := by
  intro p F H d e z x y fl Q tx ty hk hq
  unfold pDix at hk
  split at hk
  · rename_i kvs k he
    cases he
    cases q : keyD e with
    | none => rw [q] at hk; cases hk
    | some k' =>
      rw [q] at hk
      obtain ⟨a, xs, rfl, ea, la, ra⟩ := top_dic tx
      have h1 := ra.get k'
      cases q2 : getK kvs k' with
      | none => rw [Option.bind_some, q2] at hk; cases hk
      | some d =>
        rw [Option.bind_some, q2] at hk
        cases hk
        rw [q2] at h1
        obtain ⟨v, hv, rv⟩ := h1
        refine ⟨a, v, rfl, ?_, hq _ _ (Same.refl _) (.val rv)⟩
        rw [key_of ty q, ← hv]
        exact DGet.rd ea
  · cases hk
theorem dget_some {p : Addr} {F : Addr → Prop} {H : Hp} {kvs : List (Key × D)} {v y : V} {k : D} {k' : Key} (tx : Top p F H (.dic kvs) v) (ty : Top p F H k y) (q : keyD k = some k') : ∃ a o, v = .ref a ∧ DGet H a y o ∧ o.isSome = (getK kvs k').isSome ∧ ∀ d w, Rep p F H d w → Rep p F H ((getK kvs k').getD d) (o.getD w) := by
  obtain ⟨a, xs, rfl, ea, la, ra⟩ := top_dic tx
  have h1 := ra.get k'
  refine ⟨a, valV xs k', rfl, by rw [key_of ty q]; exact DGet.rd ea, ?_, fun d w r => ?_⟩
  · cases q2 : getK kvs k' with
    | none => rw [q2] at h1; rw [show valV xs k' = none from h1]; rfl
    | some d => rw [q2] at h1; obtain ⟨v, hv, _⟩ := h1; rw [hv]; rfl
  · cases q2 : getK kvs k' with
    | none => rw [q2] at h1; rw [h1]; exact r
    | some d => rw [q2] at h1; obtain ⟨v, hv, rv⟩ := h1; rw [hv]; exact rv
theorem k_din : BinOk (fun y x H Q => ∃ a o, x = .ref a ∧ DGet H a y o ∧ Q (.bl o.isSome) H) pDin := by
  intro p F H d e z x y fl Q tx ty hk hq
  unfold pDin at hk
  split at hk
  · rename_i k kvs he
    cases he
    cases q : keyD d with
    | none => rw [q] at hk; cases hk
    | some k' =>
      rw [q] at hk
      cases hk
      obtain ⟨a, o, h1, h2, h3, _⟩ := dget_some ty tx q
      exact ⟨a, o, h1, h2, hq _ _ (Same.refl _) (.val (by rw [h3]; rfl))⟩
  · cases hk
theorem k_dnin : BinOk (fun y x H Q => ∃ a o, x = .ref a ∧ DGet H a y o ∧ Q (.bl (!o.isSome)) H) pDnin := by
  intro p F H d e z x y fl Q tx ty hk hq
  unfold pDnin at hk
  split at hk
  · rename_i k kvs he
    cases he
    cases q : keyD d with
    | none => rw [q] at hk; cases hk
    | some k' =>
      rw [q] at hk
      cases hk
      obtain ⟨a, o, h1, h2, h3, _⟩ := dget_some ty tx q
      exact ⟨a, o, h1, h2, hq _ _ (Same.refl _) (.val (by rw [h3]; rfl))⟩
  · cases hk
theorem pairsD_of {p : Addr} {F : Addr → Prop} {H : Hp} {K : PySem.W.Frag} : ∀ {ds : List D} {l : List (Key × D)} {vs : List V}, pairsD ds = some l → Reps p F H ds vs → ∃ (ps : List Addr) (kvs : List (Key × V)), vs = ps.map V.ref ∧ Paired (fun p kv => SqT K H p [kV kv.1, kv.2]) ps kvs ∧ Repk p F H l kvs
  | [], l, _, e, h => by cases h; cases e; exact ⟨[], [], rfl, .nil, rfl⟩
  | .tup [k, v] :: ds, l, _, e, h => by
    obtain ⟨u, vs, rfl, a, b⟩ := h
    have e' : ((keyD k).bind fun k => (pairsD ds).map fun x => (k, v) :: x) = some l := e
    cases q : keyD k with
    | none => rw [q] at e'; cases e'
    | some k' =>
      rw [q] at e'
      cases q2 : pairsD ds with
      | none => rw [Option.bind_some, q2] at e'; cases e'
      | some l' =>
        rw [Option.bind_some, q2] at e'
        cases e'
        obtain ⟨ps, kvs, rfl, h2, h3⟩ := pairsD_of (K := K) q2 b
        obtain ⟨c, ys, rfl, hc, hl, hr⟩ := a
        obtain ⟨y1, ys1, rfl, r1, y2, ys2, rfl, r2, r3⟩ := hr
        cases r3
        have e1 := key_of (Rep.top r1) q
        subst e1
        exact ⟨c :: ps, (k', y2) :: kvs, rfl, .cons (SqT.of hc) h2, y2, kvs, rfl, r2, h3⟩
  | .tup [] :: _, _, _, e, _ => by cases e
  | .tup [_] :: _, _, _, e, _ => by cases e
  | .tup (_ :: _ :: _ :: _) :: _, _, _, e, _ => by cases e
  | .non :: _, _, _, e, _ => by cases e
  | .bl _ :: _, _, _, e, _ => by cases e
  | .str _ :: _, _, _, e, _ => by cases e
  | .int _ :: _, _, _, e, _ => by cases e
  | .lst _ :: _, _, _, e, _ => by cases e
  | .dic _ :: _, _, _, e, _ => by cases e
  | .pen :: _, _, _, e, _ => by cases e
  | .exc _ _ :: _, _, _, e, _ => by cases e
theorem repk_nil {p : Addr} {F : Addr → Prop} {H : Hp} : Repk p F H [] [] := rfl
theorem k_dmk {K : PySem.W.Frag} : CallOk (fun xs H Q => ∃ (a : Addr) (ps : List Addr) (kvs : List (Key × V)), xs = [.ref a] ∧ SqL K H a (ps.map V.ref) ∧ Paired (fun p kv => SqT K H p [kV kv.1, kv.2]) ps kvs ∧
    ∀ p, H p = none → Q (.ref p) (upd H p (.dK (mergeK [] kvs)))) pDmk := by
  intro p F H ds vs fl d Q ht hk hq
  unfold pDmk at hk
  split at hk
  · rename_i xs
    cases q : pairsD xs with
    | none => rw [q] at hk; cases hk
    | some l =>
      rw [q, Option.bind_some] at hk
      split at hk
      · rename_i hl
        cases hk
        obtain ⟨v, rfl, t⟩ := tops1 ht
        obtain ⟨a, ys, rfl, e, _, r⟩ := top_lst t
        obtain ⟨ps, kvs, rfl, h2, h3⟩ := pairsD_of (K := K) q r
        exact ⟨a, ps, kvs, rfl, SqL.of e, h2, fun b hn => hq _ _ (same_new hn) (.dic hn (by rw [← big_eq]; exact hl) (Repk.merge h3 repk_nil))⟩
      · cases hk
  · cases hk
/-! texts -/
theorem strsD_of {p : Addr} {F : Addr → Prop} {H : Hp} : ∀ {ds : List D} {ns : List Str} {vs : List V}, strsD ds = some ns → Reps p F H ds vs → vs = ns.map V.str
  | [], ns, _, e, h => by cases h; cases e; rfl
  | .str i :: ds, ns, _, e, h => by
    obtain ⟨v, vs, e1, a, b⟩ := h
    subst e1
    cases q : strsD ds with
    | none => simp [strsD, q] at e
    | some ms =>
      simp [strsD, q] at e
      subst e
      have h1 := strsD_of q b
      cases (show v = V.str i from a)
      rw [h1]; rfl
  | .non :: _, _, _, e, _ => by cases e
  | .bl _ :: _, _, _, e, _ => by cases e
  | .int _ :: _, _, _, e, _ => by cases e
  | .tup _ :: _, _, _, e, _ => by cases e
  | .lst _ :: _, _, _, e, _ => by cases e
  | .dic _ :: _, _, _, e, _ => by cases e
  | .pen :: _, _, _, e, _ => by cases e
  | .exc _ _ :: _, _, _, e, _ => by cases e
theorem reps_strs {p : Addr} {F : Addr → Prop} {H : Hp} : ∀ ns : List Str, Reps p F H (ns.map D.str) (ns.map V.str)
  | [] => rfl
  | n :: r => ⟨_, _, rfl, rfl, reps_strs r⟩
theorem k_toStr : CallOk (fun xs H Q => ∃ i, xs = [.int i] ∧ i.natAbs.log2 < 1920 ∧ Q (.str (toString i)) H) pToStr := by
  intro p F H ds vs fl d Q ht hk hq
  unfold pToStr at hk
  split at hk
  · obtain ⟨h1, rfl, rfl⟩ := okI_some hk
    obtain ⟨v, rfl, t⟩ := tops1 ht
    cases top_int t
    exact ⟨_, rfl, of_decide_eq_true h1, hq _ _ (Same.refl _) rfl⟩
  · cases hk
theorem k_upper : UnOk (fun x H Q => ∃ a, x = .str a ∧ a.length ≤ 5592405 ∧ Q (.str (Txt.upper a)) H) pUpper := by
  intro p F H d z x fl Q tx hk hq
  unfold pUpper at hk
  split at hk
  · rename_i i he
    cases he
    obtain ⟨h1, rfl, rfl⟩ := okI_some hk
    cases top_str tx
    exact ⟨i, rfl, of_decide_eq_true h1, hq _ _ (Same.refl _) (.val rfl)⟩
  · cases hk
theorem k_join {K : PySem.W.Frag} : BinOk (fun x y H Q => ∃ a p, ∃ ys : List Str, x = .str a ∧ y = .ref p ∧ (SqL K H p (ys.map V.str) ∨ SqT K H p (ys.map V.str)) ∧ (ys.map (·.length)).sum + ys.length * a.length ≤ 16777216 ∧ Q (.str (Txt.join a ys)) H) pJoin := by
  intro p F H d e z x y fl Q tx ty hk hq
  unfold pJoin at hk
  split at hk
  · rename_i s xs he
    cases he
    cases q : strsD xs with
    | none => rw [q] at hk; cases hk
    | some ys =>
      rw [q, Option.bind_some] at hk
      obtain ⟨h1, rfl, rfl⟩ := okI_some hk
      cases top_str tx
      obtain ⟨a, us, rfl, ea, la, ra⟩ := top_lst ty
      have e2 := strsD_of q ra
      subst e2
      exact ⟨s, a, ys, rfl, rfl, .inl (SqL.of ea), of_decide_eq_true h1, hq _ _ (Same.refl _) (.val rfl)⟩
  · cases hk
theorem k_split : BinOk (fun x y H Q => ∃ a b, x = .str a ∧ y = .str b ∧ (b.length == 0) = false ∧ a.length + 2 ≤ sizeLine ∧ ∀ p, H p = none → Q (.ref p) (upd H p (.lst ((Txt.split a b).map V.str)))) pSplit := by
  intro p F H d e z x y fl Q tx ty hk hq
  unfold pSplit at hk
  split at hk
  · rename_i s b he
    cases he
    split at hk
    · rename_i h1
      cases hk
      cases top_str tx
      cases top_str ty
      exact ⟨s, b, rfl, rfl, beq_false_of_ne h1.1, by rw [← big_eq]; exact h1.2.1, fun q hn => hq _ _ (same_new hn) (.lst hn (by rw [List.length_map, ← big_eq]; exact h1.2.2) (reps_strs _))⟩
    · cases hk
  · cases hk
end Wa

/-! the state of a def's run: its slots as trees over the abstract heap -/
namespace Wa
open PySem PySem.Spec PyProof.Rows L2
variable [CM]

/-- the pen: two lists, of which the first alone is changed by draws -/
def PenAt (p c0 : Addr) (H : Hp) : Prop := ∃ (cells : List Int) (at_ st : Int), H p = some (.lst [.ref c0, .int at_, .int st]) ∧ H c0 = some (.lst (cells.map V.int)) ∧ 0 ≤ at_ ∧ cells.length ≤ 12
theorem PenAt.ne {p c0 : Addr} {H : Hp} (h : PenAt p c0 H) : p ≠ c0 := by
  obtain ⟨cells, at_, st, h1, h2, _⟩ := h
  intro e
  rw [e, h2] at h1
  have h3 := HO.lst.inj (Option.some.inj h1)
  cases cells with
  | nil => cases h3
  | cons x r => cases h3
/-- the entry: what was frozen, the heap, the lists that may be changed -/
structure Ctx where
  p : Addr
  c0 : Addr
  F0 : Addr → Prop
  H0 : Hp
def SlOk (c : Ctx) (F : Addr → Prop) (H : Hp) (o : Option (Option V)) : Sl → Prop
  | .no => True
  | .sh d => ∃ v, o = some (some v) ∧ Rep c.p F H d v
  | .ow d => ∃ a, o = some (some (.ref a)) ∧ OwnD c.p F H a d ∧ ¬ F a ∧ c.H0 a = none ∧ a ≠ c.p ∧ a ≠ c.c0
structure Sim (c : Ctx) (F : Addr → Prop) (r : Env) (σ : L2.St) (H : Hp) : Prop where
  len : r.length = σ.length
  slot : ∀ (i : Nat) (s : Sl), r[i]? = some s → SlOk c F H σ[i]? s
  sep : ∀ (i j : Nat) (a : Addr) (d e : D), r[i]? = some (.ow d) → r[j]? = some (.ow e) → σ[i]? = some (some (.ref a)) → σ[j]? = some (some (.ref a)) → i = j
  frame : ∀ a o, c.H0 a = some o → a ≠ c.p → ∃ o', H a = some o' ∧ Lk o o' ∧ (o' = o ∨ c.F0 a)
  fr0 : ∀ a, c.F0 a → F a
  fnew : ∀ a, F a → c.F0 a ∨ c.H0 a = none
  ftrk : ∀ a, F a → ∃ o, H a = some o
  pen : PenAt c.p c.c0 H
  npF : ¬ F c.p ∧ ¬ F c.c0
/-- the value at a token -/
def TokOk (c : Ctx) (F : Addr → Prop) (σ : L2.St) (H : Hp) (t : Tok) (v : V) : Prop := match t with
  | .bor i => σ[i]? = some (some v)
  | .val d => Rep c.p F H d v
/-- a list no one else knows -/
def Frs (c : Ctx) (F : Addr → Prop) (r : Env) (σ : L2.St) (H : Hp) (d : D) (v : V) : Prop :=
  ∃ a, v = .ref a ∧ OwnD c.p F H a d ∧ ¬ F a ∧ c.H0 a = none ∧ a ≠ c.p ∧ a ≠ c.c0 ∧ ∀ (i : Nat) (e : D), r[i]? = some (.ow e) → σ[i]? ≠ some (some (.ref a))
/-- an address that no one else knows -/
def NewG (c : Ctx) (F : Addr → Prop) (r : Env) (σ : L2.St) (H : Hp) (a : Addr) : Prop :=
  ¬ F a ∧ c.H0 a = none ∧ a ≠ c.p ∧ a ≠ c.c0 ∧ (∃ o, H a = some o) ∧ ∀ (i : Nat) (e : D), r[i]? = some (.ow e) → σ[i]? ≠ some (some (.ref a))
def orF (F G : Addr → Prop) : Addr → Prop := fun a => F a ∨ G a
/-- a part of a value, by the path, the last step first -/
def atV (H : Hp) (v : V) : List Nat → Option V
  | [] => some v
  | k :: p => match atV H v p with
    | some (.ref a) => match H a with
      | some (.tup xs) => xs[k]?
      | _ => none
    | _ => none
/-- a tuple some of whose lists no one else knows -/
def FrsG (c : Ctx) (F : Addr → Prop) (r : Env) (σ : L2.St) (H : Hp) (d : D) (v : V) : Prop :=
  ∃ (ds : List D) (G : Addr → Prop), d = .tup ds ∧ (∀ a, G a → NewG c F r σ H a) ∧ Rep c.p (orF F G) H d v ∧ ∀ p ys, okP d p = true → atD d p = some (.lst ys) → ∃ a, atV H v p = some (.ref a) ∧ G a
def Res (c : Ctx) (F : Addr → Prop) (r : Env) (σ : L2.St) (H : Hp) (fl : Bool) (d : D) (v : V) : Prop :=
  if fl = true then Frs c F r σ H d v ∨ FrsG c F r σ H d v else Rep c.p F H d v
theorem atV_cons {H : Hp} {v w : V} {k : Nat} {p : List Nat} (h : atV H v (k :: p) = some w) : ∃ t xs, atV H v p = some (.ref t) ∧ H t = some (.tup xs) ∧ xs[k]? = some w := by
  have h : (match atV H v p with
    | some (.ref a) => match H a with
      | some (.tup xs) => xs[k]?
      | _ => none
    | _ => none) = some w := h
  split at h
  · rename_i a e1
    split at h
    · rename_i xs e2
      exact ⟨a, xs, e1, e2, h⟩
    · cases h
  · cases h
theorem atV_of {H : Hp} {v w : V} {k : Nat} {p : List Nat} {t : Addr} {xs : List V} (e1 : atV H v p = some (.ref t)) (e2 : H t = some (.tup xs)) (e3 : xs[k]? = some w) : atV H v (k :: p) = some w := by
  show (match atV H v p with
    | some (.ref a) => match H a with
      | some (.tup xs) => xs[k]?
      | _ => none
    | _ => none) = some w
  rw [e1]
  show (match H t with
      | some (.tup xs) => xs[k]?
      | _ => none) = some w
  rw [e2]
  exact e3
theorem atV_tups {H H' : Hp} (h : ∀ a xs, H a = some (.tup xs) → H' a = some (.tup xs)) : ∀ {p : List Nat} {v w : V}, atV H v p = some w → atV H' v p = some w
  | [], _, _, e => e
  | k :: p, v, w, e => by
    obtain ⟨t, xs, e1, e2, e3⟩ := atV_cons e
    exact atV_of (atV_tups h e1) (h _ _ e2) e3
theorem atD_cons {d e : D} {k : Nat} {p : List Nat} (h : atD d (k :: p) = some e) : ∃ xs, atD d p = some (.tup xs) ∧ xs[k]? = some e := by
  have h : (match atD d p with
    | some (.tup xs) => xs[k]?
    | _ => none) = some e := h
  split at h
  · rename_i xs e1
    exact ⟨xs, e1, h⟩
  · cases h
theorem rep_at {p : Addr} {F : Addr → Prop} {H : Hp} {d : D} {v : V} (R : Rep p F H d v) : ∀ {q : List Nat} {e : D}, atD d q = some e → ∃ w, atV H v q = some w ∧ Rep p F H e w
  | [], e, h => by cases h; exact ⟨v, rfl, R⟩
  | k :: q, e, h => by
    obtain ⟨xs, h1, h2⟩ := atD_cons h
    obtain ⟨w, e1, t, ws, rfl, ht, _, rs⟩ := rep_at R h1
    obtain ⟨u, e2, ru⟩ := rs.get h2
    exact ⟨u, atV_of e1 ht e2, ru⟩
section
variable {c : Ctx} {F F' : Addr → Prop} {r : Env} {σ : L2.St} {H H' : Hp}
theorem OwnD.same {p : Addr} {a : Addr} {d : D} (s : Same H H') (h : OwnD p F H a d) : OwnD p F H' a d := by
  cases d with
  | lst ds =>
    obtain ⟨xs, e, l, q⟩ := h
    exact ⟨xs, s _ _ e, l, Reps.step (Step.of_same s) _ _ q⟩
  | dic ds =>
    obtain ⟨xs, e, l, q⟩ := h
    exact ⟨xs, s _ _ e, l, Repk.step (Step.of_same s) _ _ q⟩
  | _ => exact h
theorem OwnD.step {p : Addr} {a : Addr} {d : D} (s : Step F H F' H') (k : ∀ o, H a = some o → H' a = some o) (h : OwnD p F H a d) : OwnD p F' H' a d := by
  cases d with
  | lst ds =>
    obtain ⟨xs, e, l, q⟩ := h
    exact ⟨xs, k _ e, l, Reps.step s _ _ q⟩
  | dic ds =>
    obtain ⟨xs, e, l, q⟩ := h
    exact ⟨xs, k _ e, l, Repk.step s _ _ q⟩
  | _ => exact h
def heldD : D → Bool
  | .lst _ => true
  | .dic _ => true
  | _ => false
def ownO : HO → Prop
  | .lst _ => True
  | .dK _ => True
  | _ => False
theorem OwnD.there {p : Addr} {a : Addr} {d : D} (h : OwnD p F H a d) : ∃ o, heldD d = true ∧ ownO o ∧ H a = some o := by
  cases d with
  | lst ds =>
    obtain ⟨xs, e, l, q⟩ := h
    exact ⟨_, rfl, (show ownO (.lst xs) from trivial), e⟩
  | dic ds =>
    obtain ⟨xs, e, l, q⟩ := h
    exact ⟨_, rfl, (show ownO (.dK xs) from trivial), e⟩
  | _ => exact False.elim h
theorem OwnD.rep {p : Addr} {a : Addr} {d : D} (h : OwnD p F H a d) (f : F a) : Rep p F H d (.ref a) := by
  cases d with
  | lst ds =>
    obtain ⟨xs, e, l, q⟩ := h
    exact ⟨a, xs, rfl, f, e, l, q⟩
  | dic ds =>
    obtain ⟨xs, e, l, q⟩ := h
    exact ⟨a, xs, rfl, f, .inl e, l, q⟩
  | _ => exact False.elim h
theorem OwnD.top {p : Addr} {a : Addr} {d : D} (h : OwnD p F H a d) : Top p F H d (.ref a) := by
  cases d with
  | lst ds =>
    obtain ⟨xs, e, l, q⟩ := h
    exact ⟨a, xs, rfl, e, l, q⟩
  | dic ds =>
    obtain ⟨xs, e, l, q⟩ := h
    exact ⟨a, xs, rfl, .inl e, l, q⟩
  | _ => exact False.elim h
theorem PenAt.same {p c0 : Addr} (s : Same H H') (h : PenAt p c0 H) : PenAt p c0 H' := by
  obtain ⟨cells, at_, st, h1, h2, h3⟩ := h
  exact ⟨cells, at_, st, s _ _ h1, s _ _ h2, h3⟩
theorem Sim.same (S : Sim c F r σ H) (s : Same H H') : Sim c F r σ H' where
  len := S.len
  slot := fun i t e => by
    have h := S.slot i t e
    cases t with
    | no => trivial
    | sh d =>
      obtain ⟨v, h1, h2⟩ := h
      exact ⟨v, h1, Rep.step (Step.of_same s) _ _ h2⟩
    | ow d =>
      obtain ⟨a, h1, h2, h3⟩ := h
      exact ⟨a, h1, h2.same s, h3⟩
  sep := S.sep
  frame := fun a o e n => let ⟨o', h1, h2⟩ := S.frame a o e n; ⟨o', s _ _ h1, h2⟩
  fr0 := S.fr0
  fnew := S.fnew
  ftrk := fun a f => let ⟨o, e⟩ := S.ftrk a f; ⟨o, s _ _ e⟩
  pen := S.pen.same s
  npF := S.npF
theorem Sim.h0 (S : Sim c F r σ H) {a : Addr} (h : H a = none) : c.H0 a = none := by
  cases q : c.H0 a with
  | none => rfl
  | some o =>
    by_cases hp : a = c.p
    · obtain ⟨_, _, _, e, _⟩ := S.pen
      rw [← hp, h] at e; cases e
    · obtain ⟨_, h1, _⟩ := S.frame a o q hp
      rw [h1] at h; cases h
theorem Sim.nF (S : Sim c F r σ H) {a : Addr} (h : H a = none) : ¬ F a := fun f => by
  obtain ⟨o, e⟩ := S.ftrk a f
  rw [h] at e; cases e
/-- what an operation gives, in the state -/
theorem Sim.res (S : Sim c F r σ H) {fl : Bool} {d : D} {v : V} (g : Giv c.p F H H' fl d v) : Res c F r σ H' fl d v := by
  cases fl with
  | false => exact g
  | true =>
    obtain ⟨a, e, hn, o⟩ := g
    refine .inl ⟨a, e, o, S.nF hn, S.h0 hn, ?_, ?_, fun i e' hi hs => ?_⟩
    · intro q
      obtain ⟨_, _, _, h1, _⟩ := S.pen
      rw [← q, hn] at h1; cases h1
    · intro q
      obtain ⟨_, _, _, _, h1, _⟩ := S.pen
      rw [← q, hn] at h1; cases h1
    · obtain ⟨b, h1, h2, _⟩ := S.slot i _ hi
      rw [h1] at hs; cases hs
      obtain ⟨_, _, _, h3⟩ := h2.there
      rw [hn] at h3; cases h3
def addF (F : Addr → Prop) (a : Addr) : Addr → Prop := fun b => F b ∨ b = a
theorem step_addF {a : Addr} : Step F H (addF F a) H := ⟨fun _ h => .inl h, fun _ o _ h => ⟨o, h, .refl o⟩, fun _ _ h => h⟩
/-- a list that no one changes any more -/
theorem Sim.addF (S : Sim c F r σ H) {a : Addr} (ho : ∃ o, H a = some o) (h0 : c.H0 a = none) (hp : a ≠ c.p) (hc : a ≠ c.c0) (hn : ∀ (i : Nat) (e : D), r[i]? = some (.ow e) → σ[i]? ≠ some (some (.ref a))) : Sim c (addF F a) r σ H where
  len := S.len
  slot := fun i t e => by
    have h := S.slot i t e
    cases t with
    | no => trivial
    | sh d =>
      obtain ⟨v, h1, h2⟩ := h
      exact ⟨v, h1, Rep.step step_addF _ _ h2⟩
    | ow d =>
      obtain ⟨b, h1, h2, h3, h4⟩ := h
      exact ⟨b, h1, h2.step step_addF fun _ q => q, fun q => q.elim h3 fun z => hn i d e (by rw [← z]; exact h1), h4⟩
  sep := S.sep
  frame := S.frame
  fr0 := fun b q => .inl (S.fr0 b q)
  fnew := fun b q => q.elim (S.fnew b) fun z => .inr (by rw [z]; exact h0)
  ftrk := fun b q => q.elim (S.ftrk b) fun z => by rw [z]; exact ho
  pen := S.pen
  npF := ⟨fun q => q.elim S.npF.1 fun z => hp z.symm, fun q => q.elim S.npF.2 fun z => hc z.symm⟩
theorem step_orF {G : Addr → Prop} : Step F H (orF F G) H := ⟨fun _ h => .inl h, fun _ o _ h => ⟨o, h, .refl o⟩, fun _ _ h => h⟩
theorem Sim.addG (S : Sim c F r σ H) {G : Addr → Prop} (hG : ∀ a, G a → NewG c F r σ H a) : Sim c (orF F G) r σ H where
  len := S.len
  slot := fun i t e => by
    have h := S.slot i t e
    cases t with
    | no => trivial
    | sh d =>
      obtain ⟨v, h1, h2⟩ := h
      exact ⟨v, h1, Rep.step step_orF _ _ h2⟩
    | ow d =>
      obtain ⟨b, h1, h2, h3, h4⟩ := h
      exact ⟨b, h1, h2.step step_orF fun _ q => q, fun q => q.elim h3 fun z => (hG b z).2.2.2.2.2 i d e h1, h4⟩
  sep := S.sep
  frame := S.frame
  fr0 := fun b q => .inl (S.fr0 b q)
  fnew := fun b q => q.elim (S.fnew b) fun z => .inr (hG b z).2.1
  ftrk := fun b q => q.elim (S.ftrk b) fun z => (hG b z).2.2.2.2.1
  pen := S.pen
  npF := ⟨fun q => q.elim S.npF.1 fun z => (hG _ z).2.2.1 rfl, fun q => q.elim S.npF.2 fun z => (hG _ z).2.2.2.1 rfl⟩
/-- a value at hand, frozen -/
theorem Sim.frz (S : Sim c F r σ H) {fl : Bool} {d : D} {v : V} (g : Res c F r σ H fl d v) : ∃ F', Step F H F' H ∧ Sim c F' r σ H ∧ Rep c.p F' H d v := by
  cases fl with
  | false => exact ⟨F, .refl, S, g⟩
  | true =>
    rcases g with ⟨a, e, o, h1, h2, h3, h4, h5⟩ | ⟨ds, G, rfl, hG, R, _⟩
    · subst e
      obtain ⟨oo, _, _, ht⟩ := o.there
      exact ⟨Wa.addF F a, step_addF, S.addF ⟨_, ht⟩ h2 h3 h4 h5, (o.step step_addF fun _ q => q).rep (.inr rfl)⟩
    · exact ⟨orF F G, step_orF, S.addG hG, R⟩
theorem get_set_ne {α : Type} {l : List α} {i j : Nat} {x : α} (h : j ≠ i) : (l.set i x)[j]? = l[j]? := List.getElem?_set_ne (Ne.symm h)
theorem get_set_eq {α : Type} {l : List α} {i : Nat} {x : α} (h : i < l.length) : (l.set i x)[i]? = some x := List.getElem?_set_self h
theorem lt_of_get {α : Type} {l : List α} {i : Nat} {x : α} (h : l[i]? = some x) : i < l.length := (List.getElem?_eq_some_iff.mp h).1
/-- one slot otherwise -/
theorem Sim.reslot (S : Sim c F r σ H) {i : Nat} {s : Sl} {σ' : L2.St} (hl : σ'.length = σ.length) (hne : ∀ j : Nat, j ≠ i → σ'[j]? = σ[j]?) (hs : SlOk c F H σ'[i]? s)
    (hsep : ∀ d, s = .ow d → ∀ a, σ'[i]? = some (some (.ref a)) → ∀ (j : Nat) (e : D), j ≠ i → r[j]? = some (.ow e) → σ[j]? ≠ some (some (.ref a))) : Sim c F (r.set i s) σ' H where
  len := by rw [List.length_set, S.len, hl]
  slot := fun j t e => by
    by_cases h : j = i
    · subst h
      have hj := lt_of_get e
      rw [List.length_set] at hj
      rw [get_set_eq hj] at e
      cases e
      exact hs
    · rw [get_set_ne h] at e
      rw [hne j h]
      exact S.slot j t e
  sep := fun j k a d e hj hk sj sk => by
    by_cases h : j = i
    · by_cases h' : k = i
      · rw [h, h']
      · subst h
        have hl' := lt_of_get hj
        rw [List.length_set] at hl'
        rw [get_set_eq hl'] at hj
        rw [get_set_ne h'] at hk
        rw [hne k h'] at sk
        cases hj
        exact absurd sk (hsep d rfl a sj k e h' hk)
    · by_cases h' : k = i
      · subst h'
        have hl' := lt_of_get hk
        rw [List.length_set] at hl'
        rw [get_set_eq hl'] at hk
        rw [get_set_ne h] at hj
        rw [hne j h] at sj
        cases hk
        exact absurd sj (hsep e rfl a sk j d h hj)
      · rw [get_set_ne h] at hj
        rw [get_set_ne h'] at hk
        rw [hne j h] at sj
        rw [hne k h'] at sk
        exact S.sep j k a d e hj hk sj sk
  frame := S.frame
  fr0 := S.fr0
  fnew := S.fnew
  ftrk := S.ftrk
  pen := S.pen
  npF := S.npF
/-- a name is read: a list that it alone held is frozen -/
theorem Sim.freeze (S : Sim c F r σ H) {i : Nat} {d : D} (hi : r[i]? = some (.ow d)) : ∃ F' v, Step F H F' H ∧ σ[i]? = some (some v) ∧ Sim c F' (r.set i (.sh d)) σ H ∧ Rep c.p F' H d v := by
  obtain ⟨a, h1, h2, h3, h4, h5, h6⟩ := S.slot i _ hi
  obtain ⟨oo, _, _, ht⟩ := h2.there
  have h7 : c.H0 a = none := h4
  have hlt := lt_of_get hi
  have S1 : Sim c F (r.set i .no) σ H := S.reslot rfl (fun _ _ => rfl) (s := .no) trivial fun d e => by cases e
  have S2 := S1.addF (a := a) ⟨_, ht⟩ h7 h5 h6 fun j e hj hs => by
    by_cases h : j = i
    · subst h; rw [get_set_eq hlt] at hj; cases hj
    · rw [get_set_ne h] at hj
      exact h (S.sep j i a e d hj hi hs h1)
  have R : Rep c.p (Wa.addF F a) H d (.ref a) := (h2.step step_addF fun _ q => q).rep (.inr rfl)
  have S3 := S2.reslot (i := i) (s := .sh d) (σ' := σ) rfl (fun _ _ => rfl) ⟨.ref a, h1, R⟩ fun d e => by cases e
  rw [List.set_set] at S3
  exact ⟨_, .ref a, step_addF, h1, S3, R⟩
theorem TokOk.step {t : Tok} {v : V} (s : Step F H F' H') (h : TokOk c F σ H t v) : TokOk c F' σ H' t v := by
  cases t with
  | bor i => exact h
  | val d => exact Rep.step s d v h
theorem Sim.tok (S : Sim c F r σ H) {t : Tok} {v : V} {d : D} (h : TokOk c F σ H t v) (e : tokD r t = some d) : Top c.p F H d v := by
  cases t with
  | val d' => cases e; exact Rep.top h
  | bor i =>
    have e' : slAt r i = some d := e
    unfold slAt at e'
    cases hs : r[i]? with
    | none => rw [hs] at e'; cases e'
    | some s =>
      rw [hs] at e'
      have q := S.slot i s hs
      have h' : σ[i]? = some (some v) := h
      cases s with
      | no => cases e'
      | sh d' =>
        cases e'
        obtain ⟨w, h1, h2⟩ := q
        rw [h'] at h1
        cases h1
        exact h2.top
      | ow d' =>
        cases e'
        obtain ⟨a, h1, h2, _⟩ := q
        rw [h'] at h1
        cases h1
        exact h2.top
def ToksOk (c : Ctx) (F : Addr → Prop) (σ : L2.St) (H : Hp) : List Tok → List V → Prop
  | [], vs => vs = []
  | t :: ts, vs => ∃ v ws, vs = v :: ws ∧ TokOk c F σ H t v ∧ ToksOk c F σ H ts ws
theorem ToksOk.step (s : Step F H F' H') : ∀ {ts : List Tok} {vs : List V}, ToksOk c F σ H ts vs → ToksOk c F' σ H' ts vs
  | [], _, h => h
  | t :: ts, _, h => by
    obtain ⟨v, ws, e, a, b⟩ := h
    exact ⟨v, ws, e, a.step s, ToksOk.step s b⟩
theorem Sim.toks (S : Sim c F r σ H) : ∀ {ts : List Tok} {vs : List V} {ds : List D}, ToksOk c F σ H ts vs → toks r ts = some ds → Tops c.p F H ds vs
  | [], _, ds, h, e => by cases e; exact h
  | t :: ts, _, ds, h, e => by
    obtain ⟨v, ws, rfl, a, b⟩ := h
    unfold Wa.toks at e
    split at e
    · rename_i d ds' h1 h2
      cases e
      exact ⟨v, ws, rfl, S.tok a h1, S.toks b h2⟩
    · cases e
/-- a slot's own list or dict is changed -/
theorem Sim.mutO (S : Sim c F r σ H) {i : Nat} {d d' : D} {o' : HO} {a : Addr} (hi : r[i]? = some (.ow d)) (ha : σ[i]? = some (some (.ref a))) (ho : ∀ st : Step F H F (upd H a o'), OwnD c.p F (upd H a o') a d') :
    Step F H F (upd H a o') ∧ Sim c F (r.set i (.ow d')) σ (upd H a o') := by
  obtain ⟨a', h1, h2, h3, h4, h5, h6⟩ := S.slot i _ hi
  rw [h1] at ha
  cases ha
  obtain ⟨oo, _, hoo, ht⟩ := h2.there
  have st : Step F H F (upd H a o') := by
    refine ⟨fun _ h => h, fun b o f e => ?_, fun b zs e => ?_⟩
    · exact ⟨o, by rw [upd_ne fun z => h3 (by rw [← z]; exact f)]; exact e, .refl o⟩
    · rw [upd_ne fun z => by rw [z, ht] at e; cases e; exact hoo]; exact e
  refine ⟨st, ?_⟩
  refine ⟨by rw [List.length_set]; exact S.len, fun j t e => ?_, fun j k b d1 e1 hj hk sj sk => ?_, fun b o e np => ?_, S.fr0, S.fnew, fun b f => ?_, ?_, S.npF⟩
  · by_cases h : j = i
    · subst h
      have hj := lt_of_get e
      rw [List.length_set] at hj
      rw [get_set_eq hj] at e
      cases e
      exact ⟨a, h1, ho st, h3, h4, h5, h6⟩
    · rw [get_set_ne h] at e
      have q := S.slot j t e
      cases t with
      | no => trivial
      | sh d' =>
        obtain ⟨v, q1, q2⟩ := q
        exact ⟨v, q1, Rep.step st _ _ q2⟩
      | ow d' =>
        obtain ⟨b, q1, q2, q3⟩ := q
        have nb : b ≠ a := fun z => h (S.sep j i a _ _ e hi (by rw [← z]; exact q1) h1)
        exact ⟨b, q1, q2.step st fun o z => by rw [upd_ne nb]; exact z, q3⟩
  · have hj' : ∃ d2, r[j]? = some (.ow d2) := by
      by_cases h : j = i
      · exact ⟨d, by rw [h]; exact hi⟩
      · rw [get_set_ne h] at hj; exact ⟨_, hj⟩
    have hk' : ∃ d2, r[k]? = some (.ow d2) := by
      by_cases h : k = i
      · exact ⟨d, by rw [h]; exact hi⟩
      · rw [get_set_ne h] at hk; exact ⟨_, hk⟩
    obtain ⟨_, hj'⟩ := hj'
    obtain ⟨_, hk'⟩ := hk'
    exact S.sep j k b _ _ hj' hk' sj sk
  · have nba : b ≠ a := by
      intro z
      rw [z, h4] at e; cases e
    rw [upd_ne nba]
    exact S.frame b o e np
  · have nba : b ≠ a := fun z => h3 (by rw [← z]; exact f)
    rw [upd_ne nba]
    exact S.ftrk b f
  · obtain ⟨cells, at_, s_, e1, e2, e3⟩ := S.pen
    exact ⟨cells, at_, s_, by rw [upd_ne (Ne.symm h5)]; exact e1, by rw [upd_ne (Ne.symm h6)]; exact e2, e3⟩
theorem Sim.mut (S : Sim c F r σ H) {i : Nat} {d : D} {ds : List D} {ys : List V} {a : Addr} (hi : r[i]? = some (.ow d)) (ha : σ[i]? = some (some (.ref a))) (hl : ds.length ≤ sizeLine) (hr : Reps c.p F H ds ys) :
    Step F H F (upd H a (.lst ys)) ∧ Sim c F (r.set i (.ow (.lst ds))) σ (upd H a (.lst ys)) := S.mutO hi ha fun st => ⟨ys, upd_same, hl, Reps.step st _ _ hr⟩
/-- the pen is turned -/
theorem Sim.drawn (S : Sim c F r σ H) {at_ st : Int} (h0 : 0 ≤ at_) : Step F H F (upd H c.p (.lst [.ref c.c0, .int at_, .int st])) ∧ Sim c F r σ (upd H c.p (.lst [.ref c.c0, .int at_, .int st])) := by
  obtain ⟨cells, a0, s0, e1, e2, e3⟩ := id S.pen
  have st' : Step F H F (upd H c.p (.lst [.ref c.c0, .int at_, .int st])) := by
    refine ⟨fun _ h => h, fun b o f e => ?_, fun b zs e => ?_⟩
    · exact ⟨o, by rw [upd_ne fun z => S.npF.1 (by rw [← z]; exact f)]; exact e, .refl o⟩
    · rw [upd_ne fun z => by rw [z, e1] at e; cases e]; exact e
  refine ⟨st', S.len, fun j t e => ?_, S.sep, fun b o e np => by rw [upd_ne np]; exact S.frame b o e np, S.fr0, S.fnew, fun b f => ?_, ?_, S.npF⟩
  · have q := S.slot j t e
    cases t with
    | no => trivial
    | sh d' =>
      obtain ⟨v, q1, q2⟩ := q
      exact ⟨v, q1, Rep.step st' _ _ q2⟩
    | ow d' =>
      obtain ⟨b, q1, q2, q3, q4, q5, q6⟩ := q
      exact ⟨b, q1, q2.step st' fun o z => by rw [upd_ne q5]; exact z, q3, q4, q5, q6⟩
  · rw [upd_ne fun z => S.npF.1 (by rw [← z]; exact f)]; exact S.ftrk b f
  · exact ⟨cells, at_, st, upd_same, by rw [upd_ne (Ne.symm (PenAt.ne S.pen))]; exact e2, h0, e3.2⟩
/-- a dict is locked -/
theorem Sim.lock (S : Sim c F r σ H) {a : Addr} {kvs : List (Key × V)} (f : F a) (h : H a = some (.dK kvs)) (q : Obj) : Step F H F (upd H a (.frz q (.dK kvs))) ∧ Sim c F r σ (upd H a (.frz q (.dK kvs))) := by
  have st : Step F H F (upd H a (.frz q (.dK kvs))) := by
    refine ⟨fun _ h => h, fun b o fb e => ?_, fun b zs e => ?_⟩
    · by_cases z : b = a
      · subst z
        rw [h] at e
        cases e
        exact ⟨_, upd_same, .dk _ _⟩
      · exact ⟨o, by rw [upd_ne z]; exact e, .refl o⟩
    · rw [upd_ne fun z => by rw [z, h] at e; cases e]; exact e
  refine ⟨st, S.len, fun j t e => ?_, S.sep, fun b o e np => ?_, S.fr0, S.fnew, fun b fb => ?_, ?_, S.npF⟩
  · have q := S.slot j t e
    cases t with
    | no => trivial
    | sh d' =>
      obtain ⟨v, q1, q2⟩ := q
      exact ⟨v, q1, Rep.step st _ _ q2⟩
    | ow d' =>
      obtain ⟨b, q1, q2, q3, q4⟩ := q
      exact ⟨b, q1, q2.step st fun o z => by rw [upd_ne fun z => q3 (by rw [z]; exact f)]; exact z, q3, q4⟩
  · obtain ⟨o', e1, l, k⟩ := S.frame b o e np
    by_cases z : b = a
    · subst z
      rw [h] at e1
      cases e1
      refine ⟨_, upd_same, l.trans (.dk _ _), ?_⟩
      rcases S.fnew b f with z | z
      · exact .inr z
      · rw [e] at z; cases z
    · exact ⟨o', by rw [upd_ne z]; exact e1, l, k⟩
  · by_cases z : b = a
    · rw [z]; exact ⟨_, upd_same⟩
    · rw [upd_ne z]; exact S.ftrk b fb
  · obtain ⟨cells, at_, s_, e1, e2, e3⟩ := S.pen
    exact ⟨cells, at_, s_, by rw [upd_ne fun z => by rw [z, h] at e1; cases e1]; exact e1, by rw [upd_ne fun z => by rw [z, h] at e2; cases e2]; exact e2, e3⟩
theorem owAt_ok {i : Nat} {xs : List D} (h : owAt r i = some xs) : r[i]? = some (.ow (.lst xs)) := by
  unfold owAt at h
  split at h
  · rename_i ys e
    cases h
    exact e
  · cases h
theorem Sim.at_ow (S : Sim c F r σ H) {i : Nat} {xs : List D} (h : owAt r i = some xs) : ∃ a vs, σ[i]? = some (some (.ref a)) ∧ H a = some (.lst vs) ∧ xs.length ≤ sizeLine ∧ Reps c.p F H xs vs := by
  obtain ⟨a, h1, ⟨vs, h2, h3, h4⟩, _⟩ := S.slot i _ (owAt_ok h)
  exact ⟨a, vs, h1, h2, h3, h4⟩
theorem dicAt_ok {i : Nat} {xs : List (Key × D)} (h : dicAt r i = some xs) : r[i]? = some (.ow (.dic xs)) := by
  unfold dicAt at h
  split at h
  · rename_i ys e
    cases h
    exact e
  · cases h
theorem Sim.at_dic (S : Sim c F r σ H) {i : Nat} {xs : List (Key × D)} (h : dicAt r i = some xs) : ∃ a vs, σ[i]? = some (some (.ref a)) ∧ H a = some (.dK vs) ∧ xs.length ≤ sizeLine ∧ Repk c.p F H xs vs := by
  obtain ⟨a, h1, ⟨vs, h2, h3, h4⟩, _⟩ := S.slot i _ (dicAt_ok h)
  exact ⟨a, vs, h1, h2, h3, h4⟩
theorem tyV_list {K : PySem.W.Frag} {a : Addr} {H : Hp} {vs : List V} (h : H a = some (.lst vs)) : tyV K "list" (.ref a) H := .inl ⟨rfl, vs, SqL.of h⟩
/-! ### everything shared meanwhile -/
theorem shAll_get {j : Nat} {s : Sl} (h : (shAll r)[j]? = some s) : s = .no ∨ ∃ d, s = .sh d ∧ (r[j]? = some (.sh d) ∨ ∃ xs, d = .lst xs ∧ r[j]? = some (.ow (.lst xs))) := by
  unfold shAll at h
  rw [List.getElem?_map] at h
  cases e : r[j]? with
  | none => rw [e] at h; cases h
  | some t =>
    rw [e] at h
    cases t with
    | no => cases h; exact .inl rfl
    | sh d => cases h; exact .inr ⟨_, rfl, .inl rfl⟩
    | ow d => cases d <;> cases h <;> first
        | exact .inl rfl
        | exact .inr ⟨_, rfl, .inr ⟨_, rfl, rfl⟩⟩
theorem unAll_get {j : Nat} {s : Sl} (h : (unAll r)[j]? = some s) : s = .no ∨ r[j]? = some s ∧ ((∃ d, s = .sh d) ∨ ∃ xs, s = .ow (.lst xs)) := by
  unfold unAll at h
  rw [List.getElem?_map] at h
  cases e : r[j]? with
  | none => rw [e] at h; cases h
  | some t =>
    rw [e] at h
    cases t with
    | no => cases h; exact .inl rfl
    | sh d => cases h; exact .inr ⟨rfl, .inl ⟨_, rfl⟩⟩
    | ow d => cases d <;> cases h <;> first
        | exact .inl rfl
        | exact .inr ⟨rfl, .inr ⟨_, rfl⟩⟩
def allF (r : Env) (σ : L2.St) (F : Addr → Prop) : Addr → Prop := fun a => F a ∨ ∃ (i : Nat) (xs : List D), r[i]? = some (.ow (.lst xs)) ∧ σ[i]? = some (some (.ref a))
theorem step_allF : Step F H (allF r σ F) H := ⟨fun _ h => .inl h, fun _ o _ h => ⟨o, h, .refl o⟩, fun _ _ h => h⟩
theorem Sim.ow_at (S : Sim c F r σ H) {i : Nat} {xs : List D} {a : Addr} (h : r[i]? = some (.ow (.lst xs))) (e : σ[i]? = some (some (.ref a))) : (∃ vs, H a = some (.lst vs) ∧ xs.length ≤ sizeLine ∧ Reps c.p F H xs vs) ∧ ¬ F a ∧ c.H0 a = none ∧ a ≠ c.p ∧ a ≠ c.c0 := by
  obtain ⟨b, h1, h2, h3⟩ := S.slot i _ h
  rw [e] at h1
  cases h1
  exact ⟨h2, h3⟩
theorem Sim.shareAll (S : Sim c F r σ H) : Sim c (allF r σ F) (shAll r) σ H where
  len := by unfold shAll; rw [List.length_map]; exact S.len
  slot := fun i s e => by
    rcases shAll_get e with rfl | ⟨d, rfl, e2 | ⟨xs, rfl, e2⟩⟩
    · trivial
    · obtain ⟨v, h1, h2⟩ := S.slot i _ e2
      exact ⟨v, h1, Rep.step step_allF _ _ h2⟩
    · obtain ⟨a, h1, ⟨vs, h2, h3, h4⟩, _⟩ := S.slot i _ e2
      exact ⟨.ref a, h1, a, vs, rfl, .inr ⟨i, xs, e2, h1⟩, h2, h3, Reps.step step_allF _ _ h4⟩
  sep := fun i j a d e hi _ _ _ => by
    rcases shAll_get hi with q | ⟨_, q, _⟩ <;> cases q
  frame := S.frame
  fr0 := fun a h => .inl (S.fr0 a h)
  fnew := fun a h => h.elim (S.fnew a) fun ⟨i, xs, h1, h2⟩ => .inr (S.ow_at h1 h2).2.2.1
  ftrk := fun a h => h.elim (S.ftrk a) fun ⟨i, xs, h1, h2⟩ => let ⟨⟨vs, z, _⟩, _⟩ := S.ow_at h1 h2; ⟨_, z⟩
  pen := S.pen
  npF := ⟨fun h => h.elim S.npF.1 fun ⟨i, xs, h1, h2⟩ => (S.ow_at h1 h2).2.2.2.1 rfl, fun h => h.elim S.npF.2 fun ⟨i, xs, h1, h2⟩ => (S.ow_at h1 h2).2.2.2.2 rfl⟩
/-- behind it each holds its own again -/
theorem Sim.unshare {r' : Env} {σ' : L2.St} (S : Sim c F r σ H) (st : Step (allF r σ F) H F' H') (S' : Sim c F' r' σ' H') : Step F H F H' ∧ Sim c F (unAll r) σ H' := by
  have st2 : Step F H F H' := ⟨fun _ h => h, fun a o f e => st.keep a o (.inl f) e, st.tups⟩
  refine ⟨st2, ?_⟩
  refine { len := by unfold unAll; rw [List.length_map]; exact S.len, slot := fun i s e => ?_, sep := fun i j a d e hi hj si sj => ?_, frame := S'.frame, fr0 := S.fr0, fnew := S.fnew, ftrk := fun a f => ?_, pen := S'.pen, npF := S.npF }
  · rcases unAll_get e with rfl | ⟨e2, ⟨d, rfl⟩ | ⟨xs, rfl⟩⟩
    · trivial
    · obtain ⟨v, h1, h2⟩ := S.slot i _ e2
      exact ⟨v, h1, Rep.step st2 _ _ h2⟩
    · obtain ⟨a, h1, ⟨vs, h2, h3, h4⟩, h5⟩ := S.slot i _ e2
      exact ⟨a, h1, ⟨vs, st.lst (.inr ⟨i, xs, e2, h1⟩) h2, h3, Reps.step st2 _ _ h4⟩, h5⟩
  · rcases unAll_get hi with q | ⟨q1, _⟩
    · cases q
    · rcases unAll_get hj with q | ⟨q2, _⟩
      · cases q
      · exact S.sep i j a d e q1 q2 si sj
  · obtain ⟨o, e⟩ := S.ftrk a f
    obtain ⟨o', e', _⟩ := st.keep a o (.inl f) e
    exact ⟨o', e'⟩
mutual
theorem Rep.noL {p : Addr} : ∀ (d : D) (v : V), noLst d = true → Rep p F' H d v → Rep p F H d v
  | .non, _, _, h => h
  | .bl _, _, _, h => h
  | .int _, _, _, h => h
  | .str _, _, _, h => h
  | .tup ds, v, n, h => by
    obtain ⟨a, xs, e, q, l, k⟩ := h
    exact ⟨a, xs, e, q, l, Reps.noL ds xs n k⟩
  | .lst _, _, n, _ => by cases n
  | .dic _, _, n, _ => by cases n
  | .pen, _, n, _ => by cases n
  | .exc _ _, _, n, _ => by cases n
theorem Reps.noL {p : Addr} : ∀ (ds : List D) (vs : List V), noLsts ds = true → Reps p F' H ds vs → Reps p F H ds vs
  | [], _, _, h => h
  | d :: ds, xs, n, h => by
    have n : (noLst d && noLsts ds) = true := n
    rw [Bool.and_eq_true] at n
    obtain ⟨v, vs, e, a, b⟩ := h
    exact ⟨v, vs, e, Rep.noL d v n.1 a, Reps.noL ds vs n.2 b⟩
end
theorem Res.noL {fl : Bool} {d : D} {v : V} {r' : Env} {σ' : L2.St} (n : noLst d = true) (h : Res c F' r' σ' H fl d v) : Rep c.p F H d v := by
  cases fl with
  | false => exact Rep.noL d v n h
  | true =>
    rcases h with ⟨a, _, o, _⟩ | ⟨ds, G, rfl, hG, R, _⟩
    · cases d <;> first
        | exact False.elim o
        | (cases n; done)
    · exact Rep.noL _ v n R
end
end Wa

/-! min of a list of tuples of whole numbers: the first of the least -/
namespace Wa
open PySem PySem.Spec PyProof.Rows L2
open PySem.W (Tup minOf Holds HoldAll DatumOrd)
variable [CM]
theorem ltT_eq : ∀ a b : List Int, ltT a b = DatumOrd.lt (Tup.mk a) (Tup.mk b)
  | [], [] => rfl
  | [], _ :: _ => rfl
  | _ :: _, [] => rfl
  | x :: xs, y :: ys => by
    have ih := ltT_eq xs ys
    show (if x = y then ltT xs ys else decide (x < y)) = if x = y then DatumOrd.lt (Tup.mk xs) (Tup.mk ys) else DatumOrd.lt x y
    rw [ih]
    rfl
theorem minTs_eq (t : List Int) (ts : List (List Int)) : minTs (t :: ts) = (minOf (Tup.mk t) (ts.map Tup.mk)).items := by
  show ts.foldl (fun a y => if ltT y a = true then y else a) t = ((ts.map Tup.mk).foldl (fun a y => if DatumOrd.lt y a = true then y else a) (Tup.mk t)).items
  induction ts generalizing t with
  | nil => rfl
  | cons u ts ih =>
    rw [List.map_cons, List.foldl_cons, List.foldl_cons, ih, ltT_eq]
    cases DatumOrd.lt (Tup.mk u) (Tup.mk t) <;> rfl
def rMinTs (K : PySem.W.Frag) : List V → Hp → VK → Prop := fun vs H Q => ∃ (a : Addr) (bs : List V) (ts : List (List Int)), vs = [V.ref a] ∧ SqL K H a bs ∧ ts ≠ [] ∧ bs.length = ts.length ∧
  (∀ (i : Nat) (b : V) (t : List Int), bs[i]? = some b → ts[i]? = some t → ∃ l, b = V.ref l ∧ SqT K H l (t.map V.int)) ∧ ∀ (i : Nat) (b : V), bs[i]? = some b → ts[i]? = some (minTs ts) → Q b H
theorem cr_minTs {X : Cx} (hc : X.calm = true) (hu : X.A.units + 3 < cLine) : CallR X (.builtin "min") (rMinTs X.K) := by
  intro pins s σ H vs us Q I r h
  obtain ⟨a, bs, ts, rfl, hs, hne, hlen, hts, q⟩ := h
  rw [Vals.ref1 r]
  obtain ⟨its, rv, hl, _⟩ := I.list hs
  have key : ∀ (bs : List V) (ts : List (List Int)) (its : List Value), Vals bs its → bs.length = ts.length → (∀ (i : Nat) (b : V) (t : List Int), bs[i]? = some b → ts[i]? = some t → ∃ l, b = V.ref l ∧ SqT X.K H l (t.map V.int)) → HoldAll s.heap its (ts.map Tup.mk) := by
    intro bs
    induction bs with
    | nil =>
      intro ts its rv hl _
      cases rv
      cases ts with
      | nil => exact .nil
      | cons _ _ => cases hl
    | cons b bs ih =>
      intro ts its rv hl hh
      cases ts with
      | nil => cases hl
      | cons t ts =>
        cases rv with
        | cons r0 r1 =>
          obtain ⟨l, rfl, hT⟩ := hh 0 b t rfl rfl
          cases r0
          obtain ⟨js, rj, ht, _⟩ := I.tuple hT
          exact .cons (PySem.W.holds_tup (show s.heap.IsTuple l js.toArray from ht) (.of_ints rj.ints)) (ih ts _ r1 (by simpa using hl) fun i b t e1 e2 => hh (i + 1) b t e1 e2)
  have vget : ∀ (bs : List V) (its : List Value), Vals bs its → ∀ (i : Nat) (v : Value), its[i]? = some v → ∃ b, bs[i]? = some b ∧ RelV b v := by
    intro bs
    induction bs with
    | nil => intro its rv i v e; cases rv; cases e
    | cons b bs ih =>
      intro its rv i v e
      cases rv with
      | cons r0 r1 =>
        cases i with
        | zero => cases e; exact ⟨b, rfl, r0⟩
        | succ i => exact ih _ r1 i v e
  have H0 := key bs ts its rv hlen hts
  cases ts with
  | nil => exact absurd rfl hne
  | cons t ts =>
    refine PySem.W.min_list_datum (x := Tup.mk t) (xs := ts.map Tup.mk) (I.ok.hd hc) hl.isList H0 (show X.A.units + 1 + (0 + 1) < cLine by omega) fun i v h' tk hi hh hk => ?_
    have hi : its[i]? = some v := by simpa using hi
    obtain ⟨b, eb, rb⟩ := vget bs its rv i v hi
    obtain ⟨x, ex, hx⟩ := H0.at hi
    have e : x = minOf (Tup.mk t) (ts.map Tup.mk) := by
      obtain ⟨as, ra⟩ := hx.keeps hk
      obtain ⟨as2, ra2⟩ := hh
      have e := PySem.W.alike_unique _ _ _ _ _ (DatumOrd.alike x (minOf (Tup.mk t) (ts.map Tup.mk))) ra ra2
      have e2 := PySem.W.Datum.eqv x (minOf (Tup.mk t) (ts.map Tup.mk))
      rw [e, PySem.W.Datum.eqv, decide_eq_true rfl] at e2
      exact of_decide_eq_true e2.symm
    refine ⟨b, H, I.kept hk, rb, q i b eb ?_⟩
    rw [List.getElem?_map] at ex
    cases e3 : (t :: ts)[i]? with
    | none => rw [e3] at ex; cases ex
    | some u =>
      rw [e3] at ex
      have ex : some (Tup.mk u) = some x := ex
      injection ex with ex
      rw [minTs_eq, ← e, ← ex]
theorem reps_map_int {p : Addr} {F : Addr → Prop} {H : Hp} : ∀ {ns : List Int}, Reps p F H (ns.map D.int) (ns.map V.int)
  | [] => rfl
  | n :: ns => ⟨.int n, ns.map V.int, rfl, rfl, reps_map_int⟩
theorem k_minT {K : PySem.W.Frag} : CallOk (rMinTs K) pMinT := by
  intro p F H ds vs fl d Q ht hk hq
  unfold pMinT at hk
  split at hk
  · rename_i xs
    cases q : intssD xs with
    | none => rw [q] at hk; cases hk
    | some kss =>
      rw [q] at hk
      have hk : (if kss.length = 0 then none else some (false, D.tup ((minTs kss).map .int))) = some (fl, d) := hk
      split at hk
      · cases hk
      · rename_i hn
        cases hk
        obtain ⟨v, rfl, t⟩ := tops1 ht
        obtain ⟨a, ys, rfl, e, l, r⟩ := top_lst t
        obtain ⟨ks, rfl, rfl, h3, h4⟩ := intssD_of q r
        refine ⟨a, _, ks.map (·.2), rfl, SqL.of e, fun z => hn (by rw [z]; rfl), by rw [List.length_map, List.length_map], fun i b t e1 e2 => ?_, fun i b e1 e2 => ?_⟩
        · rw [List.getElem?_map] at e1 e2
          cases e3 : ks[i]? with
          | none => rw [e3] at e1; cases e1
          | some q =>
            rw [e3] at e1 e2
            cases e1
            cases e2
            exact ⟨q.1, rfl, SqT.of (h4 q (List.mem_of_getElem? e3)).1⟩
        · rw [List.getElem?_map] at e1 e2
          cases e3 : ks[i]? with
          | none => rw [e3] at e1; cases e1
          | some q =>
            rw [e3] at e1 e2
            cases e1
            have e2 : q.2 = minTs (ks.map (·.2)) := Option.some.inj e2
            obtain ⟨g1, g2⟩ := h4 q (List.mem_of_getElem? e3)
            exact hq _ _ (Same.refl _) (.val ⟨q.1, q.2.map V.int, rfl, g1, by rw [List.length_map, ← e2]; exact g2, by rw [← e2]; exact reps_map_int⟩)
  · cases hk
end Wa

set_option maxHeartbeats 4000000
/-! the text against the tree of it, and what its run shows -/
namespace Wa
open PySem PySem.Spec PyProof.Rows L2

/-! ### looks at the text -/
structure SG where
  U : String → Option Fn
  cs : List (Str × Int)
  mu : Bool := false
  ex : List Str := []
def isVis (sc : Scope) (x : Str) : Bool := match sc.names.lookup x with
  | some .local => true
  | some .cell => true
  | some .free => true
  | _ => false
def isGl (sc : Scope) (x : Str) : Bool := match sc.names.lookup x with
  | some .globalImplicit => true
  | _ => false
def isLc (sc : Scope) (x : Str) : Bool := match sc.names.lookup x with
  | some .local => true
  | some .cell => true
  | _ => false
def okNm (x : Str) : Bool := !(x == ("__debug__" : Str)) && !(x == ("__classdict__" : Str)) && decide (x ≠ "__name__")
def cstOk : D → Const → Bool
  | .int i, .int j => decide (i = j)
  | .bl a, .bool b => decide (a = b)
  | .non, .none => true
  | .str a, .str b => decide (a = b)
  | _, _ => false
def plainE : Expr → Bool
  | .Starred _ _ => false
  | .Slice _ _ _ _ => false
  | _ => true
def testE : Expr → Bool
  | .UnaryOp .Not _ _ => false
  | .BoolOp _ _ _ => false
  | .IfExp _ _ _ _ => false
  | .Compare _ _ _ _ => false
  | _ => true
def notSet : Expr → Bool
  | .Set _ _ _ => false
  | _ => true
def cmpE : Expr → Bool
  | .UnaryOp .Not _ _ => false
  | .BoolOp _ _ _ => false
  | .IfExp _ _ _ _ => false
  | _ => true
def biName : P → Option Str
  | .len => some "len"
  | .all => some "all"
  | .any => some "any"
  | .tuple => some "tuple"
  | .list => some "list"
  | .sorted => some "sorted"
  | .sum => some "sum"
  | .max2 => some "max"
  | .min2 => some "min"
  | .max1 => some "max"
  | .min1 => some "min"
  | .minT => some "min"
  | .abs => some "abs"
  | .toInt => some "int"
  | .toStr => some "str"
  | _ => none
def opIs : P → Operator → Bool
  | .add, .Add => true
  | .sub, .Sub => true
  | .mul, .Mult => true
  | .mod, .Mod => true
  | .fdiv, .FloorDiv => true
  | .pow, .Pow => true
  | _, _ => false
def cmpIs : P → CmpOp → Bool
  | .eq, .Eq => true
  | .ne, .NotEq => true
  | .lt, .Lt => true
  | .le, .LtE => true
  | .gt, .Gt => true
  | .ge, .GtE => true
  | .inn, .In => true
  | .nin, .NotIn => true
  | .isN, .Is => true
  | .isnN, .IsNot => true
  | .isB, .Is => true
  | .isnB, .IsNot => true
  | _, _ => false
def unIs : P → UnaryOp → Bool
  | .neg, .USub => true
  | _, _ => false
def isYes : T → Bool
  | .yes => true
  | _ => false
/-- a name or a part of a thing -/
def isNS : Expr → Bool
  | .Name _ _ => true
  | .Subscript _ _ _ => true
  | _ => false
mutual
def chPat (N : List Str) (wr : List Str) : Pat → Expr → Bool
  | .nm i, .Name x _ => decide (N[i]? = some x) && wr.contains x
  | .tp ps, .Tuple es _ _ => chPats N wr ps es
  | _, _ => false
def chPats (N : List Str) (wr : List Str) : List Pat → List Expr → Bool
  | [], [] => true
  | p :: ps, e :: es => plainE e && chPat N wr p e && chPats N wr ps es
  | _, _ => false
end
mutual
def pslots : Pat → List Nat
  | .nm i => [i]
  | .tp ps => pslotss ps
def pslotss : List Pat → List Nat
  | [] => []
  | p :: ps => pslots p ++ pslotss ps
end
def dlNOk (k : Int) : List (Option Expr) → List Expr → Bool
  | [some (.Constant (.int i) _ _)], [.Constant .none _ _] => decide (i = k)
  | _, _ => false
def litOk : List (Str × Int) → List (Option Expr) → List Expr → Bool
  | [], [], [] => true
  | (k, v) :: r, some (.Constant (.str s) _ _) :: ks, .Constant (.int i) _ _ :: vs => decide (k = s) && decide (v = i) && litOk r ks vs
  | _, _, _ => false
def strsOk : List Str → List Expr → Bool
  | [], [] => true
  | k :: r, .Constant (.str s) _ _ :: es => decide (k = s) && strsOk r es
  | _, _ => false
def litsOk : List (Str × List Str) → List (Option Expr) → List Expr → Bool
  | [], [], [] => true
  | (k, l) :: r, some (.Constant (.str s) _ _) :: ks, .Tuple es _ _ :: vs => decide (k = s) && (decide (l.length ≤ 1000) && (strsOk l es && litsOk r ks vs))
  | _, _, _ => false
def notLC : Expr → Bool
  | .ListComp _ _ _ _ => false
  | _ => true
def dinIs : P → CmpOp → Bool
  | .din, .In => true
  | .dnin, .NotIn => true
  | _, _ => false
mutual
def chE (G : SG) (N : List Str) : Scope → E → Expr → Bool
  | sc, .var i, .Name x _ => decide (N[i]? = some x) && isVis sc x && okNm x
  | _, .cst d, .Constant k _ _ => cstOk d k
  | sc, .glb x i, .Name y _ => decide (x = y) && isGl sc x && okNm x && decide ((x, i) ∈ G.cs)
  | sc, .bi p os, .Call (.Name f _) (a :: es) [] _ => decide (biName p = some f) && isGl sc f && chOs G N sc os (a :: es)
  | sc, .bop p a b, .BinOp x op y _ => opIs p op && chO G N sc a x && chO G N sc b y
  | sc, .cmp p a b, .Compare x [op] [y] _ => cmpIs p op && !(behindInMarks op y) && chO G N sc a x && chO G N sc b y
  | sc, .una p a, .UnaryOp op x _ => unIs p op && chO G N sc a x
  | sc, .ixx a b, .Subscript x y _ => plainE y && chO G N sc a x && chO G N sc b y
  | sc, .sla a b, .Subscript x (.Slice (some l) none none _) _ => chO G N sc a x && chE G N sc b l
  | sc, .slb a b, .Subscript x (.Slice none (some l) none _) _ => chO G N sc a x && chE G N sc b l
  | sc, .slab a b c, .Subscript x (.Slice (some l) (some u) none _) _ => chO G N sc a x && chE G N sc b l && chE G N sc c u
  | sc, .tupd os, .Tuple es _ _ => chOs G N sc os es
  | sc, .lstd os, .List es _ => chOs G N sc os es
  | sc, .isi t a, .Call (.Name f _) [x, .Name ty _] [] _ => decide (f = ("isinstance" : Str)) && isGl sc f && decide (ty = (tyN t : Str)) && isGl sc ty && plainE x && chO G N sc a x
  | sc, .chn p q a b c, .Compare x [o1, o2] [y, z] _ => cmpIs p o1 && cmpIs q o2 && !(lastMarks [o1, o2] [y, z]) && chO G N sc a x && chO G N sc b y && chE G N sc c z
  | sc, .pur e, x => notLC x && chE G N sc e x
  | _, .dls kvs, .Dict ks vs _ => litsOk kvs ks vs && decide (0 < kvs.length) && decide (kvs.length ≤ 15)
  | sc, .mov i, .Name x _ => decide (N[i]? = some x) && isVis sc x && okNm x
  | sc, .tupp s e, .Tuple [.Constant (.str z) _ _, x] _ _ => decide (s = z) && plainE x && chE G N sc e x
  | sc, .tupm a j c, .Tuple [x, .Name z _, y] _ _ => decide (N[j]? = some z) && isVis sc z && okNm z && plainE x && plainE y && chE G N sc a x && chE G N sc c y
  | sc, .xnew0 c e, .Call (.Name k _) [x] [] _ => decide (c = k) && decide (k ≠ "NoWish") && decide (k ∈ G.ex) && isGl sc k && okNm k && plainE x && chE G N sc e x
  | sc, .xnew1 e, .Call (.Name k _) [x] [] _ => decide (k = "NoWish") && decide (k ∈ G.ex) && isGl sc k && plainE x && chE G N sc e x
  | sc, .calln f a e, .Call (.Name g _) [x, y] [] _ => decide (f ≠ "find_worth") && (match G.U f with | some fn => decide (fn.name = g) | none => false) && isGl sc g && okNm g && plainE x && plainE y && chE G N sc a x && chE G N sc e y
  | sc, .fw s t n q, .Call (.Name g _) [.Name x _, .Name y _, z, .Name u _] [] _ => (match G.U "find_worth" with | some fn => decide (fn.name = g) && decide (fn.ps.length = 4) | none => false) && isGl sc g && okNm g && decide (N[s]? = some x) && isVis sc x && okNm x && decide (N[t]? = some y) && isVis sc y && okNm y && decide (N[q]? = some u) && isVis sc u && okNm u && plainE z && chE G N sc n z
  | sc, .call f os, .Call (.Name g _) es [] _ => decide (f ≠ "find_worth") && (match G.U f with | some fn => decide (fn.name = g) | none => false) && isGl sc g && okNm g && (match es with | [] => false | _ => true) && chOs G N sc os es
  | sc, .draw o n, .Call (.Name g _) [a, b] [] _ => decide (g = ("_law_take" : Str)) && isGl sc g && plainE a && plainE b && chE G N sc o a && chE G N sc n b
  | sc, .anew o, .Call (.Name g _) [a] [] _ => decide (g = ("_law_anew" : Str)) && isGl sc g && plainE a && chE G N sc o a
  | sc, .sset b o, .Call (.Name f _) [.Call (.Name g _) [x] [] _] [] _ => decide (f = (if b = true then ("sorted" : Str) else ("len" : Str))) && isGl sc f && decide (g = ("set" : Str)) && isGl sc g && plainE x && chO G N sc o x
  | sc, .rg1 tp a, .Call (.Name f _) [.Call (.Name g _) [x] [] _] [] _ => decide (f = (if tp = true then ("tuple" : Str) else ("list" : Str))) && isGl sc f && decide (g = ("range" : Str)) && isGl sc g && plainE x && chE G N sc a x
  | sc, .rg2 tp a b, .Call (.Name f _) [.Call (.Name g _) [x, y] [] _] [] _ => decide (f = (if tp = true then ("tuple" : Str) else ("list" : Str))) && isGl sc f && decide (g = ("range" : Str)) && isGl sc g && plainE x && plainE y && chE G N sc a x && chE G N sc b y
  | sc, .cnt a b, .Call (.Attribute (.Name z q) m p2) [y] [] p3 => decide (m = ("count" : Str)) && plainE y && (p2.endLine == p3.line) && chO G N sc a (.Name z q) && chO G N sc b y
  | sc, .exi c o, .Call (.Name f _) [x, .Name k _] [] _ => decide (f = ("isinstance" : Str)) && isGl sc f && isGl sc k && decide (c = k) && (decide (k ∈ G.ex) || decide (k = ("ValueError" : Str))) && okNm k && plainE x && chO G N sc o x
  | sc, .exn o, .Attribute x m _ => decide (m = ("number" : Str)) && isNS x && chO G N sc o x
  | sc, .idx a b, .Call (.Attribute (.Name z q) m p2) [y] [] p3 => decide (m = ("index" : Str)) && plainE y && (p2.endLine == p3.line) && chO G N sc a (.Name z q) && chO G N sc b y
  | sc, .pop i, .Call (.Attribute (.Name z _) m p2) [] [] p3 => decide (m = ("pop" : Str)) && decide (N[i]? = some z) && isVis sc z && okNm z && (p2.endLine == p3.line)
  | sc, .popi i k, .Call (.Attribute (.Name z _) m p2) [y] [] p3 => decide (m = ("pop" : Str)) && plainE y && decide (N[i]? = some z) && isVis sc z && okNm z && (p2.endLine == p3.line) && chE G N sc k y
  | sc, .revx o, .Subscript x (.Slice none none (some (.UnaryOp .USub (.Constant (.int k) _ _) _)) _) _ => decide (k = 1) && chO G N sc o x
  | sc, .and a b, .BoolOp .And [x, y] _ => chE G N sc a x && chE G N sc b y
  | sc, .and a b, .BoolOp .And (x :: y :: z :: r) p => chE G N sc a x && chE G N sc b (.BoolOp .And (y :: z :: r) p)
  | sc, .or a b, .BoolOp .Or [x, y] _ => chE G N sc a x && chE G N sc b y
  | sc, .or a b, .BoolOp .Or (x :: y :: z :: r) p => chE G N sc a x && chE G N sc b (.BoolOp .Or (y :: z :: r) p)
  | sc, .not a, .UnaryOp .Not x _ => chE G N sc a x
  | sc, .ife t a b, .IfExp c x y _ => chT G N sc t c && chE G N sc a x && chE G N sc b y
  | sc, .lc own p it c el, .ListComp e [⟨tg, iter, ifs, asy⟩] scope _ => decide (asy = 0) && blkC N sc scope own && (own.all fun q => isLc scope q.1) && chI G N sc it tg iter && chPat N (own.map (·.1)) p tg && (pslots p).all (fun i => (own.map (·.2)).contains i) &&
      (match ifs with | [] => isYes c | [t] => chT G N (relS scope sc) c t | _ => false) && chE G N (relS scope sc) el e
  | _, .dnew, .Dict [] [] _ => true
  | _, .dlN k, .Dict ks vs _ => dlNOk k ks vs
  | _, .dlit kvs, .Dict ks vs _ => litOk kvs ks vs && decide (0 < kvs.length) && decide (kvs.length ≤ 15)
  | sc, .dmk o, .Call (.Name f _) [x] [] _ => decide (f = ("dict" : Str)) && isGl sc f && plainE x && chO G N sc o x
  | sc, .dix a b, .Subscript x y _ => plainE y && chO G N sc a x && chO G N sc b y
  | sc, .din p a b, .Compare x [op] [y] _ => dinIs p op && !(behindInMarks op y) && chO G N sc a x && chO G N sc b y
  | sc, .dgt a b c, .Call (.Attribute (.Name z q) m p2) [x, y] [] p3 => decide (m = ("get" : Str)) && plainE x && plainE y && (p2.endLine == p3.line) && chO G N sc a (.Name z q) && chO G N sc b x && chO G N sc c y
  | sc, .upper a, .Call (.Attribute (.Name z q) m p2) [] [] p3 => decide (m = ("upper" : Str)) && (p2.endLine == p3.line) && chO G N sc a (.Name z q)
  | sc, .join a b, .Call (.Attribute (.Constant (.str z) j q) m p2) [y] [] p3 => decide (m = ("join" : Str)) && plainE y && (p2.endLine == p3.line) && chO G N sc a (.Constant (.str z) j q) && chO G N sc b y
  | sc, .split a b, .Call (.Attribute (.Name z q) m p2) [y] [] p3 => decide (m = ("split" : Str)) && plainE y && (p2.endLine == p3.line) && chO G N sc a (.Name z q) && chO G N sc b y
  | sc, .dzip a b, .Call (.Name f _) [.Call (.Name g _) [x, y] [] _] [] _ => decide (f = ("dict" : Str)) && isGl sc f && decide (g = ("zip" : Str)) && isGl sc g && plainE x && plainE y && chO G N sc a x && chO G N sc b y
  | sc, .chn3 p q s a b c e, .Compare x [o1, o2, o3] [y, z, u] _ => cmpIs p o1 && cmpIs q o2 && cmpIs s o3 && !(lastMarks [o1, o2, o3] [y, z, u]) && chO G N sc a x && chO G N sc b y && chO G N sc c z && chE G N sc e u
  | _, _, _ => false
def chO (G : SG) (N : List Str) : Scope → O → Expr → Bool
  | sc, .bor i, .Name x _ => decide (N[i]? = some x) && isVis sc x && okNm x
  | sc, .ex e, x => chE G N sc e x
  | _, _, _ => false
def chOs (G : SG) (N : List Str) : Scope → Os → List Expr → Bool
  | _, .nil, [] => true
  | sc, .cons o os, e :: es => plainE e && chO G N sc o e && chOs G N sc os es
  | _, _, _ => false
def chT (G : SG) (N : List Str) : Scope → T → Expr → Bool
  | sc, .val e, x => chE G N sc e x && cmpE x
  | sc, .not t, .UnaryOp .Not x _ => chT G N sc t x
  | sc, .and a b, .BoolOp .And [x, y] _ => chT G N sc a x && chT G N sc b y
  | sc, .and a b, .BoolOp .And (x :: y :: z :: r) p => chT G N sc a x && chT G N sc b (.BoolOp .And (y :: z :: r) p)
  | sc, .or a b, .BoolOp .Or [x, y] _ => chT G N sc a x && chT G N sc b y
  | sc, .or a b, .BoolOp .Or (x :: y :: z :: r) p => chT G N sc a x && chT G N sc b (.BoolOp .Or (y :: z :: r) p)
  | _, _, _ => false
def chI (G : SG) (N : List Str) : Scope → I → Expr → Expr → Bool
  | sc, .rng1 a, _, .Call (.Name f _) [x] [] _ => decide (f = ("range" : Str)) && isGl sc f && plainE x && chE G N sc a x
  | sc, .rng2 a b, _, .Call (.Name f _) [x, y] [] _ => decide (f = ("range" : Str)) && isGl sc f && plainE x && plainE y && chE G N sc a x && chE G N sc b y
  | sc, .zip a b, .Tuple _ _ _, .Call (.Name f _) [x, y] [] _ => decide (f = ("zip" : Str)) && isGl sc f && plainE x && plainE y && chE G N sc a x && chE G N sc b y
  | sc, .zipn a b, .Name _ _, .Call (.Name f _) [x, y] [] _ => decide (f = ("zip" : Str)) && isGl sc f && plainE x && plainE y && chE G N sc a x && chE G N sc b y
  | sc, .ezip a b, .Tuple _ _ _, .Call (.Name f _) [.Call (.Name g _) [x, y] [] _] [] _ => decide (f = ("enumerate" : Str)) && isGl sc f && decide (g = ("zip" : Str)) && isGl sc g && plainE x && plainE y && chE G N sc a x && chE G N sc b y
  | sc, .rng3 a b c, _, .Call (.Name f _) [x, y, z] [] _ => decide (f = ("range" : Str)) && isGl sc f && plainE x && plainE y && plainE z && chE G N sc a x && chE G N sc b y && chE G N sc c z
  | sc, .enum a, .Tuple _ _ _, .Call (.Name f _) [x] [] _ => decide (f = ("enumerate" : Str)) && isGl sc f && plainE x && chE G N sc a x
  | sc, .seq e, _, x => plainE x && notSet x && chE G N sc e x
  | sc, .txt e, _, x => plainE x && notSet x && chE G N sc e x
  | _, _, _, _ => false
end
end Wa

set_option maxHeartbeats 4000000
/-! a suite that is tried, its exception kept in a name; a class whose __init__ calls its base's -/
namespace Wa
open PySem PySem.Spec PyProof.Rows L2
section
variable {X : Cx} {pins : List (Addr × Obj)} {σ : L2.St} {H : Hp} {s : Shared}
/-- an exception's object is looked at from now on -/
theorem inv_track {a : Addr} {cls : Value} {d : Option Addr} {oe : Obj} {vs : Array Value} (I : Inv X pins σ H s) (h0 : X.s_0.heap.get? a = none) (hn : H a = none) (nL : a ≠ X.env.locals) (np : ∀ p ∈ X.pn ++ pins, p.1 ≠ a)
    (e : s.heap.get? a = some oe) (hz : Zc cls d oe) (hd : oe.data = .fields vs) : Inv X pins σ (upd H a (XO cls d a)) s := by
  have n0 : ∀ b o, X.s_0.heap.get? b = some o → b ≠ a := fun b o q z => by rw [z, h0] at q; cases q
  have nc : ∀ x c, X.env.cells.lookup x = some c → c ≠ a := fun x c q z => by
    obtain ⟨v, o, ho, hv⟩ := I.cell x c q
    rw [z, e] at ho
    cases ho
    rw [hd] at hv
    cases hv
  have kp : ∀ b u, H b = some u → upd H a (XO cls d a) b = some u := fun b u q => by rw [upd_ne (ne_of_none q hn)]; exact q
  refine ⟨I.ok, I.os, I.bare, ⟨I.base.keep, I.base.slot, fun b o q n hx => ?_, I.base.there, fun b xs q => kp b _ (I.base.tups b xs q), fun b o u q => kp b _ (I.base.frzs b o u q), fun b ps q => ?_⟩, I.loc, I.cell, ?_, fun x c q => ?_, fun p hp => ?_, fun b u q => ?_, I.len⟩
  · rw [upd_ne (n0 b o q)]
    exact I.base.free b o q n hx
  · obtain ⟨m, z⟩ := I.base.tbls b ps q
    exact ⟨m, kp b _ z⟩
  · rw [upd_ne (Ne.symm nL)]
    exact I.free
  · rw [upd_ne (nc x c q)]
    exact I.freeC x c q
  · obtain ⟨p1, p2, p3⟩ := I.pin p hp
    exact ⟨p1, by rw [upd_ne (np p hp)]; exact p2, p3⟩
  · by_cases hb : b = a
    · subst hb
      rw [upd_same] at q
      cases q
      exact ⟨⟨oe, vs, e, hz, hd⟩, ⟨oe, e⟩, fun h1 h2 ⟨o1, v1, q1, q2⟩ k => ⟨o1, v1, k _ q1, q2⟩⟩
    · rw [upd_ne hb] at q
      exact (I.hok b u q).stay (fun c v _ z => z) (fun c z => kp c _ z) fun c xs z => kp c _ z
end
/-- what is wished of the suite's exception: slot i keeps it -/
def wKeep (K : PySem.W.Frag) (c : Value) (i j : Nat) (Wout : WX) (D : Ends) : WX := fun cls d σ H =>
  ∃ b, PySem.W.exmOne K cls c = some b ∧ (b = true → ∀ a, H a = none → D.nx ((σ.set i (some (.ref a))).set j none) (upd H a (XO cls d a))) ∧ (b = false → Wout cls d σ H)
section
variable {X : Cx} {x n y : Str} {c : Value} {i j : Nat} {body : List Stmt} {np q1 q2 q3 hpos tpos : Pos} {tb : WX → TS} {Wout : WX}
theorem ps_try_keep (hs : X.stack = X.env :: X.outer) (hf : X.env.frame = some X.env.locals) (hex : X.ex = []) (hN : X.N.Nodup) (hj : X.N[j]? = some n) (hi : X.N[i]? = some y) (hij : i ≠ j) (hln : X.env.kindOf n = some .local) (hly : X.env.kindOf y = some .local) (hg1 : (n == ("__debug__" : Str)) = false) (hg2 : (n == ("__classdict__" : Str)) = false)
    (hsw : ∀ env, swapsWith (.Name n q2) (some (.Name y q1)) q3.line env = pure false) (hc : Names X x c) (tk : L2.Takes X Wout)
    (hb : ∀ (W : WX) (pn : List (Addr × Obj)) (xe : Value → Shared → Prop), L2.Takes (X.tr pn xe) W → PassesOwn (model X.prog X.w) X.A X.env xe → PSs (X.tr pn xe) body (tb W)) :
    PS X (.Try body [.ExceptHandler (some (.Name x np)) (some n) [.Assign [.Name y q1] (.Name n q2) q3] hpos] [] [] tpos) (fun D σ H => tb (wKeep X.K c i j Wout D) D σ H) := by
  refine ⟨fun pins s σ H D I h => ?_⟩
  have okX := I.ok
  have fr : X.A.frames = some (X.env :: X.outer) := by rw [okX.frames, hs]
  let hnd := [ExceptHandler.ExceptHandler (some (.Name x np)) (some n) [.Assign [.Name y q1] (.Name n q2) q3] hpos]
  let xe : Value → Shared → Prop := fun e s1 => wpAny (model X.prog X.w) X.A (noteFrame e X.env) (fun _ s2 => wpAny (model X.prog X.w) X.A (setFlight e none) (fun _ s3 => wpAny (model X.prog X.w) X.A (handleBy e X.env hnd) (SP X pins D) X.xe s3) X.xe s2) X.xe s1
  refine wpAny_Try_except (wpAny_mono ((hb (wKeep X.K c i j Wout D) (X.pn ++ pins) xe (fun u s' xx => ?_) PassesOwn.looking).run [] s σ H D (I.toTry _) h) (fun f s1 hsp => ?_) (fun e s1 he => he))
  · obtain ⟨a, B, sI, pins', σ', H', cls, d, rfl, J0, nb, up, sky, na, os, ag, b, hb1, hyes, hno⟩ := xx
    have J : Inv X pins σ' H' sI := J0.ofTry okX
    show wpAny (model X.prog X.w) X.A (noteFrame (.ref a) X.env) _ _ _
    refine Sky.land Zc.steady fr hf (show Sky B (X.env :: X.outer) a (Zc cls d) X.env.locals s'.heap by rw [← hs]; exact sky) fun h3 fl3 up3 => ?_
    have J3 : Inv X pins σ' H' { s' with heap := h3 } := Inv.landed J nb fl3.1 (up.trans up3) os ag
    obtain ⟨oe3, vs3, he3, hz3, hd3⟩ := fl3.there
    have away : a ∉ frs (X.env :: X.outer) := fun hm => by
      obtain ⟨_, o', e', hnf⟩ := fl3.2.2.1.mem hm
      cases he3.symm.trans e'
      exact hnf _ hd3
    have nL : a ≠ X.env.locals := fun z => away (List.mem_filterMap.mpr ⟨X.env, List.mem_cons_self, by rw [hf, z]⟩)
    have nF : a ∉ X.fs := fun hm => by
      obtain ⟨e, he, q⟩ := List.mem_filterMap.mp hm
      exact away (List.mem_filterMap.mpr ⟨e, List.mem_cons_of_mem _ he, q⟩)
    have nI : sI.heap.get? a = none := by
      cases q : sI.heap.get? a with
      | none => rfl
      | some o =>
        have z := nb a o q (by rw [hs]; exact away)
        rw [fl3.2.1] at z; cases z
    have n0 : X.s_0.heap.get? a = none := by
      cases q : X.s_0.heap.get? a with
      | none => rfl
      | some o =>
        obtain ⟨o', q'⟩ := J.base.there a o q (by rw [hex]; exact fun z => nomatch z)
        rw [nI] at q'; cases q'
    have npin : ∀ p ∈ X.pn ++ pins, p.1 ≠ a := fun p hp z => by
      have := (J.pin p hp).1
      rw [z, nI] at this; cases this
    have S3 := J3.suite he3 hd3 na nL nF
    have look := PySem.W.exm_one (M := model X.prog X.w) J3.kIn (fun _ _ _ _ kp q => wpAny_typeOf_ref (kp _ _ he3) (by rw [hz3.1]; exact q)) hb1
    refine wpAny_handleBy_cons (codeAny_handlers_test ?_) (by intro z; cases z)
    have nm : ∀ {Q : Value → Shared → Prop} {E : Value → Shared → Prop}, Q c { s' with heap := h3 } → wpAny (model X.prog X.w) (X.A.mark (some (.ref a))) (eval (.Name x np) X.env) Q E { s' with heap := h3 } := fun {Q E} q => by
      rcases hc with ⟨g, nd, m | ⟨m, bv, nn⟩⟩
      · exact ld_glob (X := X.suite a ((a, oe3) :: (X.pn ++ pins))) S3 g m q nd
      · exact ld_blt (X := X.suite a ((a, oe3) :: (X.pn ++ pins))) S3 g m bv q nn nd
    refine nm (look.here ?_)
    cases b with
    | false =>
      show wpAny _ X.A (handleBy (.ref a) X.env []) _ _ _
      obtain ⟨_, _, _, ob, fv, T, _, _, eo, _, ed, e1, _⟩ := id fl3
      refine wpAny_handleBy_nil ?_
      unfold PySem.passOn
      refine wpAny_bind (wpAny_field eo ed e1 ?_)
      rw [if_neg (show ¬ ((Value.ref T == Value.none) = true) by simp)]
      have out : wpAny (model X.prog X.w) X.A (setFlight (.ref a) X.env.frame) (fun _ z => wpAny (model X.prog X.w) X.A (throw (.ref a) : Sem Flow) (SP X pins D) X.xe z) X.xe { s' with heap := h3 } := by
        rw [hf]
        exact HandSPX.setFlight_upZ fl3 fun h4 hh4 up4 => wpAny_throw (tk _ _ ⟨a, B, sI, pins, σ', H', cls, d, rfl, J, nb, (up.trans up3).trans up4, .inr (.inr (by rw [hs]; exact hh4)), na, os, ag, hno rfl⟩)
      first
        | exact wpAny_bind out
        | exact wpAny_bind (wpAny_pure (wpAny_bind out))
    | true =>
      refine codeAny_handlers_suite_as (HandSPX.lands_againZ fl3 fun h4 fl4 up4 => ?_)
      obtain ⟨oe4, vs4, he4, hz4, hd4⟩ := fl4.there
      have J4 : Inv X pins σ' H' { s' with heap := h4 } := Inv.landed J nb fl4.1 (up.trans (up3.trans up4)) os ag
      have S4 := J4.suite he4 hd4 na nL nF
      refine store_ok (X := X.suite a ((a, oe4) :: (X.pn ++ pins))) (v := .ref a) S4 hN hj (.inl hln) rfl (fun s5 S5 => ?_) (.inr hln)
      have jl : j < σ'.length := by rw [J.len]; exact (List.getElem?_eq_some_iff.mp hj).1
      have pa := (pss_one (ps_set (X := X.suite a ((a, oe4) :: (X.pn ++ pins))) (i := i) hN hi (.inl hly) (pe_var (i := j) (pos := q2) hj (.inl hln) hg1 hg2) (hsw _) (.inr hly))).run [] s5 _ H'
        { nx := fun σ6 H6 => σ6 = (σ'.set j (some (.ref a))).set i (some (.ref a)) ∧ H6 = H', rt := fun _ _ => False } S5 ⟨_, List.getElem?_set_self jl, rfl, rfl⟩
      refine wpAny_mono pa (fun f s6 hsp => ?_) fun _ _ z => False.elim z
      cases f with
      | ret u => obtain ⟨_, _, _, _, _, z⟩ := hsp; exact z.elim
      | brk => obtain ⟨_, _, _, z⟩ := hsp; exact z.elim
      | cont => obtain ⟨_, _, _, z⟩ := hsp; exact z.elim
      | next =>
        obtain ⟨σ6, H6, S6, e1, e2⟩ := hsp
        subst e1 e2
        have P6 : Inv X ((a, oe4) :: pins) ((σ'.set j (some (.ref a))).set i (some (.ref a))) H6 s6 := (S6.unsuite okX).pins_of fun p hp => by
          rcases List.mem_cons.mp hp with e | e
          · rw [e]
            exact S6.pin _ (List.mem_append_left _ List.mem_cons_self)
          · exact (S6.unsuite okX).pin p (List.mem_append_right _ e)
        refine gone_ok P6 hN hj hln fun s7 P7 => ?_
        have J7 : Inv X pins (((σ'.set j (some (.ref a))).set i (some (.ref a))).set j none) H6 s7 := P7.pins_of fun p hp => P7.pin p (List.mem_append_right _ (List.mem_cons_of_mem _ hp))
        have e7 := (P7.pin (a, oe4) (List.mem_append_right _ List.mem_cons_self)).1
        have T := inv_track (cls := cls) (d := d) J7 n0 na nL npin e7 hz4 hd4
        rw [List.set_comm _ _ (Ne.symm hij), List.set_set] at T
        exact ⟨_, _, T, hyes rfl a na⟩
  · cases f with
    | ret u =>
      obtain ⟨v, σ', H', J', r, q⟩ := hsp
      exact ⟨v, σ', H', J'.ofTry okX, r, q⟩
    | next =>
      obtain ⟨σ', H', J', q⟩ := hsp
      exact wpAny_execs_nil ⟨σ', H', J'.ofTry okX, q⟩
    | brk => obtain ⟨σ', H', J', q⟩ := hsp; exact ⟨σ', H', J'.ofTry okX, q⟩
    | cont => obtain ⟨σ', H', J', q⟩ := hsp; exact ⟨σ', H', J'.ofTry okX, q⟩
end
/-! ### a class whose __init__ calls its base's and keeps a number -/
section
variable {X : Cx}
/-- B.__init__(self, ..), B a class of the program that has none of its own -/
theorem pe_binit {Cw : Addr} {b : Str} {e : Expr} {es : List Expr} {ta : TA} {p1 p2 pos : Pos} {pl : Sem Bool} (hg : Gl X b) (hdb : (b == ("__debug__" : Str)) = false) (hm : X.mg b = some (.ref Cw)) (rd : PySem.W.readsIn X.K Cw (.type "type") = true)
    (ga : PySem.W.specialIn X.K (.ref Cw) "__getattribute__" = some (some (.builtin "type.__getattribute__"))) (fc : PySem.W.findCls X.K (.ref Cw) (.type "type") "__init__" = some (.val (.builtin "ValueError.__init__"))) (ha : PA X (e :: es) ta)
    (hc : eval (.Call (.Attribute (.Name b p1) "__init__" p2) (e :: es) [] pos) X.env = (do
      let o ← eval (.Name b p1) X.env
      standAt p2.atName
      let (g, f1) ← holding [o] (getMethod o "__init__" pl)
      callWith pos g f1 (backTo pos (starEach (e :: es) X.env)) (backToKw pos (keywordEach [] X.env))))
    (he : starEach (e :: es) X.env = (false, eval e X.env) :: starEach es X.env) (hpl : (backTo pos (starEach es X.env)).any (·.1) = false) :
    PE X (.Call (.Attribute (.Name b p1) "__init__" p2) (e :: es) [] pos) (tVeI X.K ta) := by
  refine ⟨fun pins s σ H Q I h => PySem.W.methodCall_KW (ld_glob I hg hm ?_ hdb) hc⟩
  refine PySem.W.method_cls I.kIn ga (PySem.W.cls_value I.kIn rd fc (by decide +kernel) ?_)
  show wpAny _ _ (callWith pos (Value.builtin "ValueError.__init__") [] (backTo pos (starEach (e :: es) X.env)) []) _ _ _
  refine PyProof.Rows.callWith_method1 (thn (ha.run pos pins _ σ H _ (I.tok _) h) fun us s1 z => ?_) he hpl
  obtain ⟨vs, H1, I1, r1, a, C, ws, rfl, hl, T, ea, q⟩ := z
  cases r1 with
  | @cons _ u0 _ ur ra rw' =>
    cases (show u0 = Value.ref a from ra)
    exact oinit_ok T I1 ea (by rw [← Paired.length rw', sizeLine_eq]; omega) fun s' J => ⟨.non, H1, J, rfl, q⟩
theorem binit_eq {b s1 m1 : Str} {j1 : Nat} {env : PySem.Env} {p1 p2 p3 p4 pos : Pos} (hl : (p2.endLine == pos.line) = true) : ∃ pl, eval (.Call (.Attribute (.Name b p1) "__init__" p2) [.Name s1 p3, .Constant (.str m1) j1 p4] [] pos) env = (do
      let o ← eval (.Name b p1) env
      standAt p2.atName
      let (g, f1) ← holding [o] (getMethod o "__init__" pl)
      callWith pos g f1 (backTo pos (starEach [.Name s1 p3, .Constant (.str m1) j1 p4] env)) (backToKw pos (keywordEach [] env))) := by
  have hp : methodCallPos true (.Name b p1) env p2 pos = pure pos := by unfold methodCallPos; simp [hl]
  refine ⟨(do return (← importBound (.Name b p1) env).getD true), ?_⟩
  rw [arm_eval_Call]
  unfold methodCall
  rw [show methodCallForm (([.Name s1 p3, .Constant (.str m1) j1 p4] : List Expr).length + ([] : List Keyword).length) (backTo pos (starEach [.Name s1 p3, .Constant (.str m1) j1 p4] env)) (backToKw pos (keywordEach [] env)) = true from rfl, hp]
  rfl
/-- what such an __init__ does -/
def spNw (K : PySem.W.Frag) (f : Str) : Sp := fun vs H Q _ => ∃ (a C : Addr) (i : V), vs = [.ref a, i] ∧ OexC K C ∧ PySem.W.findIn K (.ref C) f = some none ∧ H a = some (exo a C none) ∧ ∀ dx, H dx = none → dx ≠ a → Q .non (upd (upd H dx (exd dx [(f, i)])) a (exo a C (some dx)))
/-- its text -/
def isInit (b f : Str) : List Stmt → Bool
  | [.Expr (.Call (.Attribute (.Name b1 _) i p2) [.Name s1 _, .Constant (.str _) _ _] [] p5) _, .Assign [.Attribute (.Name s2 _) f1 _] (.Name f2 _) _] => decide (b1 = b) && decide (i = ("__init__" : Str)) && decide (s1 = ("self" : Str)) && decide (s2 = ("self" : Str)) && decide (f1 = f) && decide (f2 = f) && (p2.endLine == p5.line)
  | _ => false
theorem nw_ok {P : Program} {w : World} {K : PySem.W.Frag} {mg : Str → Option Value} {base : Heap} {qn b f : Str} {st : Stmt} {fI Cw : Addr} {fd : FuncData} (F : Fun K "__init__" qn st fI fd) (sc : FnScope ["self", f] ["self", f] (defScope st)) (ht : isInit b f (defBody st) = true)
    (hm : mg b = some (.ref Cw)) (rd : PySem.W.readsIn K Cw (.type "type") = true) (ga : PySem.W.specialIn K (.ref Cw) "__getattribute__" = some (some (.builtin "type.__getattribute__"))) (fc : PySem.W.findCls K (.ref Cw) (.type "type") "__init__" = some (.val (.builtin "ValueError.__init__")))
    (hg : (defScope st).names.lookup b = some .globalImplicit) (hdb : (b == ("__debug__" : Str)) = false) (hf1 : (f == ("__debug__" : Str)) = false) (hf2 : (f == ("__classdict__" : Str)) = false) (v0 : Vis (defScope st) "self") (v1 : Vis (defScope st) f) :
    FnOk P w K mg base (L2.CX P w) 1 fI fd ["self", f] (spNw K f) := by
  unfold isInit at ht
  split at ht
  · rename_i b1 p1 i1 p2 s1 p3 m1 j1 p4 p5 p6 s2 p7 f1 p8 f2 p9 p10 hbody
    simp only [Bool.and_eq_true, decide_eq_true_eq] at ht
    obtain ⟨⟨⟨⟨⟨⟨rfl, rfl⟩, rfl⟩, rfl⟩, rfl⟩, rfl⟩, hl⟩ := ht
    refine F.okX sc (fun vs H Q E h => ?_) (fun cdv A outer s H vs Q E hr h => ?_)
    · obtain ⟨_, _, _, rfl, _⟩ := h
      rfl
    · obtain ⟨a, C, i, rfl, T, hno, ea, q⟩ := h
      rw [hbody]
      obtain ⟨pl, hc⟩ := binit_eq (b := b1) (s1 := "self") (m1 := m1) (j1 := j1) (p1 := p1) (p3 := p3) (p4 := p4) (env := (cxOf (L2.CX P w) P w K mg base ["self", f2] qn (defScope st) fI cdv A outer s H E).env) hl
      refine ⟨_, pss_cons (ps_expr (pe_binit hg hdb hm rd ga fc (pa_cons (pe_var (i := 0) rfl v0 (by decide +kernel) (by decide +kernel)) (pa_cons pe_str pa_nil rfl) rfl) hc rfl rfl) rfl) (pss_one (ps_ost (pe_var (i := 0) rfl v0 (by decide +kernel) (by decide +kernel)) (pe_var (i := 1) rfl v1 hf1 hf2) rfl)), ?_⟩
      refine ⟨_, rfl, a, C, [_], rfl, (show 1 ≤ 1000 by decide), T, ea, ?_⟩
      exact ⟨_, rfl, _, rfl, a, C, rfl, T, hno, .inl ⟨ea, fun dx n ne => q dx n ne⟩⟩
  · cases ht
end
end Wa

/-! each construct: its rule of the layer, and that its reading follows from the tree's run -/
namespace Wa
open PySem PySem.Spec PyProof.Rows L2
variable [CM]

structure Wd where
  G : SG
  N : List Str
  prog : Program
  w : World
  K : PySem.W.Frag
  mg : Str → Option Value
  base : Heap
  A : Around
  n : Nat
  wx : WX
/-- a place in the text of a def (or of a comprehension's block) -/
structure XOK (W : Wd) (sc : Scope) (X : Cx) : Prop where
  sc : X.env.scope = sc
  N : X.N = W.N
  pr : X.prog = W.prog
  w : X.w = W.w
  K : X.K = W.K
  mg : X.mg = W.mg
  base : X.base = W.base
  A : X.A = W.A
  calm : X.calm = true
  tk : L2.Takes X W.wx
/-- an exception's own dict -/
def XD (F : Addr → Prop) (H : Hp) (n : Option Int) (d : Option Addr) : Prop := match n with
  | none => d = none
  | some i => ∃ dx, d = some dx ∧ F dx ∧ H dx = some (.xd [(("number" : Str), .int i)])
/-- what is wished of the tree's exceptions is what the place wishes -/
class XpOk (W : Wd) (xp : D → Env → Prop) (c : Ctx) (σ : L2.St) : Prop where
  ok : ∀ (cn : Str) (n : Option Int) (F : Addr → Prop) (r : Env) (H : Hp) (cls : Value) (d : Option Addr), xp (.exc cn n) r → Sim c F r σ H → CM.mg cn = some cls → XD F H n d → W.wx cls d σ H
instance {W : Wd} {c : Ctx} {σ : L2.St} : XpOk W X0 c σ := ⟨fun _ _ _ _ _ _ _ h => h.elim⟩
/-- what is wanted behind a call -/
def Post (p c0 : Addr) (F : Addr → Prop) (H : Hp) (Q : VK) (fl : Bool) (d : D) : Prop :=
  ∀ (v : V) (F' : Addr → Prop) (H' : Hp), Step F H F' H' → (∀ a o, H a = some o → a ≠ p → ∃ o', H' a = some o' ∧ Lk o o' ∧ (o' = o ∨ F a)) → (∀ a, F' a → F a ∨ H a = none) → (∀ a, F' a → ∃ o, H' a = some o) → PenAt p c0 H' → ¬ F' p → ¬ F' c0 →
    (if fl = true then (∃ a, v = .ref a ∧ OwnD p F' H' a d ∧ ¬ F' a ∧ H a = none ∧ a ≠ p ∧ a ≠ c0) ∨ (∃ (ds : List D) (G : Addr → Prop), d = .tup ds ∧ (∀ a, G a → ¬ F' a ∧ H a = none ∧ a ≠ p ∧ a ≠ c0 ∧ ∃ o, H' a = some o) ∧ Rep p (orF F' G) H' d v ∧ ∀ q ys, okP d q = true → atD d q = some (.lst ys) → ∃ a, atV H' v q = some (.ref a) ∧ G a) else Rep p F' H' d v) → Q v H'
/-- .. behind a call that raises -/
def PostX (p c0 : Addr) (F : Addr → Prop) (H : Hp) (E : XK) (cn : Str) (n : Option Int) : Prop :=
  ∀ (cls : Value) (d : Option Addr) (F' : Addr → Prop) (H' : Hp), Step F H F' H' → (∀ a o, H a = some o → a ≠ p → ∃ o', H' a = some o' ∧ Lk o o' ∧ (o' = o ∨ F a)) → (∀ a, F' a → F a ∨ H a = none) → (∀ a, F' a → ∃ o, H' a = some o) → PenAt p c0 H' → ¬ F' p → ¬ F' c0 →
    CM.mg cn = some cls → XD F' H' n d → E cls d H'
/-- a def's promise: what its tree's run says -/
def spOf (ps : List Str) (f : String) (cl : Cl) : Sp := fun vs H Q E => ∃ (p c0 : Addr) (F : Addr → Prop) (ds : List D) (R : Bool → D → Prop) (xp : D → Prop), Reps p F H ds vs ∧ PenAt p c0 H ∧ ¬ F p ∧ ¬ F c0 ∧ (∀ a, F a → ∃ o, H a = some o) ∧ ds.length = ps.length ∧
  cl f ds R xp ∧ (∀ fl d, R fl d → Post p c0 F H Q fl d) ∧ ∀ cn n, xp (.exc cn n) → PostX p c0 F H E cn n
/-- what is wanted behind find_worth: a dict and a list are changed -/
def PostW (p c0 : Addr) (F : Addr → Prop) (H : Hp) (t q : Addr) (Q : VK) (b : Bool) (kvs' : List (Key × D)) (xs' : List D) : Prop :=
  ∀ (F' : Addr → Prop) (H' : Hp), Step F H F' H' → (∀ a o, H a = some o → a ≠ p → a ≠ t → a ≠ q → ∃ o', H' a = some o' ∧ Lk o o' ∧ (o' = o ∨ F a)) → (∀ a, F' a → F a ∨ H a = none) → (∀ a, F' a → ∃ o, H' a = some o) → PenAt p c0 H' → ¬ F' p → ¬ F' c0 →
    OwnD p F' H' t (.dic kvs') → OwnD p F' H' q (.lst xs') → ¬ F' t → ¬ F' q → Q (.bl b) H'
def spFw (cl : Cl) : Sp := fun vs H Q _ => ∃ (p c0 : Addr) (F : Addr → Prop) (t q : Addr) (sd : D) (kvs : List (Key × D)) (nm : Int) (xs : List D) (vst : V) (R : Bool → D → Prop), vs = [vst, .ref t, .int nm, .ref q] ∧ Rep p F H sd vst ∧ OwnD p F H t (.dic kvs) ∧ OwnD p F H q (.lst xs) ∧
  ¬ F t ∧ ¬ F q ∧ t ≠ p ∧ t ≠ c0 ∧ q ≠ p ∧ q ≠ c0 ∧ PenAt p c0 H ∧ ¬ F p ∧ ¬ F c0 ∧ (∀ a, F a → ∃ o, H a = some o) ∧
  cl "find_worth" [sd, .dic kvs, .int nm, .lst xs] R (fun _ => False) ∧ ∀ fl d, R fl d → ∃ b kvs' xs', d = .tup [.bl b, .dic kvs', .lst xs'] ∧ PostW p c0 F H t q Q b kvs' xs'
def spTake : Sp := fun vs H Q _ => ∃ (p c0 : Addr) (m : Int), vs = [.ref p, .int m] ∧ PenAt p c0 H ∧ 1 ≤ m ∧ m < 1073741824 ∧ ∀ k at_ st : Int, 0 ≤ k → k < m → 0 ≤ at_ → Q (.int k) (upd H p (.lst [.ref c0, .int at_, .int st]))
def spAnew : Sp := fun vs H Q _ => ∃ (p c0 : Addr), vs = [.ref p] ∧ PenAt p c0 H ∧ ∀ at_ st : Int, 0 ≤ at_ → Q (.ref p) (upd H p (.lst [.ref c0, .int at_, .int st]))
/-- what the class D says, so that its instances are read rightly -/
structure ExF (K : PySem.W.Frag) (D : Addr) : Prop where
  ga : PySem.W.findIn K (.ref D) "__getattribute__" = some (some (.builtin "BaseException.__getattribute__"))
  gg : PySem.W.findIn K (.ref D) "__getattr__" = some none
  bs : PySem.W.subIn K (.ref D) (.type "BaseException") = some true
  hd : PySem.W.hasDictIn K D = true
  ca : PySem.W.findIn K (.ref D) "__class__" = some (some (.builtin "object.__class__"))
  cg : PySem.W.specialIn K (.builtin "object.__class__") "__get__" = some (some (.builtin "getset_descriptor.__get__"))
  ct : PySem.W.takesIn K (.builtin "object.__class__") = some true
  mo : PySem.W.mroIn K D (.type "object") = some true
  nn : PySem.W.findIn K (.ref D) "number" = some none
structure GOK (W : Wd) : Prop where
  b16 : W.mg "ValueError" = none
  cm : ∀ (x : Str) (v : Value), CM.mg x = some v → ∃ C, v = .ref C ∧ W.mg x = some (.ref C) ∧ ExF W.K C ∧ (∀ k ∈ W.G.ex, ∃ C', W.mg k = some (.ref C') ∧ PySem.W.kitOne W.K (.ref C) (.ref C') = some (exIs x k)) ∧ PySem.W.kitOne W.K (.ref C) (.type "ValueError") = some true ∧
    (∃ C', W.mg "WishError" = some (.ref C') ∧ PySem.W.exmOne W.K (.ref C) (.ref C') = some true) ∧ (x ≠ "NoWish" → PySem.W.excIn W.K C [.type "ValueError", .type "Exception", .type "BaseException", .type "object"] "ValueError.__new__" = true) ∧
    PySem.W.keepIn W.K (.ref C) = true ∧ PySem.W.typeIn W.K (.ref C) = some (.type "type")
  nw : ∀ v : Value, CM.mg "NoWish" = some v → ∃ C fI fd, v = .ref C ∧ OexC W.K C ∧ PySem.W.findIn W.K (.ref C) "__init__" = some (some (.ref fI)) ∧ PySem.W.typeIn W.K (.ref fI) = some (.type "function") ∧
    FnOk W.prog W.w W.K W.mg W.base (L2.CX W.prog W.w) 1 fI fd ["self", "number"] (spNw W.K "number") ∧ Binds W.K fd ["self", "number"] []
  ex : ∀ x ∈ W.G.ex, ∃ v, CM.mg x = some v
  xn : ∀ k ∈ W.G.ex, ∀ C : Addr, W.mg k = some (.ref C) → PySem.W.kitOne W.K (.type "NoneType") (.ref C) = some false
  nd : W.N.Nodup
  room : Room (W.n + 3) W.A
  b1 : W.mg "len" = none
  b2 : W.mg "all" = none
  b3 : W.mg "any" = none
  b4 : W.mg "tuple" = none
  b5 : W.mg "list" = none
  b6 : W.mg "sorted" = none
  b7 : W.mg "sum" = none
  b8 : W.mg "max" = none
  b9 : W.mg "min" = none
  b10 : W.mg "isinstance" = none
  b11 : W.mg "range" = none
  b12 : W.mg "zip" = none
  b13 : W.mg "enumerate" = none
  b14 : W.mg "set" = none
  b15 : W.mg "abs" = none
  ty : ∀ t : Ty, W.mg (tyN t : Str) = none
  cs : ∀ q ∈ W.G.cs, ∃ t, W.mg q.1 = some (.int q.2 t)
  fw : ∀ fn, W.G.U "find_worth" = some fn → ∃ a fd, W.mg fn.name = some (.ref a) ∧ PySem.W.keepIn W.K (.ref a) = true ∧ Binds W.K fd fn.ps [] ∧ FnOk W.prog W.w W.K W.mg W.base CX0 (W.n + 3) a fd fn.ps (spFw (run W.G.U W.n))
  fn : ∀ f fn, f ≠ "find_worth" → W.G.U f = some fn → ∃ a fd, W.mg fn.name = some (.ref a) ∧ PySem.W.keepIn W.K (.ref a) = true ∧ Binds W.K fd fn.ps [] ∧ FnOk W.prog W.w W.K W.mg W.base (L2.CX W.prog W.w) (W.n + 3) a fd fn.ps (spOf fn.ps f (run W.G.U W.n))
  take : ∃ a fd, W.mg "_law_take" = some (.ref a) ∧ PySem.W.keepIn W.K (.ref a) = true ∧ Binds W.K fd ["pen", "many"] [] ∧ FnOk W.prog W.w W.K W.mg W.base CX0 (W.n + 3) a fd ["pen", "many"] spTake
  anew : ∃ a fd, W.mg "_law_anew" = some (.ref a) ∧ PySem.W.keepIn W.K (.ref a) = true ∧ Binds W.K fd ["pen"] [] ∧ FnOk W.prog W.w W.K W.mg W.base CX0 (W.n + 3) a fd ["pen"] spAnew
abbrev Wd.cl (W : Wd) : Cl := run W.G.U W.n
def SemE (W : Wd) (ir : E) (t : TE) : Prop := ∀ {xp : D → Env → Prop} (c : Ctx) (F : Addr → Prop) (r : Env) (σ : L2.St) [XpOk W xp c σ] (H : Hp) (Q : Bool → D → Env → Prop) (Q' : VK), Sim c F r σ H → evE W.cl xp ir r Q →
  (∀ fl d r' F' H' v, Q fl d r' → Step F H F' H' → Sim c F' r' σ H' → Res c F' r' σ H' fl d v → Q' v H') → t σ H Q'
def SemO (W : Wd) (o : O) (t : TE) : Prop := ∀ {xp : D → Env → Prop} (c : Ctx) (F : Addr → Prop) (r : Env) (σ : L2.St) [XpOk W xp c σ] (H : Hp) (k : Tok → Env → Prop) (Q' : VK), Sim c F r σ H → evO W.cl xp o r k →
  (∀ tk r' F' H' v, k tk r' → Step F H F' H' → Sim c F' r' σ H' → TokOk c F' σ H' tk v → Q' v H') → t σ H Q'
def SemOs (W : Wd) (os : Os) (t : TA) : Prop := ∀ {xp : D → Env → Prop} (c : Ctx) (F : Addr → Prop) (r : Env) (σ : L2.St) [XpOk W xp c σ] (H : Hp) (k : List Tok → Env → Prop) (Q' : List V → Hp → Prop), Sim c F r σ H → evOs W.cl xp os r k →
  (∀ tk r' F' H' vs, k tk r' → Step F H F' H' → Sim c F' r' σ H' → ToksOk c F' σ H' tk vs → Q' vs H') → t σ H Q'
def SemT (W : Wd) (ir : T) (t : TT) : Prop := ∀ {xp : D → Env → Prop} (c : Ctx) (F : Addr → Prop) (r : Env) (σ : L2.St) [XpOk W xp c σ] (H : Hp) (Q : Bool → Env → Prop) (Q' : Bool → Hp → Prop), Sim c F r σ H → evT W.cl xp ir r Q →
  (∀ b r' F' H', Q b r' → Step F H F' H' → Sim c F' r' σ H' → Q' b H') → t σ H Q'
def SE (W : Wd) (sc : Scope) (ir : E) (e : Expr) : Prop := ∃ t, (∀ X, XOK W sc X → PE X e t ∧ (cmpE e = true → PT X e (tTest t))) ∧ SemE W ir t
def SO (W : Wd) (sc : Scope) (o : O) (e : Expr) : Prop := ∃ t, (∀ X, XOK W sc X → PE X e t) ∧ SemO W o t
def SOs (W : Wd) (sc : Scope) (os : Os) (es : List Expr) : Prop := es.all plainE = true ∧ ∃ t, (∀ X, XOK W sc X → PA X es t) ∧ SemOs W os t
def bopE : Expr → Bool
  | .BoolOp _ _ _ => true
  | _ => false
def ST (W : Wd) (sc : Scope) (ir : T) (e : Expr) : Prop := ∃ t, (∀ X, XOK W sc X → PT X e t ∧ (bopE e = true → PW X e t)) ∧ SemT W ir t

section
variable {W : Wd} {sc : Scope} {X : Cx}
theorem isVis_ok {x : Str} (h : isVis sc x = true) : Vis sc x := by
  unfold isVis at h
  split at h
  · exact .inl (by assumption)
  · exact .inr (.inl (by assumption))
  · exact .inr (.inr (by assumption))
  · cases h
theorem isGl_ok (O : XOK W sc X) {x : Str} (h : isGl sc x = true) : Gl X x := by
  show X.env.scope.names.lookup x = some .globalImplicit
  rw [O.sc]
  unfold isGl at h
  split at h
  · assumption
  · cases h
theorem okNm_ok {x : Str} (h : okNm x = true) : (x == ("__debug__" : Str)) = false ∧ (x == ("__classdict__" : Str)) = false ∧ x ≠ "__name__" := by
  unfold okNm at h
  simp only [Bool.and_eq_true, Bool.not_eq_true', decide_eq_true_eq] at h
  exact ⟨h.1.1, h.1.2, h.2⟩
theorem ptv {e : Expr} {t : TE} (h : PE X e t) (p : testE e = true) : PT X e (tTest t) := by
  refine pt_val h fun whole => ?_
  cases e <;> first
    | rfl
    | (cases p; done)
    | (rename_i op _ _; cases op <;> first | rfl | (cases p; done))
theorem star1 {e : Expr} {es : List Expr} {env : PySem.Env} (p : plainE e = true) : starEach (e :: es) env = (false, eval e env) :: starEach es env := by
  cases e <;> first
    | rfl
    | (cases p; done)
/-- the end of an operation -/
theorem ap_end {c : Ctx} {F : Addr → Prop} {r : Env} {σ : L2.St} {H : Hp} {p : P} {ts : List Tok} {vs : List V} {Q : Bool → D → Env → Prop} (S : Sim c F r σ H) (h : ap p r ts Q) (ht : ToksOk c F σ H ts vs) :
    ∃ ds fl d, prim p ds = some (fl, d) ∧ Q fl d r ∧ Tops c.p F H ds vs := by
  unfold ap at h
  cases e : toks r ts with
  | none => rw [e] at h; exact h.elim
  | some ds =>
    rw [e] at h
    cases q : prim p ds with
    | none => simp only [q] at h
    | some z =>
      obtain ⟨fl, d⟩ := z
      simp only [q] at h
      exact ⟨ds, fl, d, q, h, S.toks ht e⟩
/-! ### names and constants -/
theorem se_var {i : Nat} {x : Str} {pos : Pos} (h1 : W.N[i]? = some x) (h2 : isVis sc x = true) (h3 : okNm x = true) : SE W sc (.var i) (.Name x pos) := by
  obtain ⟨g1, g2, _⟩ := okNm_ok h3
  refine ⟨tVar i, fun X O => ?_, fun {xp} c F r σ _ H Q Q' S h hq => ?_⟩
  · have pe : PE X (.Name x pos) (tVar i) := pe_var (by rw [O.N]; exact h1) (by rw [O.sc]; exact isVis_ok h2) g1 g2
    exact ⟨pe, fun _ => ptv pe rfl⟩
  · unfold evE at h
    cases e : r[i]? with
    | none => rw [e] at h; exact h.elim
    | some s =>
      rw [e] at h
      cases s with
      | no => exact h.elim
      | sh d =>
        obtain ⟨v, h4, h5⟩ := S.slot i _ e
        exact ⟨v, h4, hq _ _ _ _ _ _ h .refl S h5⟩
      | ow d =>
        obtain ⟨F', v, h4, h5, h6, h7⟩ := S.freeze e
        exact ⟨v, h5, hq _ _ _ _ _ _ h h4 h6 h7⟩
theorem slAt_ok {c : Ctx} {F : Addr → Prop} {r : Env} {σ : L2.St} {H : Hp} {i : Nat} {d : D} (S : Sim c F r σ H) (h : slAt r i = some d) : ∃ v, σ[i]? = some (some v) := by
  unfold slAt at h
  cases e : r[i]? with
  | none => rw [e] at h; cases h
  | some s =>
    rw [e] at h
    have q := S.slot i s e
    cases s with
    | no => cases h
    | sh d =>
      obtain ⟨v, h4, _⟩ := q
      exact ⟨v, h4⟩
    | ow d =>
      obtain ⟨a, h4, _⟩ := q
      exact ⟨_, h4⟩
theorem so_bor {i : Nat} {x : Str} {pos : Pos} (h1 : W.N[i]? = some x) (h2 : isVis sc x = true) (h3 : okNm x = true) : SO W sc (.bor i) (.Name x pos) := by
  obtain ⟨g1, g2, _⟩ := okNm_ok h3
  refine ⟨tVar i, fun X O => pe_var (by rw [O.N]; exact h1) (by rw [O.sc]; exact isVis_ok h2) g1 g2, fun {xp} c F r σ _ H Q Q' S h hq => ?_⟩
  unfold evO at h
  cases e : slAt r i with
  | none => rw [e] at h; exact h.elim
  | some d =>
    rw [e] at h
    obtain ⟨v, hv⟩ := slAt_ok S e
    exact ⟨v, hv, hq _ _ _ _ _ h .refl S hv⟩
theorem so_ex {ir : E} {e : Expr} (h : SE W sc ir e) : SO W sc (.ex ir) e := by
  obtain ⟨t, h1, h2⟩ := h
  refine ⟨t, fun X O => (h1 X O).1, fun {xp} c F r σ _ H Q Q' S h hq => ?_⟩
  unfold evO at h
  refine h2 c F r σ H _ Q' S h fun fl d r' F' H' v q st S' res => ?_
  obtain ⟨F2, st2, S2, R2⟩ := S'.frz res
  exact hq _ _ _ _ _ q (st.trans st2) S2 R2
theorem sos_nil : SOs W sc .nil [] := ⟨rfl, tNil, fun X O => pa_nil, fun {xp} c F r σ _ H Q Q' S h hq => by
  unfold evOs at h
  exact hq _ _ _ _ _ h .refl S rfl⟩
theorem sos_cons {o : O} {os : Os} {e : Expr} {es : List Expr} (p : plainE e = true) (h1 : SO W sc o e) (h2 : SOs W sc os es) : SOs W sc (.cons o os) (e :: es) := by
  obtain ⟨t, a1, a2⟩ := h1
  obtain ⟨b0, u, b1, b2⟩ := h2
  refine ⟨by rw [List.all_cons, p, b0]; rfl, tCons t u, fun X O => pa_cons (a1 X O) (b1 X O) (star1 p), fun {xp} c F r σ _ H Q Q' S h hq => ?_⟩
  unfold evOs at h
  refine a2 c F r σ H _ _ S h fun tk r1 F1 H1 v q1 st1 S1 ok1 => ?_
  refine b2 c F1 r1 σ H1 _ _ S1 q1 fun ts r2 F2 H2 vs q2 st2 S2 ok2 => ?_
  exact hq _ _ _ _ _ q2 (st1.trans st2) S2 ⟨v, vs, rfl, ok1.step st2, ok2⟩
theorem cst_ok {c : Ctx} {F : Addr → Prop} {H : Hp} {d : D} {k : Const} (h : cstOk d k = true) {j : Nat} {pos : Pos} : ∃ v, (∀ X, PE X (.Constant k j pos) (tC v)) ∧ ∀ (p : Addr) (F : Addr → Prop) (H : Hp), Rep p F H d v := by
  cases d <;> cases k <;> first
    | (cases h; done)
    | exact ⟨_, fun X => pe_non, fun _ _ _ => rfl⟩
    | (cases (of_decide_eq_true (show decide _ = true from h)); first | exact ⟨_, fun X => pe_bl, fun _ _ _ => rfl⟩ | exact ⟨_, fun X => pe_int, fun _ _ _ => rfl⟩ | exact ⟨_, fun X => pe_str, fun _ _ _ => rfl⟩)
theorem se_cst {d : D} {k : Const} (h : cstOk d k = true) {j : Nat} {pos : Pos} : SE W sc (.cst d) (.Constant k j pos) := by
  obtain ⟨v, h1, h2⟩ := cst_ok (c := ⟨0, 0, fun _ => False, fun _ => none⟩) (F := fun _ => False) (H := fun _ => none) h (j := j) (pos := pos)
  refine ⟨tC v, fun X O => ⟨h1 X, fun _ => ptv (h1 X) rfl⟩, fun {xp} c F r σ _ H Q Q' S h hq => ?_⟩
  unfold evE at h
  exact hq _ _ _ _ _ _ h .refl S (h2 _ _ _)
theorem se_glb (G : GOK W) {x : Str} {i : Int} {pos : Pos} (h1 : isGl sc x = true) (h2 : okNm x = true) (h3 : (x, i) ∈ W.G.cs) : SE W sc (.glb x i) (.Name x pos) := by
  obtain ⟨g1, g2, _⟩ := okNm_ok h2
  obtain ⟨t, ht⟩ := G.cs _ h3
  have pe : ∀ X, XOK W sc X → PE X (.Name x pos) (tC (.int i)) := fun X O => pe_glob (isGl_ok O h1) (by rw [O.mg]; exact ht) ⟨t, rfl⟩ g1
  refine ⟨tC (.int i), fun X O => ⟨pe X O, fun _ => ptv (pe X O) rfl⟩, fun {xp} c F r σ _ H Q Q' S h hq => ?_⟩
  unfold evE at h
  exact hq _ _ _ _ _ _ h .refl S rfl
/-! ### operations -/
/-- the end of every operation's reading -/
theorem op_end {c : Ctx} {F F1 : Addr → Prop} {r1 : Env} {σ : L2.St} {H H1 : Hp} {p : P} {ts : List Tok} {vs : List V} {Q : Bool → D → Env → Prop} {Q' : VK} (st : Step F H F1 H1) (S : Sim c F1 r1 σ H1) (h : ap p r1 ts Q) (ht : ToksOk c F1 σ H1 ts vs)
    (hq : ∀ fl d r' F' H' v, Q fl d r' → Step F H F' H' → Sim c F' r' σ H' → Res c F' r' σ H' fl d v → Q' v H') :
    ∃ ds fl d, prim p ds = some (fl, d) ∧ Tops c.p F1 H1 ds vs ∧ ∀ v H', Same H1 H' → Giv c.p F1 H1 H' fl d v → Q' v H' := by
  obtain ⟨ds, fl, d, h1, h2, h3⟩ := ap_end S h ht
  exact ⟨ds, fl, d, h1, h3, fun v H' s g => hq fl d r1 F1 H' v h2 (st.trans (Step.of_same s)) (S.same s) (S.res g)⟩
theorem se_call {p : P} {os : Os} {a : Expr} {es : List Expr} {f : Str} {q pos : Pos} {r : List V → Hp → VK → Prop} (hos : SOs W sc os (a :: es)) (hp : CallOk r (prim p)) (hc : ∀ X t, XOK W sc X → PA X (a :: es) t → PE X (.Call (.Name f q) (a :: es) [] pos) (tCB r t)) :
    SE W sc (.bi p os) (.Call (.Name f q) (a :: es) [] pos) := by
  obtain ⟨a0, t, a1, a2⟩ := hos
  refine ⟨tCB r t, fun X O => ⟨hc X t O (a1 X O), fun _ => ptv (hc X t O (a1 X O)) rfl⟩, fun {xp} c F rr σ _ H Q Q' S h hq => ?_⟩
  unfold evE at h
  refine a2 c F rr σ H _ _ S h fun ts r1 F1 H1 vs q1 st1 S1 ok1 => ?_
  obtain ⟨ds, fl, d, h1, h2, h3⟩ := op_end st1 S1 q1 ok1 hq
  exact hp h2 h1 h3
theorem star_any {pos : Pos} {env : PySem.Env} : ∀ {es : List Expr}, es.all plainE = true → (backTo pos (starEach es env)).any (·.1) = false
  | [], _ => rfl
  | e :: es, h => by
    rw [List.all_cons, Bool.and_eq_true] at h
    rw [star1 h.1]
    have ih := star_any (pos := pos) (env := env) h.2
    unfold backTo at ih ⊢
    simp only [List.map_cons, List.any_cons, ih, Bool.false_or]
def rLen (K : PySem.W.Frag) : List V → Hp → VK → Prop := fun xs H Q => (∃ p ys, xs = [.ref p] ∧ (SqL K H p ys ∨ SqT K H p ys) ∧ Q (.int ys.length) H) ∨ ∃ z, xs = [.str z] ∧ z.length ≤ sizeLine ∧ Q (.int z.length) H
def rTupleC (K : PySem.W.Frag) : List V → Hp → VK → Prop := fun xs H Q => ∃ p ys, xs = [.ref p] ∧ ((SqL K H p ys ∧ ∀ l, H l = none → Q (.ref l) (upd H l (.tup ys))) ∨ (SqT K H p ys ∧ Q (.ref p) H))
def rListC (K : PySem.W.Frag) : List V → Hp → VK → Prop := fun xs H Q => ∃ p ys, xs = [.ref p] ∧ (SqL K H p ys ∨ SqT K H p ys) ∧ ∀ l, H l = none → Q (.ref l) (upd H l (.lst ys))
theorem se_bi (G : GOK W) {p : P} {os : Os} {a : Expr} {es : List Expr} {f : Str} {q pos : Pos} (hb : biName p = some f) (hg : isGl sc f = true) (hos : SOs W sc os (a :: es)) :
    SE W sc (.bi p os) (.Call (.Name f q) (a :: es) [] pos) := by
  have h0 := hos.1
  rw [List.all_cons, Bool.and_eq_true] at h0
  have hpl : ∀ X : Cx, (backTo pos (starEach es X.env)).any (·.1) = false := fun X => star_any h0.2
  have hs : ∀ X : Cx, starEach (a :: es) X.env = (false, eval a X.env) :: starEach es X.env := fun X => star1 h0.1
  cases p <;> first
    | (cases hb; done)
    | skip
  all_goals (cases hb)
  · exact se_call (r := rLen W.K) hos k_len fun X t O h => pe_callB (by rw [← O.K]; exact call_len_seq.or call_len_str) (isGl_ok O hg) (by rw [O.mg]; exact G.b1) boot_len h (by decide +kernel) (by decide +kernel) (hs X) (hpl X)
  · exact se_call (r := rAll W.K) hos k_all fun X t O h => pe_callB (by rw [← O.K]; exact cr_all O.calm) (isGl_ok O hg) (by rw [O.mg]; exact G.b2) boot_all h (by decide +kernel) (by decide +kernel) (hs X) (hpl X)
  · exact se_call (r := rAny W.K) hos k_any fun X t O h => pe_callB (by rw [← O.K]; exact cr_any O.calm) (isGl_ok O hg) (by rw [O.mg]; exact G.b3) boot_any h (by decide +kernel) (by decide +kernel) (hs X) (hpl X)
  · exact se_call (r := rTupleC W.K) hos k_tuple fun X t O h => pe_callTy (by rw [← O.K]; exact call_tuple_of) (isGl_ok O hg) (by rw [O.mg]; exact G.b4) boot_tuple h (by decide +kernel) (by decide +kernel) (hs X) (hpl X)
  · exact se_call (r := rListC W.K) hos k_list fun X t O h => pe_callTy (by rw [← O.K]; exact call_list_of) (isGl_ok O hg) (by rw [O.mg]; exact G.b5) boot_list h (by decide +kernel) (by decide +kernel) (hs X) (hpl X)
  · exact se_call (r := rSortedA W.K) hos k_sorted fun X t O h => pe_callB (by rw [← O.K]; exact cr_sortedA O.calm) (isGl_ok O hg) (by rw [O.mg]; exact G.b6) boot_sorted h (by decide +kernel) (by decide +kernel) (hs X) (hpl X)
  · exact se_call (r := rSum W.K) hos k_sum fun X t O h => pe_callB (by rw [← O.K]; exact cr_sum O.calm) (isGl_ok O hg) (by rw [O.mg]; exact G.b7) boot_sum h (by decide +kernel) (by decide +kernel) (hs X) (hpl X)
  · exact se_call hos k_max2 fun X t O h => pe_callB (call_max2 O.calm) (isGl_ok O hg) (by rw [O.mg]; exact G.b8) boot_max h (by decide +kernel) (by decide +kernel) (hs X) (hpl X)
  · exact se_call hos k_min2 fun X t O h => pe_callB (call_min2 O.calm) (isGl_ok O hg) (by rw [O.mg]; exact G.b9) boot_min h (by decide +kernel) (by decide +kernel) (hs X) (hpl X)
  · exact se_call (r := rMaxA W.K) hos k_max1 fun X t O h => pe_callB (by rw [← O.K]; exact cr_maxA O.calm) (isGl_ok O hg) (by rw [O.mg]; exact G.b8) boot_max h (by decide +kernel) (by decide +kernel) (hs X) (hpl X)
  · exact se_call (r := rMinA W.K) hos k_min1 fun X t O h => pe_callB (by rw [← O.K]; exact cr_minA O.calm) (isGl_ok O hg) (by rw [O.mg]; exact G.b9) boot_min h (by decide +kernel) (by decide +kernel) (hs X) (hpl X)
  · exact se_call (r := rMinTs W.K) hos k_minT fun X t O h => pe_callB (by rw [← O.K]; exact cr_minTs O.calm (by rw [O.A]; have := G.room.un; omega)) (isGl_ok O hg) (by rw [O.mg]; exact G.b9) boot_min h (by decide +kernel) (by decide +kernel) (hs X) (hpl X)
  · exact se_call hos k_abs fun X t O h => pe_callB call_abs (isGl_ok O hg) (by rw [O.mg]; exact G.b15) boot_abs h (by decide +kernel) (by decide +kernel) (hs X) (hpl X)
  · exact se_call hos k_toInt fun X t O h => pe_callTy call_int1 (isGl_ok O hg) (by rw [O.mg]; exact G.ty .int) boot_int h (by decide +kernel) (by decide +kernel) (hs X) (hpl X)
  · exact se_call hos k_toStr fun X t O h => pe_callTy call_str_int (isGl_ok O hg) (by rw [O.mg]; exact G.ty .str) (show bootBuiltins ("str" : Str) = some (.type "str") by decide +kernel) h (by decide +kernel) (by decide +kernel) (hs X) (hpl X)
theorem tops_inv1 {p : Addr} {F : Addr → Prop} {H : Hp} {ds : List D} {v : V} (h : Tops p F H ds [v]) : ∃ d, ds = [d] ∧ Top p F H d v := by
  cases ds with
  | nil => cases h
  | cons d1 ds =>
    obtain ⟨v1, w1, e1, t1, h2⟩ := h
    cases e1
    cases ds with
    | nil => exact ⟨d1, rfl, t1⟩
    | cons d2 ds =>
      obtain ⟨v2, w2, e2, t2, h2⟩ := h2
      cases e2
theorem tops_inv2 {p : Addr} {F : Addr → Prop} {H : Hp} {ds : List D} {v u : V} (h : Tops p F H ds [v, u]) : ∃ d e, ds = [d, e] ∧ Top p F H d v ∧ Top p F H e u := by
  cases ds with
  | nil => cases h
  | cons d1 ds =>
    obtain ⟨v1, w1, e1, t1, h2⟩ := h
    cases e1
    obtain ⟨d2, rfl, t2⟩ := tops_inv1 h2
    exact ⟨d1, d2, rfl, t1, t2⟩
theorem tops_inv3 {p : Addr} {F : Addr → Prop} {H : Hp} {ds : List D} {v u w : V} (h : Tops p F H ds [v, u, w]) : ∃ d e f, ds = [d, e, f] ∧ Top p F H d v ∧ Top p F H e u ∧ Top p F H f w := by
  cases ds with
  | nil => cases h
  | cons d1 ds =>
    obtain ⟨v1, w1, e1, t1, h2⟩ := h
    cases e1
    obtain ⟨d2, d3, rfl, t2, t3⟩ := tops_inv2 h2
    exact ⟨d1, d2, d3, rfl, t1, t2, t3⟩
/-- two operands and their rule -/
theorem sem2 {r : R2} {ta tb : TE} {a b : O} {p : P} {ir : E} (hp : BinOk r (prim p)) (sa : SemO W a ta) (sb : SemO W b tb)
    (hir : ∀ (xp : D → Env → Prop) rr Q, evE W.cl xp ir rr Q → evO W.cl xp a rr fun x r1 => evO W.cl xp b r1 fun y r2 => ap p r2 [x, y] Q) : SemE W ir (tOp r ta tb) := by
  intro xp c F rr σ _ H Q Q' S h hq
  refine sa c F rr σ H _ _ S (hir _ rr Q h) fun x r1 F1 H1 v q1 st1 S1 ok1 => ?_
  refine sb c F1 r1 σ H1 _ _ S1 q1 fun y r2 F2 H2 u q2 st2 S2 ok2 => ?_
  obtain ⟨ds, fl, d, h1, h2, h3⟩ := op_end (vs := [v, u]) (st1.trans st2) S2 q2 ⟨v, [u], rfl, ok1.step st2, u, [], rfl, ok2, rfl⟩ hq
  obtain ⟨d1, d2, rfl, t1, t2⟩ := tops_inv2 h2
  exact hp t1 t2 h1 h3
theorem evE_bop {cl : Cl} {xp : D → Env → Prop} {p : P} {a b : O} {r : Env} {Q : Bool → D → Env → Prop} (h : evE cl xp (.bop p a b) r Q) : evO cl xp a r fun x r1 => evO cl xp b r1 fun y r2 => ap p r2 [x, y] Q := by
  unfold evE at h; exact h
theorem evE_cmp {cl : Cl} {xp : D → Env → Prop} {p : P} {a b : O} {r : Env} {Q : Bool → D → Env → Prop} (h : evE cl xp (.cmp p a b) r Q) : evO cl xp a r fun x r1 => evO cl xp b r1 fun y r2 => ap p r2 [x, y] Q := by
  unfold evE at h; exact h
theorem evE_ixx {cl : Cl} {xp : D → Env → Prop} {a b : O} {r : Env} {Q : Bool → D → Env → Prop} (h : evE cl xp (.ixx a b) r Q) : evO cl xp a r fun x r1 => evO cl xp b r1 fun y r2 => ap .ix r2 [x, y] Q := by
  unfold evE at h; exact h
theorem se_bop {p : P} {a b : O} {x y : Expr} {op : Operator} {pos : Pos} (h : opIs p op = true) (ha : SO W sc a x) (hb : SO W sc b y) : SE W sc (.bop p a b) (.BinOp x op y pos) := by
  obtain ⟨ta, a1, a2⟩ := ha
  obtain ⟨tb, b1, b2⟩ := hb
  have mk : ∀ r : R2, BinOk r (prim p) → (∀ X, XOK W sc X → OpR X (binaryOp op) r) → SE W sc (.bop p a b) (.BinOp x op y pos) := fun r k o =>
    ⟨tOp r ta tb, fun X O => ⟨pe_op (o X O) (a1 X O) (b1 X O), fun _ => ptv (pe_op (o X O) (a1 X O) (b1 X O)) rfl⟩, sem2 k a2 b2 fun _ _ _ => evE_bop⟩
  cases p <;> first
    | (cases h; done)
    | skip
  · cases op <;> first | (cases h; done) | skip
    exact mk _ (k_add (K := W.K)) fun X O => op_add.or (op_cat.or (OpR.or (by rw [← O.K]; exact op_catA) op_add_str))
  · cases op <;> first | (cases h; done) | skip
    exact mk _ k_sub fun X O => op_sub
  · cases op <;> first | (cases h; done) | skip
    exact mk _ (k_mul (K := W.K)) fun X O => op_mul.or (OpR.or (by rw [← O.K]; exact op_repT1.or op_repT) op_rep)
  · cases op <;> first | (cases h; done) | skip
    exact mk _ k_mod fun X O => op_modN
  · cases op <;> first | (cases h; done) | skip
    exact mk _ k_fdiv fun X O => op_fdivN
  · cases op <;> first | (cases h; done) | skip
    exact mk _ k_pow fun X O => op_pow
theorem k_isnB : BinOk (fun x y H Q => ∃ a b, x = .bl a ∧ y = .bl b ∧ Q (.bl (!decide (a = b))) H) pIsnB2 := by
  intro p F H d e z x y fl Q tx ty hk hq
  unfold pIsnB2 at hk
  split at hk
  · rename_i he; cases he
    cases hk
    exact ⟨_, _, tx, ty, hq _ _ (Same.refl _) (.val rfl)⟩
  · cases hk
/-- the rule of a comparison -/
theorem cmp_rule (G : GOK W) {p : P} {op : CmpOp} (h : cmpIs p op = true) : ∃ r : R2, BinOk r (prim p) ∧ ∀ X, XOK W sc X → OpR X (compareOp op) r := by
  have hu : ∀ X, XOK W sc X → X.A.units + 65 < cLine := fun X O => by rw [O.A]; have := G.room.un; omega
  have hu4 : ∀ X, XOK W sc X → X.A.units + 64 < cLine := fun X O => by have := hu X O; omega
  cases p <;> first
    | (cases h; done)
    | skip
  · cases op <;> first | (cases h; done) | skip
    exact ⟨_, k_eq (K := W.K), fun X O => by rw [← O.K]; exact op_eqD (hu4 X O)⟩
  · cases op <;> first | (cases h; done) | skip
    exact ⟨_, k_ne (K := W.K), fun X O => by rw [← O.K]; exact op_neD (hu4 X O)⟩
  · cases op <;> first | (cases h; done) | skip
    exact ⟨_, k_cmp (fun i j => decide (i < j)), fun X O => op_lt⟩
  · cases op <;> first | (cases h; done) | skip
    exact ⟨_, k_cmp (fun i j => decide (i ≤ j)), fun X O => op_le⟩
  · cases op <;> first | (cases h; done) | skip
    exact ⟨_, k_cmp (fun i j => decide (j < i)), fun X O => op_gt⟩
  · cases op <;> first | (cases h; done) | skip
    exact ⟨_, k_cmp (fun i j => decide (j ≤ i)), fun X O => op_ge⟩
  · cases op <;> first | (cases h; done) | skip
    exact ⟨_, k_in (K := W.K), fun X O => by rw [← O.K]; exact (op_inD (hu X O)).or (op_in_seq.or ((op_inT (hu X O)).or op_in_str))⟩
  · cases op <;> first | (cases h; done) | skip
    exact ⟨_, k_nin (K := W.K), fun X O => by rw [← O.K]; exact (op_notInD (hu X O)).or (op_notIn_seq.or ((op_notInT (hu X O)).or op_notin_str))⟩
  · cases op <;> first | (cases h; done) | skip
    exact ⟨_, k_isN, fun X O => op_isN⟩
  · cases op <;> first | (cases h; done) | skip
    exact ⟨_, k_isnN, fun X O => op_notN⟩
  · cases op <;> first | (cases h; done) | skip
    exact ⟨_, k_isB, fun X O => op_is_bl⟩
  · cases op <;> first | (cases h; done) | skip
    exact ⟨_, k_isnB, fun X O => op_isnot_bl⟩
theorem se_cmp (G : GOK W) {p : P} {a b : O} {x y : Expr} {op : CmpOp} {pos : Pos} (h : cmpIs p op = true) (hm : behindInMarks op y = false) (ha : SO W sc a x) (hb : SO W sc b y) : SE W sc (.cmp p a b) (.Compare x [op] [y] pos) := by
  obtain ⟨ta, a1, a2⟩ := ha
  obtain ⟨tb, b1, b2⟩ := hb
  obtain ⟨r, k, o⟩ := cmp_rule (sc := sc) G h
  exact ⟨tOp r ta tb, fun X O => ⟨pe_cmpR (o X O) (a1 X O) (b1 X O) hm, fun _ => pt_cmpR (o X O) (a1 X O) (b1 X O) hm⟩, sem2 k a2 b2 fun _ _ _ => evE_cmp⟩
theorem plainIx {e : Expr} (h : plainE e = true) : PlainIx e := by
  intro o i
  cases e <;> first
    | rfl
    | (cases h; done)
theorem se_ixx {a b : O} {x y : Expr} {pos : Pos} (hp : plainE y = true) (ha : SO W sc a x) (hb : SO W sc b y) : SE W sc (.ixx a b) (.Subscript x y pos) := by
  obtain ⟨ta, a1, a2⟩ := ha
  obtain ⟨tb, b1, b2⟩ := hb
  have pe : ∀ X, XOK W sc X → PE X (.Subscript x y pos) (tOp (rIx W.K) ta tb) := fun X O => pe_ix (by rw [← O.K]; exact ix_seq) (a1 X O) (b1 X O) (plainIx hp)
  exact ⟨tOp (rIx W.K) ta tb, fun X O => ⟨pe X O, fun _ => ptv (pe X O) rfl⟩, sem2 k_ix a2 b2 fun _ _ _ => evE_ixx⟩
theorem se_una {a : O} {x : Expr} {pos : Pos} (ha : SO W sc a x) : SE W sc (.una .neg a) (.UnaryOp .USub x pos) := by
  obtain ⟨ta, a1, a2⟩ := ha
  refine ⟨tUn (rU fun i => .int (-i)) ta, fun X O => ⟨pe_un un_neg (a1 X O), fun _ => ptv (pe_un un_neg (a1 X O)) rfl⟩, fun {xp} c F rr σ _ H Q Q' S h hq => ?_⟩
  unfold evE at h
  refine a2 c F rr σ H _ _ S h fun x r1 F1 H1 v q1 st1 S1 ok1 => ?_
  obtain ⟨ds, fl, d, h1, h2, h3⟩ := op_end (vs := [v]) st1 S1 q1 ⟨v, [], rfl, ok1, rfl⟩ hq
  obtain ⟨d1, rfl, t1⟩ := tops_inv1 h2
  exact k_neg t1 h1 h3
/-! slices -/
def rSlAll (K : PySem.W.Frag) : V → Option Int → Option Int → Hp → VK → Prop := fun x lo hi H Q => rSlL K x lo hi H Q ∨ (rSlA K x lo hi H Q ∨ rSlS x lo hi H Q)
theorem sl_all (O : XOK W sc X) : SlR X (rSlAll W.K) := by
  rw [← O.K]
  exact sl_list.or (sl_tupA.or sl_str)
theorem apC_end {c : Ctx} {F F1 : Addr → Prop} {r1 : Env} {σ : L2.St} {H H1 : Hp} {t : Tok} {v : V} {lo hi : Option Int} {Q : Bool → D → Env → Prop} {Q' : VK} (st : Step F H F1 H1) (S : Sim c F1 r1 σ H1) (h : apC r1 t lo hi Q) (ht : TokOk c F1 σ H1 t v)
    (hq : ∀ fl d r' F' H' v, Q fl d r' → Step F H F' H' → Sim c F' r' σ H' → Res c F' r' σ H' fl d v → Q' v H') : rSlAll W.K v lo hi H1 Q' := by
  unfold apC at h
  cases e : tokD r1 t with
  | none => rw [e] at h; exact h.elim
  | some d =>
    rw [e] at h
    cases q : pCut d lo hi with
    | none => simp only [q] at h
    | some z =>
      obtain ⟨fl, z⟩ := z
      simp only [q] at h
      exact k_sl (S.tok ht e) q fun v H' s g => hq fl z r1 F1 H' v h (st.trans (Step.of_same s)) (S.same s) (S.res g)
theorem res_int {c : Ctx} {F : Addr → Prop} {r : Env} {σ : L2.St} {H : Hp} {fl : Bool} {i : Int} {v : V} (h : Res c F r σ H fl (.int i) v) : v = .int i := by
  cases fl with
  | false => exact h
  | true =>
    rcases h with ⟨a, e, o, _⟩ | ⟨_, _, e, _⟩
    · exact False.elim o
    · cases e
theorem se_sla {a : O} {b : E} {x y : Expr} {p2 pos : Pos} (ha : SO W sc a x) (hb : SE W sc b y) : SE W sc (.sla a b) (.Subscript x (.Slice (some y) none none p2) pos) := by
  obtain ⟨ta, a1, a2⟩ := ha
  obtain ⟨tb, b1, b2⟩ := hb
  have pe : ∀ X, XOK W sc X → PE X (.Subscript x (.Slice (some y) none none p2) pos) (tSl (rSlAll W.K) ta (tPart tb) tNoPart) := fun X O => pe_slice (sl_all O) (a1 X O) (po_some (b1 X O).1) po_none
  refine ⟨_, fun X O => ⟨pe X O, fun _ => ptv (pe X O) rfl⟩, fun {xp} c F rr σ _ H Q Q' S h hq => ?_⟩
  unfold evE at h
  refine a2 c F rr σ H _ _ S h fun x r1 F1 H1 v q1 st1 S1 ok1 => ?_
  refine b2 c F1 r1 σ H1 _ _ S1 q1 fun fl d r2 F2 H2 u q2 st2 S2 ok2 => ?_
  split at q2
  · exact ⟨_, res_int ok2, apC_end (st1.trans st2) S2 q2 (ok1.step st2) hq⟩
  · exact q2.elim
theorem se_slb {a : O} {b : E} {x y : Expr} {p2 pos : Pos} (ha : SO W sc a x) (hb : SE W sc b y) : SE W sc (.slb a b) (.Subscript x (.Slice none (some y) none p2) pos) := by
  obtain ⟨ta, a1, a2⟩ := ha
  obtain ⟨tb, b1, b2⟩ := hb
  have pe : ∀ X, XOK W sc X → PE X (.Subscript x (.Slice none (some y) none p2) pos) (tSl (rSlAll W.K) ta tNoPart (tPart tb)) := fun X O => pe_slice (sl_all O) (a1 X O) po_none (po_some (b1 X O).1)
  refine ⟨_, fun X O => ⟨pe X O, fun _ => ptv (pe X O) rfl⟩, fun {xp} c F rr σ _ H Q Q' S h hq => ?_⟩
  unfold evE at h
  refine a2 c F rr σ H _ _ S h fun x r1 F1 H1 v q1 st1 S1 ok1 => ?_
  refine b2 c F1 r1 σ H1 _ _ S1 q1 fun fl d r2 F2 H2 u q2 st2 S2 ok2 => ?_
  split at q2
  · exact ⟨_, res_int ok2, apC_end (st1.trans st2) S2 q2 (ok1.step st2) hq⟩
  · exact q2.elim
theorem se_slab {a : O} {b d : E} {x y z : Expr} {p2 pos : Pos} (ha : SO W sc a x) (hb : SE W sc b y) (hd : SE W sc d z) : SE W sc (.slab a b d) (.Subscript x (.Slice (some y) (some z) none p2) pos) := by
  obtain ⟨ta, a1, a2⟩ := ha
  obtain ⟨tb, b1, b2⟩ := hb
  obtain ⟨td, d1, d2⟩ := hd
  have pe : ∀ X, XOK W sc X → PE X (.Subscript x (.Slice (some y) (some z) none p2) pos) (tSl (rSlAll W.K) ta (tPart tb) (tPart td)) := fun X O => pe_slice (sl_all O) (a1 X O) (po_some (b1 X O).1) (po_some (d1 X O).1)
  refine ⟨_, fun X O => ⟨pe X O, fun _ => ptv (pe X O) rfl⟩, fun {xp} c F rr σ _ H Q Q' S h hq => ?_⟩
  unfold evE at h
  refine a2 c F rr σ H _ _ S h fun x r1 F1 H1 v q1 st1 S1 ok1 => ?_
  refine b2 c F1 r1 σ H1 _ _ S1 q1 fun fl d r2 F2 H2 u q2 st2 S2 ok2 => ?_
  split at q2
  · refine ⟨_, res_int ok2, ?_⟩
    refine d2 c F2 r2 σ H2 _ _ S2 q2 fun fl' d' r3 F3 H3 u' q3 st3 S3 ok3 => ?_
    split at q3
    · exact ⟨_, res_int ok3, apC_end ((st1.trans st2).trans st3) S3 q3 ((ok1.step st2).step st3) hq⟩
    · exact q3.elim
  · exact q2.elim
/-! displays -/
theorem reps_of {c : Ctx} {F : Addr → Prop} {σ : L2.St} {H : Hp} : ∀ {ts : List Tok} {vs : List V} {ds : List D}, ToksOk c F σ H ts vs → toksV ts = some ds → Reps c.p F H ds vs
  | [], _, ds, h, e => by cases e; exact h
  | .bor i :: ts, _, ds, h, e => by cases e
  | .val d :: ts, _, ds, h, e => by
    obtain ⟨v, ws, rfl, a, b⟩ := h
    unfold toksV at e
    cases q : toksV ts with
    | none => rw [q] at e; cases e
    | some ds' =>
      rw [q] at e
      cases e
      exact ⟨v, ws, rfl, a, reps_of b q⟩
theorem se_tupd {os : Os} {es : List Expr} {k : Nat} {pos : Pos} (ho : SOs W sc os es) : SE W sc (.tupd os) (.Tuple es k pos) := by
  obtain ⟨_, t, a1, a2⟩ := ho
  refine ⟨tTup t, fun X O => ⟨pe_tup (a1 X O), fun _ => ptv (pe_tup (a1 X O)) rfl⟩, fun {xp} c F rr σ _ H Q Q' S h hq => ?_⟩
  unfold evE at h
  refine a2 c F rr σ H _ _ S h fun ts r1 F1 H1 vs q1 st1 S1 ok1 => ?_
  split at q1
  · rename_i ds e
    have R := reps_of ok1 e
    refine ⟨?_, fun a hn => hq _ _ _ _ _ _ q1.2 (st1.trans (Step.of_same (same_new hn))) (S1.same (same_new hn)) (S1.res (.tup hn ?_ R))⟩
    · rw [R.length, sizeLine_eq]; omega
    · rw [sizeLine_eq]; omega
  · exact q1.elim
theorem se_lstd {os : Os} {es : List Expr} {pos : Pos} (ho : SOs W sc os es) : SE W sc (.lstd os) (.List es pos) := by
  obtain ⟨_, t, a1, a2⟩ := ho
  refine ⟨tLst t, fun X O => ⟨pe_lst (a1 X O), fun _ => ptv (pe_lst (a1 X O)) rfl⟩, fun {xp} c F rr σ _ H Q Q' S h hq => ?_⟩
  unfold evE at h
  refine a2 c F rr σ H _ _ S h fun ts r1 F1 H1 vs q1 st1 S1 ok1 => ?_
  split at q1
  · rename_i ds e
    have R := reps_of ok1 e
    refine ⟨?_, fun a hn => hq _ _ _ _ _ _ q1.2 (st1.trans (Step.of_same (same_new hn))) (S1.same (same_new hn)) (S1.res (.lst hn ?_ R))⟩
    · rw [R.length, sizeLine_eq]; omega
    · rw [sizeLine_eq]; omega
  · exact q1.elim
/-! isinstance -/
theorem boot_ty (t : Ty) : bootBuiltins (tyN t : Str) = some (.type (tyN t)) := by cases t <;> decide +kernel
theorem ty_names (t : Ty) : (tyN t : Str) ≠ "__name__" ∧ ((tyN t : Str) == ("__debug__" : Str)) = false := by cases t <;> (constructor <;> decide +kernel)
theorem se_isi (G : GOK W) {t : Ty} {a : O} {x : Expr} {f ty : Str} {q q2 pos : Pos} (hf : f = ("isinstance" : Str)) (hg : isGl sc f = true) (ht : ty = (tyN t : Str)) (hg2 : isGl sc ty = true) (hx : plainE x = true) (ha : SO W sc a x) :
    SE W sc (.isi t a) (.Call (.Name f q) [x, .Name ty q2] [] pos) := by
  subst hf ht
  obtain ⟨ta, a1, a2⟩ := ha
  have pe : ∀ X, XOK W sc X → PE X (.Call (.Name ("isinstance" : Str) q) [x, .Name (tyN t : Str) q2] [] pos) (tCB (rIsi W.K) (tCons ta (tCons (tC (.ty (tyN t))) tNil))) := fun X O =>
    pe_callB (by rw [← O.K]; exact call_isi) (isGl_ok O hg) (by rw [O.mg]; exact G.b10) boot_isinstance
      (pa_cons (a1 X O) (pa_cons (pe_bltn (isGl_ok O hg2) (by rw [O.mg]; exact G.ty t) (boot_ty t) rfl (ty_names t).1 (ty_names t).2) pa_nil (star1 rfl)) (star1 hx)) (by decide +kernel) (by decide +kernel) (star1 hx) (star_any (by rfl))
  refine ⟨_, fun X O => ⟨pe X O, fun _ => ptv (pe X O) rfl⟩, fun {xp} c F rr σ _ H Q Q' S h hq => ?_⟩
  unfold evE at h
  refine a2 c F rr σ H _ _ S h fun x r1 F1 H1 v q1 st1 S1 ok1 => ?_
  obtain ⟨ds, fl, d, h1, h2, h3⟩ := op_end (vs := [v]) st1 S1 q1 ⟨v, [], rfl, ok1, rfl⟩ hq
  exact k_isi t h2 h1 h3
/-! ### and, or, not, if, chains -/
theorem res_bl {c : Ctx} {F : Addr → Prop} {r : Env} {σ : L2.St} {H : Hp} {fl : Bool} {i : Bool} {v : V} (h : Res c F r σ H fl (.bl i) v) : v = .bl i := by
  cases fl with
  | false => exact h
  | true =>
    rcases h with ⟨a, e, o, _⟩ | ⟨_, _, e, _⟩
    · exact False.elim o
    · cases e
theorem sem_and {a b : E} {ta tb : TE} (ha : SemE W a ta) (hb : SemE W b tb) : SemE W (.and a b) (tAndV ta tb) := by
  intro xp c F rr σ _ H Q Q' S h hq
  unfold evE at h
  refine ha c F rr σ H _ _ S h fun fl d r1 F1 H1 v q1 st1 S1 ok1 => ?_
  split at q1
  · refine ⟨true, res_bl ok1, ?_⟩
    rw [if_pos rfl]
    exact hb c F1 r1 σ H1 _ _ S1 q1 fun fl d r' F' H' v q st => hq fl d r' F' H' v q (st1.trans st)
  · refine ⟨false, res_bl ok1, ?_⟩
    rw [if_neg Bool.false_ne_true]
    exact hq _ _ _ _ _ _ q1 st1 S1 rfl
  · exact q1.elim
theorem sem_or {a b : E} {ta tb : TE} (ha : SemE W a ta) (hb : SemE W b tb) : SemE W (.or a b) (tOrV ta tb) := by
  intro xp c F rr σ _ H Q Q' S h hq
  unfold evE at h
  refine ha c F rr σ H _ _ S h fun fl d r1 F1 H1 v q1 st1 S1 ok1 => ?_
  split at q1
  · refine ⟨true, res_bl ok1, ?_⟩
    rw [if_pos rfl]
    exact hq _ _ _ _ _ _ q1 st1 S1 rfl
  · refine ⟨false, res_bl ok1, ?_⟩
    rw [if_neg Bool.false_ne_true]
    exact hb c F1 r1 σ H1 _ _ S1 q1 fun fl d r' F' H' v q st => hq fl d r' F' H' v q (st1.trans st)
  · exact q1.elim
theorem se_and2 {a b : E} {x y : Expr} {pos : Pos} (ha : SE W sc a x) (hb : SE W sc b y) : SE W sc (.and a b) (.BoolOp .And [x, y] pos) := by
  obtain ⟨ta, a1, a2⟩ := ha
  obtain ⟨tb, b1, b2⟩ := hb
  exact ⟨_, fun X O => ⟨pe_and (a1 X O).1 (pe_one (b1 X O).1), fun z => nomatch z⟩, sem_and a2 b2⟩
theorem se_and3 {a b : E} {x y : Expr} {r : List Expr} {pos : Pos} (ha : SE W sc a x) (hb : SE W sc b (.BoolOp .And (y :: r) pos)) : SE W sc (.and a b) (.BoolOp .And (x :: y :: r) pos) := by
  obtain ⟨ta, a1, a2⟩ := ha
  obtain ⟨tb, b1, b2⟩ := hb
  exact ⟨_, fun X O => ⟨pe_and (a1 X O).1 (b1 X O).1, fun z => nomatch z⟩, sem_and a2 b2⟩
theorem se_or2 {a b : E} {x y : Expr} {pos : Pos} (ha : SE W sc a x) (hb : SE W sc b y) : SE W sc (.or a b) (.BoolOp .Or [x, y] pos) := by
  obtain ⟨ta, a1, a2⟩ := ha
  obtain ⟨tb, b1, b2⟩ := hb
  exact ⟨_, fun X O => ⟨pe_or (a1 X O).1 (pe_one (b1 X O).1), fun z => nomatch z⟩, sem_or a2 b2⟩
theorem se_or3 {a b : E} {x y : Expr} {r : List Expr} {pos : Pos} (ha : SE W sc a x) (hb : SE W sc b (.BoolOp .Or (y :: r) pos)) : SE W sc (.or a b) (.BoolOp .Or (x :: y :: r) pos) := by
  obtain ⟨ta, a1, a2⟩ := ha
  obtain ⟨tb, b1, b2⟩ := hb
  exact ⟨_, fun X O => ⟨pe_or (a1 X O).1 (b1 X O).1, fun z => nomatch z⟩, sem_or a2 b2⟩
theorem se_not {a : E} {x : Expr} {pos : Pos} (ha : SE W sc a x) : SE W sc (.not a) (.UnaryOp .Not x pos) := by
  obtain ⟨ta, a1, a2⟩ := ha
  refine ⟨_, fun X O => ⟨pe_not (a1 X O).1, fun z => nomatch z⟩, fun {xp} c F rr σ _ H Q Q' S h hq => ?_⟩
  unfold evE at h
  refine a2 c F rr σ H _ _ S h fun fl d r1 F1 H1 v q1 st1 S1 ok1 => ?_
  split at q1
  · exact ⟨_, res_bl ok1, hq _ _ _ _ _ _ q1 st1 S1 rfl⟩
  · exact q1.elim
theorem se_ife {t : T} {a b : E} {z x y : Expr} {pos : Pos} (ht : ST W sc t z) (ha : SE W sc a x) (hb : SE W sc b y) : SE W sc (.ife t a b) (.IfExp z x y pos) := by
  obtain ⟨tt, t1, t2⟩ := ht
  obtain ⟨ta, a1, a2⟩ := ha
  obtain ⟨tb, b1, b2⟩ := hb
  refine ⟨_, fun X O => ⟨pe_ifExp (t1 X O).1 (a1 X O).1 (b1 X O).1, fun z => nomatch z⟩, fun {xp} c F rr σ _ H Q Q' S h hq => ?_⟩
  unfold evE at h
  refine t2 c F rr σ H _ _ S h fun b r1 F1 H1 q1 st1 S1 => ?_
  cases b with
  | true =>
    rw [if_pos rfl] at q1 ⊢
    exact a2 c F1 r1 σ H1 _ _ S1 q1 fun fl d r' F' H' v q st => hq fl d r' F' H' v q (st1.trans st)
  | false =>
    rw [if_neg Bool.false_ne_true] at q1 ⊢
    exact b2 c F1 r1 σ H1 _ _ S1 q1 fun fl d r' F' H' v q st => hq fl d r' F' H' v q (st1.trans st)
theorem se_chn (G : GOK W) {p q : P} {a b : O} {d : E} {x y z : Expr} {o1 o2 : CmpOp} {pos : Pos} (h1 : cmpIs p o1 = true) (h2 : cmpIs q o2 = true) (ha : SO W sc a x) (hb : SO W sc b y) (hd : SE W sc d z) (hm : lastMarks [o1, o2] [y, z] = false) :
    SE W sc (.chn p q a b d) (.Compare x [o1, o2] [y, z] pos) := by
  obtain ⟨ta, a1, a2⟩ := ha
  obtain ⟨tb, b1, b2⟩ := hb
  obtain ⟨td, d1, d2⟩ := hd
  obtain ⟨r1, k1, or1⟩ := cmp_rule (sc := sc) G h1
  obtain ⟨r2, k2, or2⟩ := cmp_rule (sc := sc) G h2
  refine ⟨_, fun X O => ⟨pe_chain (or1 X O) (or2 X O) (a1 X O) (b1 X O) (d1 X O).1 hm, fun _ => pt_chain (or1 X O) (or2 X O) (a1 X O) (b1 X O) (d1 X O).1 hm⟩, fun {xp} c F rr σ _ H Q Q' S h hq => ?_⟩
  unfold evE at h
  refine a2 c F rr σ H _ _ S h fun x r1' F1 H1 v q1 st1 S1 ok1 => ?_
  refine b2 c F1 r1' σ H1 _ _ S1 q1 fun y r2' F2 H2 u q2 st2 S2 ok2 => ?_
  have key : ∀ fl d0 r3 F3 H3 w, (match d0 with
      | D.bl true => evE W.cl xp d r3 fun _ dz r4 => ap q r4 [y, .val dz] fun _ k r5 => match k with
        | .bl b => Q false (.bl b) r5
        | _ => False
      | .bl false => Q false (.bl false) r3
      | _ => False) → Step F2 H2 F3 H3 → Sim c F3 r3 σ H3 → Res c F3 r3 σ H3 fl d0 w → ∃ k, w = V.bl k ∧ (if k = true then td σ H3 fun w' H4 => r2 u w' H4 Q' else Q' (.bl false) H3) := by
    intro fl d0 r3 F3 H3 w q3 st3 S3 ok3
    have ok2' : TokOk c F3 σ H3 y u := ok2.step st3
    split at q3
    · refine ⟨true, res_bl ok3, ?_⟩
      rw [if_pos rfl]
      refine d2 c F3 r3 σ H3 _ _ S3 q3 fun fl' dz r4 F4 H4 w4 q4 st4 S4 ok4 => ?_
      obtain ⟨F5, st5, S5, R5⟩ := S4.frz ok4
      have key2 : ∀ fl6 d6 r6 F6 H6 w6, (match d6 with
          | D.bl b => Q false (.bl b) r6
          | _ => False) → Step F5 H4 F6 H6 → Sim c F6 r6 σ H6 → Res c F6 r6 σ H6 fl6 d6 w6 → Q' w6 H6 := by
        intro fl6 d6 r6 F6 H6 w6 q6 st6 S6 ok6
        split at q6
        · cases res_bl ok6
          exact hq _ _ _ _ _ _ q6 (((((st1.trans st2).trans st3).trans st4).trans st5).trans st6) S6 rfl
        · exact q6.elim
      obtain ⟨ds5, fl5, d5, g1', g2', g3'⟩ := op_end (vs := [u, w4]) (Q' := Q') .refl S5 q4 ⟨u, [w4], rfl, (ok2'.step st4).step st5, w4, [], rfl, R5, rfl⟩ key2
      obtain ⟨e1, e2, rfl, t1, t2⟩ := tops_inv2 g2'
      exact k2 t1 t2 g1' g3'
    · refine ⟨false, res_bl ok3, ?_⟩
      rw [if_neg Bool.false_ne_true]
      exact hq _ _ _ _ _ _ q3 ((st1.trans st2).trans st3) S3 rfl
    · exact q3.elim
  obtain ⟨ds, fl, d0, g1, g2, g3⟩ := op_end (vs := [v, u]) .refl S2 q2 ⟨v, [u], rfl, ok1.step st2, u, [], rfl, ok2, rfl⟩ key
  obtain ⟨e1, e2, rfl, t1, t2⟩ := tops_inv2 g2
  exact k1 t1 t2 g1 g3
/-! ### calls of the text's own defs -/
/-- behind a call the slots are as ahead -/
theorem sim_call {c : Ctx} {F F' : Addr → Prop} {r : Env} {σ : L2.St} {H H' : Hp} (S : Sim c F r σ H) (st' : Step F H F' H') (hk : ∀ a o, H a = some o → a ≠ c.p → ∃ o', H' a = some o' ∧ Lk o o' ∧ (o' = o ∨ F a)) (hn : ∀ a, F' a → F a ∨ H a = none)
    (htr : ∀ a, F' a → ∃ o, H' a = some o) (hp : PenAt c.p c.c0 H') (n1 : ¬ F' c.p) (n2 : ¬ F' c.c0) : Sim c F' r σ H' := by
  refine ⟨S.len, fun i s e => ?_, S.sep, fun a o e np => (by
    obtain ⟨o1, e1, l1, k1⟩ := S.frame a o e np
    obtain ⟨o2, e2, l2, k2⟩ := hk a o1 e1 np
    refine ⟨o2, e2, l1.trans l2, ?_⟩
    rcases k1 with k1 | k1
    · rcases k2 with k2 | k2
      · exact .inl (k2.trans k1)
      · rcases S.fnew a k2 with z | z
        · exact .inr z
        · rw [e] at z; cases z
    · exact .inr k1), fun a f => st'.mono a (S.fr0 a f), fun a f => (hn a f).elim (S.fnew a) fun z => .inr (S.h0 z), htr, hp, ⟨n1, n2⟩⟩
  have q := S.slot i s e
  cases s with
  | no => trivial
  | sh d =>
    obtain ⟨v, q1, q2⟩ := q
    exact ⟨v, q1, Rep.step st' _ _ q2⟩
  | ow d =>
    obtain ⟨a, q1, q2, q3, q4, q5, q6⟩ := q
    obtain ⟨_, _, _, ht⟩ := q2.there
    have nF : ¬ F' a := fun f => (hn a f).elim q3 fun z => by
      rw [ht] at z
      cases z
    exact ⟨a, q1, q2.step st' fun o z => (by obtain ⟨o', e1, _, k⟩ := hk a o z q5; exact k.elim (fun k => by rw [e1, k]) fun k => absurd k q3), nF, q4, q5, q6⟩
theorem post_of {c : Ctx} {F : Addr → Prop} {r : Env} {σ : L2.St} {H : Hp} {Q : Bool → D → Env → Prop} {Q' : VK} {F0 : Addr → Prop} {H0 : Hp} (st : Step F0 H0 F H) (S : Sim c F r σ H)
    (hq : ∀ fl d r' F' H' v, Q fl d r' → Step F0 H0 F' H' → Sim c F' r' σ H' → Res c F' r' σ H' fl d v → Q' v H') (fl : Bool) (d : D) (h : Q fl d r) : Post c.p c.c0 F H Q' fl d := by
  intro v F' H' st' hk hn htr hp n1 n2 hv
  have S' : Sim c F' r σ H' := sim_call S st' hk hn htr hp n1 n2
  refine hq fl d r F' H' v h (st.trans st') S' ?_
  cases fl with
  | false => exact hv
  | true =>
    rcases hv with ⟨a, e, o, nf, h0, np, nc⟩ | ⟨ds, G, ed, hG, R, hat⟩
    · refine .inl ⟨a, e, o, nf, S.h0 h0, np, nc, fun i e' hi hs => ?_⟩
      obtain ⟨b, q1, q2, _⟩ := S.slot i _ hi
      rw [hs] at q1; cases q1
      obtain ⟨_, _, _, ht⟩ := q2.there
      rw [ht] at h0; cases h0
    · refine .inr ⟨ds, G, ed, fun a ga => ?_, R, hat⟩
      obtain ⟨nf, h0, np, nc, tr⟩ := hG a ga
      refine ⟨nf, S.h0 h0, np, nc, tr, fun i e' hi hs => ?_⟩
      obtain ⟨b, q1, q2, _⟩ := S.slot i _ hi
      rw [hs] at q1; cases q1
      obtain ⟨_, _, _, ht⟩ := q2.there
      rw [ht] at h0; cases h0
/-- a call that gets a list of its own alone -/
theorem simN {c : Ctx} {F F' N : Addr → Prop} {r : Env} {σ : L2.St} {H H' : Hp} (S : Sim c F r σ H) (hN : ∀ a, N a → NewG c F r σ H a) (hl : ∀ a, N a → ∃ xs, H a = some (.lst xs)) (st' : Step N H F' H')
    (hk : ∀ a o, H a = some o → a ≠ c.p → ∃ o', H' a = some o' ∧ Lk o o' ∧ (o' = o ∨ N a)) (hp : PenAt c.p c.c0 H') :
    Step F H F H' ∧ Sim c F r σ H' ∧ ∀ a, (N a ∨ H a = none) → (∃ o, H' a = some o) → a ≠ c.p → a ≠ c.c0 → NewG c F r σ H' a := by
  have same : ∀ a o, H a = some o → a ≠ c.p → H' a = some o := fun a o e n => by
    obtain ⟨o', e', l, k⟩ := hk a o e n
    rcases k with k | k
    · rw [e', k]
    · obtain ⟨xs, ex⟩ := hl a k
      rw [e] at ex
      cases ex
      rw [e', l.lst]
  have st : Step F H F H' := by
    refine ⟨fun _ h => h, fun a o f e => ?_, fun a xs e => same a _ e fun z => ?_⟩
    · exact ⟨o, same a o e fun z => S.npF.1 (by rw [← z]; exact f), .refl o⟩
    · obtain ⟨_, _, _, e2, _⟩ := S.pen
      rw [← z, e] at e2
      cases e2
  refine ⟨st, sim_call S st (fun a o e n => ⟨o, same a o e n, .refl o, .inl rfl⟩) (fun a f => .inl f) (fun a f => ?_) hp S.npF.1 S.npF.2, fun a h tr np nc => ?_⟩
  · obtain ⟨o, e⟩ := S.ftrk a f
    exact ⟨o, same a o e fun z => S.npF.1 (by rw [← z]; exact f)⟩
  · rcases h with h | h
    · obtain ⟨g1, g2, _, _, _, g3⟩ := hN a h
      exact ⟨g1, g2, np, nc, tr, g3⟩
    · refine ⟨S.nF h, S.h0 h, np, nc, tr, fun i e' hi hs => ?_⟩
      obtain ⟨b, q1, q2, _⟩ := S.slot i _ hi
      rw [hs] at q1; cases q1
      obtain ⟨_, _, _, ht⟩ := q2.there
      rw [ht] at h; cases h
theorem step_inr {F G : Addr → Prop} {H : Hp} : Step G H (orF F G) H := ⟨fun _ h => .inr h, fun _ o _ h => ⟨o, h, .refl o⟩, fun _ _ h => h⟩
theorem se_calln (G : GOK W) {f : String} {fn : Fn} {a e : E} {ea ee : Expr} {g : Str} {q pos : Pos} (hne : f ≠ "find_worth") (hU : W.G.U f = some fn) (hg : fn.name = g) (hgl : isGl sc g = true) (hnm : okNm g = true) (p1 : plainE ea = true) (p2 : plainE ee = true) (ha : SE W sc a ea) (he : SE W sc e ee) :
    SE W sc (.calln f a e) (.Call (.Name g q) [ea, ee] [] pos) := by
  subst hg
  obtain ⟨ta, a1, a2⟩ := ha
  obtain ⟨te, e1, e2⟩ := he
  obtain ⟨fa, fd, m1, m2, m3, m4⟩ := G.fn f fn hne hU
  have pe : ∀ X, XOK W sc X → PE X (.Call (.Name fn.name q) [ea, ee] [] pos) (L2.tCallS (spOf fn.ps f (run W.G.U W.n)) (WE W.wx) (tCons ta (tCons te tNil))) := fun X O => by
    have m4' : FnOk X.prog X.w X.K X.mg X.base (L2.CX X.prog X.w) (W.n + 3) fa fd fn.ps (spOf fn.ps f (run W.G.U W.n)) := by rw [O.pr, O.w, O.K, O.mg, O.base]; exact m4
    exact L2.pe_callS m4' (by rw [O.A]; exact G.room) (isGl_ok O hgl) (by rw [O.mg]; exact m1) (by rw [O.K]; exact m2) (by rw [O.K]; exact m3) (fun σ => L2.passAt O.tk σ) (pa_cons (a1 X O).1 (pa_cons (e1 X O).1 pa_nil (star1 p2)) (star1 p1)) (okNm_ok hnm).1 (star1 p1) (star_any (by rw [List.all_cons, p2]; rfl))
  refine ⟨_, fun X O => ⟨pe X O, fun _ => ptv (pe X O) rfl⟩, fun {xp} c F rr σ _ H Q Q' S h hq => ?_⟩
  unfold evE at h
  refine a2 c F rr σ H _ _ S h fun fl da r1 F1 H1 va q1 st1 S1 ok1 => ?_
  obtain ⟨n1, q1⟩ := q1
  refine e2 c F1 r1 σ H1 _ _ S1 q1 fun fl2 de r2 F2 H2 ve q2 st2 S2 ok2 => ?_
  split at q2
  · rename_i ys
    obtain ⟨n2, q2⟩ := q2
    have ok3 : Frs c F2 r2 σ H2 (.lst ys) ve := ok2.elim id fun ⟨_, _, z, _⟩ => by cases z
    obtain ⟨b, rfl, ⟨xs, hb, lb, rb⟩, b1, b2, b3, b4, b5⟩ := ok3
    have hN : ∀ z, z = b → NewG c F2 r2 σ H2 z := fun z e => by rw [e]; exact ⟨b1, b2, b3, b4, ⟨_, hb⟩, b5⟩
    have R1 : Rep c.p (fun z => z = b) H2 da va := Rep.noL da va n1 (Rep.step st2 _ _ (Res.noL (F := F1) n1 ok1))
    have R2 : Reps c.p (fun z => z = b) H2 [da, .lst ys] [va, .ref b] := ⟨va, _, rfl, R1, .ref b, _, rfl, ⟨b, xs, rfl, rfl, hb, lb, Reps.noL ys xs n2 rb⟩, rfl⟩
    have hl : [da, D.lst ys].length = fn.ps.length := by
      cases hn : W.n with
      | zero =>
        have q1' : run W.G.U W.n f [da, .lst ys] _ _ := q2
        rw [hn, run_zero] at q1'
        exact q1'.elim
      | succ n =>
        have q1' : run W.G.U W.n f [da, .lst ys] _ _ := q2
        rw [hn, run_succ, hU] at q1'
        exact q1'.1
    refine ⟨c.p, c.c0, fun z => z = b, [da, .lst ys], _, _, R2, S2.pen, fun z => b3 z.symm, fun z => b4 z.symm, fun z e => by rw [e]; exact ⟨_, hb⟩, hl, q2, fun fl' d' h' v F' H' st' hk hn htr hp g1 g2 hv => ?_, fun cn n hx cls d F' H' st' hk hn htr hp g1 g2 hm hd => ?_⟩
    · obtain ⟨stN, SN, new⟩ := simN S2 hN (fun z e => by rw [e]; exact ⟨_, hb⟩) st' hk hp
      have newF : ∀ z, F' z → NewG c F2 r2 σ H' z := fun z f => new z (hn z f) (htr z f) (fun e => g1 (by rw [← e]; exact f)) fun e => g2 (by rw [← e]; exact f)
      have key : ∃ G2 : Addr → Prop, (∀ z, G2 z → NewG c F2 r2 σ H' z) ∧ Rep c.p G2 H' d' v := by
        cases fl' with
        | false => exact ⟨F', newF, hv⟩
        | true =>
          rcases hv with ⟨z, rfl, o, nf, h0, np, nc⟩ | ⟨ds, G2, ed, hG, R, _⟩
          · obtain ⟨_, _, _, tz⟩ := o.there
            refine ⟨Wa.addF F' z, fun y hy => hy.elim (newF y) fun e => by rw [e]; exact new z (.inr h0) ⟨_, tz⟩ np nc, (o.step step_addF fun _ q => q).rep (.inr rfl)⟩
          · refine ⟨orF F' G2, fun y hy => hy.elim (newF y) fun e => ?_, R⟩
            obtain ⟨_, h0, np, nc, tr⟩ := hG y e
            exact new y (.inr h0) tr np nc
      obtain ⟨G2, hG, R⟩ := key
      cases ht : isTupD d' with
      | true =>
        rw [ht] at h'
        obtain ⟨ds, rfl⟩ : ∃ ds, d' = .tup ds := by
          cases d' <;> first
            | exact ⟨_, rfl⟩
            | (cases ht; done)
        refine hq _ _ _ _ _ _ h' ((st1.trans st2).trans stN) SN (.inr ⟨ds, G2, rfl, hG, Rep.step step_inr _ _ R, fun p ys hp hy => ?_⟩)
        obtain ⟨w, ew, z, _, rfl, gz, _⟩ := rep_at R hy
        exact ⟨z, ew, gz⟩
      | false =>
        rw [ht] at h'
        exact hq _ _ _ _ _ _ h' (((st1.trans st2).trans stN).trans step_orF) (SN.addG hG) (Rep.step step_inr _ _ R)
    · obtain ⟨stN, SN, new⟩ := simN S2 hN (fun z e => by rw [e]; exact ⟨_, hb⟩) st' hk hp
      have newF : ∀ z, F' z → NewG c F2 r2 σ H' z := fun z f => new z (hn z f) (htr z f) (fun e => g1 (by rw [← e]; exact f)) fun e => g2 (by rw [← e]; exact f)
      refine XpOk.ok cn n (orF F2 F') r2 H' cls d hx (SN.addG newF) hm ?_
      cases n with
      | none => exact hd
      | some i =>
        obtain ⟨dx, e1, f1, e2⟩ := hd
        exact ⟨dx, e1, .inr f1, e2⟩
  · exact q2.elim
theorem se_fn (G : GOK W) {f : String} {fn : Fn} {os : Os} {a : Expr} {es : List Expr} {g : Str} {q pos : Pos} (hne : f ≠ "find_worth") (hU : W.G.U f = some fn) (hg : fn.name = g) (hgl : isGl sc g = true) (hnm : okNm g = true) (hos : SOs W sc os (a :: es)) :
    SE W sc (.call f os) (.Call (.Name g q) (a :: es) [] pos) := by
  subst hg
  have h0 := hos.1
  rw [List.all_cons, Bool.and_eq_true] at h0
  obtain ⟨_, t, a1, a2⟩ := hos
  obtain ⟨fa, fd, m1, m2, m3, m4⟩ := G.fn f fn hne hU
  have pe : ∀ X, XOK W sc X → PE X (.Call (.Name fn.name q) (a :: es) [] pos) (L2.tCallS (spOf fn.ps f (run W.G.U W.n)) (WE W.wx) t) := fun X O => by
    have m4' : FnOk X.prog X.w X.K X.mg X.base (L2.CX X.prog X.w) (W.n + 3) fa fd fn.ps (spOf fn.ps f (run W.G.U W.n)) := by rw [O.pr, O.w, O.K, O.mg, O.base]; exact m4
    exact L2.pe_callS m4' (by rw [O.A]; exact G.room) (isGl_ok O hgl) (by rw [O.mg]; exact m1) (by rw [O.K]; exact m2) (by rw [O.K]; exact m3) (fun σ => L2.passAt O.tk σ) (a1 X O) (okNm_ok hnm).1 (star1 h0.1) (star_any h0.2)
  refine ⟨_, fun X O => ⟨pe X O, fun _ => ptv (pe X O) rfl⟩, fun {xp} c F rr σ _ H Q Q' S h hq => ?_⟩
  unfold evE at h
  refine a2 c F rr σ H _ _ S h fun ts r1 F1 H1 vs q1 st1 S1 ok1 => ?_
  split at q1
  · rename_i ds e
    have R := reps_of ok1 e
    have hl : ds.length = fn.ps.length := by
      cases hn : W.n with
      | zero =>
        have q1' : run W.G.U W.n f ds _ _ := q1
        rw [hn, run_zero] at q1'
        exact q1'.elim
      | succ n =>
        have q1' : run W.G.U W.n f ds _ _ := q1
        rw [hn, run_succ, hU] at q1'
        exact q1'.1
    exact ⟨c.p, c.c0, F1, ds, _, _, R, S1.pen, S1.npF.1, S1.npF.2, S1.ftrk, hl, q1, post_of st1 S1 hq, fun cn n hx cls d F' H' st' hk hn htr hp n1 n2 hm hd => XpOk.ok cn n F' r1 H' cls d hx (sim_call S1 st' hk hn htr hp n1 n2) hm hd⟩
  · exact q1.elim
theorem res_pen {c : Ctx} {F : Addr → Prop} {r : Env} {σ : L2.St} {H : Hp} {fl : Bool} {v : V} (h : Res c F r σ H fl .pen v) : v = .ref c.p := by
  cases fl with
  | false => exact h
  | true =>
    rcases h with ⟨a, e, o, _⟩ | ⟨_, _, e, _⟩
    · exact False.elim o
    · cases e
/-- a name's list goes along -/
theorem se_mov {i : Nat} {x : Str} {pos : Pos} (h1 : W.N[i]? = some x) (h2 : isVis sc x = true) (h3 : okNm x = true) : SE W sc (.mov i) (.Name x pos) := by
  obtain ⟨g1, g2, _⟩ := okNm_ok h3
  refine ⟨tVar i, fun X O => ?_, fun {xp} c F r σ _ H Q Q' S h hq => ?_⟩
  · have pe : PE X (.Name x pos) (tVar i) := pe_var (by rw [O.N]; exact h1) (by rw [O.sc]; exact isVis_ok h2) g1 g2
    exact ⟨pe, fun _ => ptv pe rfl⟩
  · unfold evE at h
    cases e : r[i]? with
    | none => rw [e] at h; exact h.elim
    | some s =>
      rw [e] at h
      have q := S.slot i s e
      cases s with
      | no => exact h.elim
      | sh d => exact h.elim
      | ow d =>
        obtain ⟨a, h4, o, h5, h6, h7, h8⟩ := q
        have hlt := lt_of_get e
        have S1 : Sim c F (r.set i .no) σ H := S.reslot rfl (fun _ _ => rfl) (s := .no) trivial fun d e => by cases e
        refine ⟨_, h4, hq _ _ _ _ _ _ h .refl S1 (.inl ⟨a, rfl, o, h5, h6, h7, h8, fun j e' hj hs => ?_⟩)⟩
        by_cases z : j = i
        · subst z
          rw [get_set_eq hlt] at hj
          cases hj
        · rw [get_set_ne z] at hj
          exact z (S.sep j i a e' d hj e hs h4)
theorem se_tupp {s : Str} {e : E} {x : Expr} {j k : Nat} {p1 pos : Pos} (hp : plainE x = true) (he : SE W sc e x) : SE W sc (.tupp s e) (.Tuple [.Constant (.str s) j p1, x] k pos) := by
  obtain ⟨te, a1, a2⟩ := he
  obtain ⟨v, h1, h2⟩ := cst_ok (d := .str s) (k := .str s) (c := ⟨0, 0, fun _ => False, fun _ => none⟩) (F := fun _ => False) (H := fun _ => none) (decide_eq_true rfl) (j := j) (pos := p1)
  have h2' : v = .str s := h2 0 (fun _ => False) (fun _ => none)
  subst h2'
  have pe : ∀ X, XOK W sc X → PE X (.Tuple [.Constant (.str s) j p1, x] k pos) (tTup (tCons (tC (.str s)) (tCons te tNil))) := fun X O => pe_tup (pa_cons (h1 X) (pa_cons (a1 X O).1 pa_nil (star1 hp)) (star1 rfl))
  refine ⟨_, fun X O => ⟨pe X O, fun _ => ptv (pe X O) rfl⟩, fun {xp} c F rr σ _ H Q Q' S h hq => ?_⟩
  unfold evE at h
  refine a2 c F rr σ H _ _ S h fun fl d r1 F1 H1 v q1 st1 S1 ok1 => ?_
  split at q1
  · rename_i ys
    rcases ok1 with ⟨a, e, o, nf, h0, np, nc, ap⟩ | ⟨_, _, e, _⟩
    · subst e
      refine ⟨by rw [sizeLine_eq]; exact Nat.le_of_ble_eq_true rfl, fun t hn => ?_⟩
      have o2 := o.same (same_new (o := .tup [.str s, .ref a]) hn)
      obtain ⟨_, _, _, tr⟩ := o2.there
      refine hq _ _ _ _ _ _ q1 (st1.trans (Step.of_same (same_new hn))) (S1.same (same_new hn)) (.inr ⟨[.str s, .lst ys], fun z => z = a, rfl, fun z e => by rw [e]; exact ⟨nf, h0, np, nc, ⟨_, tr⟩, ap⟩, ?_, fun p zs hp hz => ?_⟩)
      · exact ⟨t, [.str s, .ref a], rfl, upd_same, by rw [sizeLine_eq]; exact Nat.le_of_ble_eq_true rfl, .str s, [.ref a], rfl, rfl, .ref a, [], rfl, (o2.step step_orF fun _ q => q).rep (.inr rfl), rfl⟩
      · have hp : (decide (p = [1]) || !isLst (some (.lst ys))) = true := hp
        rw [show isLst (some (.lst ys)) = true from rfl, Bool.not_true, Bool.or_false, decide_eq_true_eq] at hp
        subst hp
        exact ⟨a, atV_of (p := []) rfl upd_same rfl, rfl⟩
    · cases e
  · exact q1.elim
/-- three, the middle one a name's own list -/
theorem se_tupm {a cc : E} {j : Nat} {x : Str} {ea ec : Expr} {k : Nat} {px pos : Pos} (h1 : W.N[j]? = some x) (h2 : isVis sc x = true) (h3 : okNm x = true) (p1 : plainE ea = true) (p2 : plainE ec = true) (ha : SE W sc a ea) (hc : SE W sc cc ec) :
    SE W sc (.tupm a j cc) (.Tuple [ea, .Name x px, ec] k pos) := by
  obtain ⟨ta, a1, a2⟩ := ha
  obtain ⟨tc, c1, c2⟩ := hc
  obtain ⟨g1, g2, _⟩ := okNm_ok h3
  have pe : ∀ X, XOK W sc X → PE X (.Tuple [ea, .Name x px, ec] k pos) (tTup (tCons ta (tCons (tVar j) (tCons tc tNil)))) := fun X O =>
    pe_tup (pa_cons (a1 X O).1 (pa_cons (pe_var (by rw [O.N]; exact h1) (by rw [O.sc]; exact isVis_ok h2) g1 g2) (pa_cons (c1 X O).1 pa_nil (star1 p2)) (star1 rfl)) (star1 p1))
  refine ⟨_, fun X O => ⟨pe X O, fun _ => ptv (pe X O) rfl⟩, fun {xp} c F rr σ _ H Q Q' S h hq => ?_⟩
  unfold evE at h
  refine a2 c F rr σ H _ _ S h fun fl da r1 F1 H1 va q1 st1 S1 ok1 => ?_
  obtain ⟨F1', st1', S1', R1⟩ := S1.frz ok1
  obtain ⟨hj, q1⟩ := q1
  cases hx : owAt r1 j with
  | none => rw [hx] at hj; cases hj
  | some xs0 =>
    obtain ⟨b, vs0, hb, _⟩ := S1'.at_ow hx
    refine ⟨_, hb, ?_⟩
    refine c2 c F1' r1 σ H1 _ _ S1' q1 fun fl2 dc r2 F2 H2 vc q2 st2 S2 ok2 => ?_
    obtain ⟨F2', st2', S2', R2⟩ := S2.frz ok2
    cases hy : owAt r2 j with
    | none => rw [hy] at q2; exact q2.elim
    | some ys =>
      rw [hy] at q2
      have hi := owAt_ok hy
      obtain ⟨b', e4, o, h5, h6, h7, h8⟩ := S2'.slot j _ hi
      rw [hb] at e4
      cases e4
      have hlt := lt_of_get hi
      have S3 : Sim c F2' (r2.set j .no) σ H2 := S2'.reslot rfl (fun _ _ => rfl) (s := .no) trivial fun d e => by cases e
      refine ⟨by rw [sizeLine_eq]; exact Nat.le_of_ble_eq_true rfl, fun t hn => ?_⟩
      have sm := same_new (o := .tup [va, .ref b, vc]) hn
      have o2 := o.same sm
      obtain ⟨_, _, _, tr⟩ := o2.there
      have Ra := Rep.step (((st2.trans st2').trans (Step.of_same sm)).trans (step_orF (G := fun z => z = b))) _ _ R1
      have Rc := Rep.step ((Step.of_same sm).trans (step_orF (G := fun z => z = b))) _ _ R2
      have hN : NewG c F2' (r2.set j .no) σ (upd H2 t (.tup [va, .ref b, vc])) b := ⟨h5, h6, h7, h8, ⟨_, tr⟩, fun i e' hi' hs => by
        by_cases z : i = j
        · subst z
          rw [get_set_eq hlt] at hi'
          cases hi'
        · rw [get_set_ne z] at hi'
          exact z (S2'.sep i j b e' _ hi' hi hs hb)⟩
      refine hq _ _ _ _ _ _ q2 ((((st1.trans st1').trans st2).trans st2').trans (Step.of_same sm)) (S3.same sm) (.inr ⟨[da, .lst ys, dc], fun z => z = b, rfl, fun z e => by rw [e]; exact hN, ?_, fun p zs hp hz => ?_⟩)
      · exact ⟨t, [va, .ref b, vc], rfl, upd_same, by rw [sizeLine_eq]; exact Nat.le_of_ble_eq_true rfl, va, _, rfl, Ra, .ref b, _, rfl, (o2.step step_orF fun _ q => q).rep (.inr rfl), vc, _, rfl, Rc, rfl⟩
      · have hp : (decide (p = [1]) || !isLst (some (.lst ys))) = true := hp
        rw [show isLst (some (.lst ys)) = true from rfl, Bool.not_true, Bool.or_false, decide_eq_true_eq] at hp
        subst hp
        exact ⟨b, atV_of (p := []) rfl upd_same rfl, rfl⟩
/-- a dict and a list of names are changed by a call -/
theorem Sim.fwd {c : Ctx} {F F' : Addr → Prop} {r : Env} {σ : L2.St} {H H' : Hp} {t q : Nat} {a b : Addr} {kvs kvs' : List (Key × D)} {xs xs' : List D} (S : Sim c F r σ H) (ht : r[t]? = some (.ow (.dic kvs))) (hq : r[q]? = some (.ow (.lst xs))) (ha : σ[t]? = some (some (.ref a))) (hb : σ[q]? = some (some (.ref b)))
    (st : Step F H F' H') (hk : ∀ x o, H x = some o → x ≠ c.p → x ≠ a → x ≠ b → ∃ o', H' x = some o' ∧ Lk o o' ∧ (o' = o ∨ F x)) (hn : ∀ x, F' x → F x ∨ H x = none) (htr : ∀ x, F' x → ∃ o, H' x = some o) (hp : PenAt c.p c.c0 H') (n1 : ¬ F' c.p) (n2 : ¬ F' c.c0)
    (o1 : OwnD c.p F' H' a (.dic kvs')) (o2 : OwnD c.p F' H' b (.lst xs')) (na : ¬ F' a) (nb : ¬ F' b) : Sim c F' ((r.set t (.ow (.dic kvs'))).set q (.ow (.lst xs'))) σ H' := by
  obtain ⟨a', ea, oa, fa, h0a, pa, ca⟩ := S.slot t _ ht
  rw [ha] at ea; cases ea
  obtain ⟨b', eb, ob, fb, h0b, pb, cb⟩ := S.slot q _ hq
  rw [hb] at eb; cases eb
  have hlt := lt_of_get ht
  have hlq := lt_of_get hq
  have htq : q ≠ t := fun z => by rw [z, ht] at hq; cases hq
  have back : ∀ (i : Nat) (d : D), ((r.set t (.ow (.dic kvs'))).set q (.ow (.lst xs')))[i]? = some (.ow d) → ∃ d2, r[i]? = some (.ow d2) := fun i d e => by
    by_cases h : i = q
    · rw [h]; exact ⟨_, hq⟩
    · rw [get_set_ne h] at e
      by_cases h' : i = t
      · rw [h']; exact ⟨_, ht⟩
      · rw [get_set_ne h'] at e; exact ⟨_, e⟩
  refine ⟨by rw [List.length_set, List.length_set]; exact S.len, fun i s e => ?_, fun i j x d e hi hj si sj => ?_, fun x o e np => ?_, fun x f => st.mono x (S.fr0 x f), fun x f => (hn x f).elim (S.fnew x) fun z => .inr (S.h0 z), htr, hp, ⟨n1, n2⟩⟩
  · by_cases h : i = q
    · subst h
      rw [get_set_eq (by rw [List.length_set]; exact hlq)] at e
      cases e
      exact ⟨b, hb, o2, nb, h0b, pb, cb⟩
    · rw [get_set_ne h] at e
      by_cases h' : i = t
      · subst h'
        rw [get_set_eq hlt] at e
        cases e
        exact ⟨a, ha, o1, na, h0a, pa, ca⟩
      · rw [get_set_ne h'] at e
        have q0 := S.slot i s e
        cases s with
        | no => trivial
        | sh d =>
          obtain ⟨v, q1, q2⟩ := q0
          exact ⟨v, q1, Rep.step st _ _ q2⟩
        | ow d =>
          obtain ⟨x, q1, q2, q3, q4, q5, q6⟩ := q0
          obtain ⟨_, _, _, hx⟩ := q2.there
          have xa : x ≠ a := fun z => h' (S.sep i t a _ _ e ht (by rw [← z]; exact q1) ha)
          have xb : x ≠ b := fun z => h (S.sep i q b _ _ e hq (by rw [← z]; exact q1) hb)
          have nF : ¬ F' x := fun f => (hn x f).elim q3 fun z => by
            rw [hx] at z
            cases z
          exact ⟨x, q1, q2.step st fun o z => (by obtain ⟨o', e1, _, k⟩ := hk x o z q5 xa xb; exact k.elim (fun k => by rw [e1, k]) fun k => absurd k q3), nF, q4, q5, q6⟩
  · obtain ⟨d2, hi⟩ := back i d hi
    obtain ⟨e2, hj⟩ := back j e hj
    exact S.sep i j x d2 e2 hi hj si sj
  · obtain ⟨o1, e1, l1, k1⟩ := S.frame x o e np
    have xa : x ≠ a := fun z => by rw [z, h0a] at e; cases e
    have xb : x ≠ b := fun z => by rw [z, h0b] at e; cases e
    obtain ⟨o2, e2, l2, k2⟩ := hk x o1 e1 np xa xb
    refine ⟨o2, e2, l1.trans l2, ?_⟩
    rcases k1 with k1 | k1
    · rcases k2 with k2 | k2
      · exact .inl (k2.trans k1)
      · rcases S.fnew x k2 with z | z
        · exact .inr z
        · rw [e] at z; cases z
    · exact .inr k1
theorem slAt_some {r : Env} {i : Nat} (h : (slAt r i).isSome = true) : ∃ s, r[i]? = some s ∧ (slD s).isSome = true := by
  unfold slAt at h
  split at h
  · exact ⟨_, by assumption, h⟩
  · cases h
theorem shAt_ok {r : Env} {i : Nat} {d : D} (h : shAt r i = some d) : r[i]? = some (.sh d) := by
  unfold shAt at h
  split at h
  · cases h; assumption
  · cases h
theorem fwQ_ok {z : D} {Q : Bool → List (Key × D) → List D → Prop} (h : fwQ z Q) : ∃ b kvs xs, z = .tup [.bl b, .dic kvs, .lst xs] ∧ Q b kvs xs := by
  unfold fwQ at h
  split at h
  · exact ⟨_, _, _, rfl, h⟩
  · exact h.elim
theorem se_fw (G : GOK W) {s t q : Nat} {n : E} {z : Expr} {fn : Fn} {x y u g : Str} {p0 p1 p2 p3 pos : Pos} (hU : W.G.U "find_worth" = some fn) (hg : fn.name = g) (h4 : fn.ps.length = 4) (hgl : isGl sc g = true) (hnm : okNm g = true)
    (s1 : W.N[s]? = some x) (s2 : isVis sc x = true) (s3 : okNm x = true) (t1 : W.N[t]? = some y) (t2 : isVis sc y = true) (t3 : okNm y = true) (u1 : W.N[q]? = some u) (u2 : isVis sc u = true) (u3 : okNm u = true) (hz : plainE z = true) (hn : SE W sc n z) :
    SE W sc (.fw s t n q) (.Call (.Name g p0) [.Name x p1, .Name y p2, z, .Name u p3] [] pos) := by
  subst hg
  obtain ⟨tn, a1, a2⟩ := hn
  obtain ⟨fa, fd, m1, m2, m3, m4⟩ := G.fw fn hU
  obtain ⟨s4, s5, _⟩ := okNm_ok s3
  obtain ⟨t4, t5, _⟩ := okNm_ok t3
  obtain ⟨u4, u5, _⟩ := okNm_ok u3
  have pe : ∀ X, XOK W sc X → PE X (.Call (.Name fn.name p0) [.Name x p1, .Name y p2, z, .Name u p3] [] pos) (tCall (spFw (run W.G.U W.n)) [] E0 (tCons (tVar s) (tCons (tVar t) (tCons tn (tCons (tVar q) tNil))))) := fun X O => by
    have m4' : FnOk X.prog X.w X.K X.mg X.base CX0 (W.n + 3) fa fd fn.ps (spFw (run W.G.U W.n)) := by rw [O.pr, O.w, O.K, O.mg, O.base]; exact m4
    exact pe_call m4' (by rw [O.A]; exact G.room) (isGl_ok O hgl) (by rw [O.mg]; exact m1) (by rw [O.K]; exact m2) (by rw [O.K]; exact m3) .nil pass0
      (pa_cons (pe_var (by rw [O.N]; exact s1) (by rw [O.sc]; exact isVis_ok s2) s4 s5) (pa_cons (pe_var (by rw [O.N]; exact t1) (by rw [O.sc]; exact isVis_ok t2) t4 t5) (pa_cons (a1 X O).1 (pa_cons (pe_var (by rw [O.N]; exact u1) (by rw [O.sc]; exact isVis_ok u2) u4 u5) pa_nil (star1 rfl)) (star1 hz)) (star1 rfl)) (star1 rfl)) (okNm_ok hnm).1 (star1 rfl) (star_any (by rw [List.all_cons, List.all_cons, hz]; rfl))
  refine ⟨_, fun X O => ⟨pe X O, fun _ => ptv (pe X O) rfl⟩, fun {xp} c F rr σ _ H Q Q' S h hq => ?_⟩
  unfold evE at h
  obtain ⟨k1, k2, h⟩ := h
  have hv : ∃ v, σ[s]? = some (some v) := by
    obtain ⟨s0, e0, e1⟩ := slAt_some k1
    have q0 := S.slot s s0 e0
    cases s0 with
    | no => cases e1
    | sh d => obtain ⟨v, q1, _⟩ := q0; exact ⟨v, q1⟩
    | ow d => obtain ⟨a, q1, _⟩ := q0; exact ⟨_, q1⟩
  obtain ⟨vst, hs⟩ := hv
  cases hd : dicAt rr t with
  | none => rw [hd] at k2; cases k2
  | some kv0 =>
  obtain ⟨a, _, ha, _⟩ := S.at_dic hd
  refine ⟨_, hs, _, ha, ?_⟩
  refine a2 c F rr σ H _ _ S h fun fl d r1 F1 H1 v q1 st1 S1 ok1 => ?_
  split at q1
  · rename_i nm sd kvs xs es et eq
    cases res_int ok1
    have ht := dicAt_ok et
    have hq2 := owAt_ok eq
    obtain ⟨v', e1, R⟩ := S1.slot s _ (shAt_ok es)
    rw [hs] at e1; cases e1
    obtain ⟨a', e2, o1, f1, z1, p1, c1⟩ := S1.slot t _ ht
    rw [ha] at e2; cases e2
    obtain ⟨b, hb, o2, f2, z2, p2, c2⟩ := S1.slot q _ hq2
    refine ⟨_, hb, ?_⟩
    show spFw (run W.G.U W.n) [vst, .ref a, .int nm, .ref b] H1 Q' E0
    refine ⟨c.p, c.c0, F1, a, b, sd, kvs, nm, xs, vst, _, rfl, R, o1, o2, f1, f2, p1, c1, p2, c2, S1.pen, S1.npF.1, S1.npF.2, S1.ftrk, q1, fun fl d hR => ?_⟩
    obtain ⟨b', kvs', xs', ez, hR⟩ := fwQ_ok hR
    refine ⟨b', kvs', xs', ez, ?_⟩
    intro F' H' st' hk hn' htr hp n1 n2 o1' o2' na nb
    exact hq _ _ _ _ _ _ hR (st1.trans st') (S1.fwd ht hq2 ha hb st' hk hn' htr hp n1 n2 o1' o2' na nb) rfl
  · exact q1.elim
theorem se_draw (G : GOK W) {o n : E} {a b : Expr} {g : Str} {q pos : Pos} (hg : g = ("_law_take" : Str)) (hgl : isGl sc g = true) (pa : plainE a = true) (pb : plainE b = true) (ho : SE W sc o a) (hn : SE W sc n b) :
    SE W sc (.draw o n) (.Call (.Name g q) [a, b] [] pos) := by
  subst hg
  obtain ⟨ta, a1, a2⟩ := ho
  obtain ⟨tb, b1, b2⟩ := hn
  obtain ⟨fa, fd, m1, m2, m3, m4⟩ := G.take
  have pe : ∀ X, XOK W sc X → PE X (.Call (.Name ("_law_take" : Str) q) [a, b] [] pos) (tCall spTake [] E0 (tCons ta (tCons tb tNil))) := fun X O => by
    have m4' : FnOk X.prog X.w X.K X.mg X.base CX0 (W.n + 3) fa fd ["pen", "many"] spTake := by rw [O.pr, O.w, O.K, O.mg, O.base]; exact m4
    exact pe_call m4' (by rw [O.A]; exact G.room) (isGl_ok O hgl) (by rw [O.mg]; exact m1) (by rw [O.K]; exact m2) (by rw [O.K]; exact m3) .nil pass0 (pa_cons (a1 X O).1 (pa_cons (b1 X O).1 pa_nil (star1 pb)) (star1 pa)) (by decide +kernel) (star1 pa) (star_any (by rw [List.all_cons, pb]; rfl))
  refine ⟨_, fun X O => ⟨pe X O, fun _ => ptv (pe X O) rfl⟩, fun {xp} c F rr σ _ H Q Q' S h hq => ?_⟩
  unfold evE at h
  refine a2 c F rr σ H _ _ S h fun fl d r1 F1 H1 v q1 st1 S1 ok1 => ?_
  split at q1
  · cases res_pen ok1
    refine b2 c F1 r1 σ H1 _ _ S1 q1 fun fl2 d2 r2 F2 H2 u q2 st2 S2 ok2 => ?_
    split at q2
    · cases res_int ok2
      obtain ⟨g1, g2, g3⟩ := q2
      refine ⟨c.p, c.c0, _, rfl, S2.pen, g1, g2, fun k at_ st h0 hk ha => ?_⟩
      obtain ⟨st3, S3⟩ := S2.drawn (st := st) ha
      exact hq _ _ _ _ _ _ (g3 k h0 hk) ((st1.trans st2).trans st3) S3 rfl
    · exact q2.elim
  · exact q1.elim
theorem se_anew (G : GOK W) {o : E} {a : Expr} {g : Str} {q pos : Pos} (hg : g = ("_law_anew" : Str)) (hgl : isGl sc g = true) (pa : plainE a = true) (ho : SE W sc o a) : SE W sc (.anew o) (.Call (.Name g q) [a] [] pos) := by
  subst hg
  obtain ⟨ta, a1, a2⟩ := ho
  obtain ⟨fa, fd, m1, m2, m3, m4⟩ := G.anew
  have pe : ∀ X, XOK W sc X → PE X (.Call (.Name ("_law_anew" : Str) q) [a] [] pos) (tCall spAnew [] E0 (tCons ta tNil)) := fun X O => by
    have m4' : FnOk X.prog X.w X.K X.mg X.base CX0 (W.n + 3) fa fd ["pen"] spAnew := by rw [O.pr, O.w, O.K, O.mg, O.base]; exact m4
    exact pe_call m4' (by rw [O.A]; exact G.room) (isGl_ok O hgl) (by rw [O.mg]; exact m1) (by rw [O.K]; exact m2) (by rw [O.K]; exact m3) .nil pass0 (pa_cons (a1 X O).1 pa_nil (star1 pa)) (by decide +kernel) (star1 pa) (star_any (by rfl))
  refine ⟨_, fun X O => ⟨pe X O, fun _ => ptv (pe X O) rfl⟩, fun {xp} c F rr σ _ H Q Q' S h hq => ?_⟩
  unfold evE at h
  refine a2 c F rr σ H _ _ S h fun fl d r1 F1 H1 v q1 st1 S1 ok1 => ?_
  split at q1
  · cases res_pen ok1
    refine ⟨c.p, c.c0, rfl, S1.pen, fun at_ st ha => ?_⟩
    obtain ⟨st3, S3⟩ := S1.drawn (st := st) ha
    exact hq _ _ _ _ _ _ q1 (st1.trans st3) S3 rfl
  · exact q1.elim
/-! ### tests -/
theorem st_val {e : E} {x : Expr} (h : SE W sc e x) (hc : cmpE x = true) : ST W sc (.val e) x := by
  obtain ⟨t, a1, a2⟩ := h
  have hb : bopE x = true → False := by
    intro z
    cases x <;> first
      | (cases z; done)
      | (cases hc; done)
  refine ⟨tTest t, fun X O => ⟨(a1 X O).2 hc, fun z => (hb z).elim⟩, fun {xp} c F rr σ _ H Q Q' S h hq => ?_⟩
  unfold evT at h
  refine a2 c F rr σ H _ _ S h fun fl d r1 F1 H1 v q1 st1 S1 ok1 => ?_
  split at q1
  · exact ⟨_, res_bl ok1, hq _ _ _ _ q1 st1 S1⟩
  · exact q1.elim
theorem st_not {t : T} {x : Expr} {pos : Pos} (h : ST W sc t x) : ST W sc (.not t) (.UnaryOp .Not x pos) := by
  obtain ⟨t, a1, a2⟩ := h
  refine ⟨tNot t, fun X O => ⟨pt_not (a1 X O).1, fun z => nomatch z⟩, fun {xp} c F rr σ _ H Q Q' S h hq => ?_⟩
  unfold evT at h
  exact a2 c F rr σ H _ _ S h fun b r1 F1 H1 q1 st1 S1 => hq _ _ _ _ q1 st1 S1
theorem semT_and {a b : T} {ta tb : TT} (ha : SemT W a ta) (hb : SemT W b tb) : SemT W (.and a b) (tAnd ta tb) := by
  intro xp c F rr σ _ H Q Q' S h hq
  unfold evT at h
  refine ha c F rr σ H _ _ S h fun b r1 F1 H1 q1 st1 S1 => ?_
  cases b with
  | true =>
    rw [if_pos rfl] at q1 ⊢
    exact hb c F1 r1 σ H1 _ _ S1 q1 fun b r' F' H' q st => hq b r' F' H' q (st1.trans st)
  | false =>
    rw [if_neg Bool.false_ne_true] at q1 ⊢
    exact hq _ _ _ _ q1 st1 S1
theorem semT_or {a b : T} {ta tb : TT} (ha : SemT W a ta) (hb : SemT W b tb) : SemT W (.or a b) (tOr ta tb) := by
  intro xp c F rr σ _ H Q Q' S h hq
  unfold evT at h
  refine ha c F rr σ H _ _ S h fun b r1 F1 H1 q1 st1 S1 => ?_
  cases b with
  | false =>
    rw [if_neg Bool.false_ne_true] at q1 ⊢
    exact hb c F1 r1 σ H1 _ _ S1 q1 fun b r' F' H' q st => hq b r' F' H' q (st1.trans st)
  | true =>
    rw [if_pos rfl] at q1 ⊢
    exact hq _ _ _ _ q1 st1 S1
theorem st_and2 {a b : T} {x y : Expr} {pos : Pos} (ha : ST W sc a x) (hb : ST W sc b y) : ST W sc (.and a b) (.BoolOp .And [x, y] pos) := by
  obtain ⟨ta, a1, a2⟩ := ha
  obtain ⟨tb, b1, b2⟩ := hb
  have pw : ∀ X, XOK W sc X → PW X (.BoolOp .And [x, y] pos) (tAnd ta tb) := fun X O => pw_and (a1 X O).1 (pw_and1 (b1 X O).1)
  exact ⟨_, fun X O => ⟨(pw X O).pt, fun _ => pw X O⟩, semT_and a2 b2⟩
theorem st_and3 {a b : T} {x y : Expr} {r : List Expr} {pos : Pos} (ha : ST W sc a x) (hb : ST W sc b (.BoolOp .And (y :: r) pos)) : ST W sc (.and a b) (.BoolOp .And (x :: y :: r) pos) := by
  obtain ⟨ta, a1, a2⟩ := ha
  obtain ⟨tb, b1, b2⟩ := hb
  have pw : ∀ X, XOK W sc X → PW X (.BoolOp .And (x :: y :: r) pos) (tAnd ta tb) := fun X O => pw_and (a1 X O).1 ((b1 X O).2 rfl)
  exact ⟨_, fun X O => ⟨(pw X O).pt, fun _ => pw X O⟩, semT_and a2 b2⟩
theorem st_or2 {a b : T} {x y : Expr} {pos : Pos} (ha : ST W sc a x) (hb : ST W sc b y) : ST W sc (.or a b) (.BoolOp .Or [x, y] pos) := by
  obtain ⟨ta, a1, a2⟩ := ha
  obtain ⟨tb, b1, b2⟩ := hb
  have pw : ∀ X, XOK W sc X → PW X (.BoolOp .Or [x, y] pos) (tOr ta tb) := fun X O => pw_or (a1 X O).1 (pw_or1 (b1 X O).1)
  exact ⟨_, fun X O => ⟨(pw X O).pt, fun _ => pw X O⟩, semT_or a2 b2⟩
theorem st_or3 {a b : T} {x y : Expr} {r : List Expr} {pos : Pos} (ha : ST W sc a x) (hb : ST W sc b (.BoolOp .Or (y :: r) pos)) : ST W sc (.or a b) (.BoolOp .Or (x :: y :: r) pos) := by
  obtain ⟨ta, a1, a2⟩ := ha
  obtain ⟨tb, b1, b2⟩ := hb
  have pw : ∀ X, XOK W sc X → PW X (.BoolOp .Or (x :: y :: r) pos) (tOr ta tb) := fun X O => pw_or (a1 X O).1 ((b1 X O).2 rfl)
  exact ⟨_, fun X O => ⟨(pw X O).pt, fun _ => pw X O⟩, semT_or a2 b2⟩
end
end Wa

/-! what is walked, targets, comprehensions -/
namespace Wa
open PySem PySem.Spec PyProof.Rows L2 RZ
variable [CM]

/-- what a walk gives: the items, one after another -/
def WOk (p : Addr) (F : Addr → Prop) (H : Hp) (J : It) (items : List D) : Prop := items.length ≤ sizeLine ∧ ∃ (G : Hp → Prop) (Y : Nat → Hp → V → Hp → Prop), Walk J items.length G Y ∧ (∀ F' H', Step F H F' H' → G H') ∧
  ∀ F' H' (i : Nat) x H'' d, Step F H F' H' → items[i]? = some d → Y i H' x H'' → Same H' H'' ∧ Rep p F' H'' d x
def SemI (W : Wd) (ir : I) (t : TI) : Prop := ∀ {xp : D → Env → Prop} (c : Ctx) (F : Addr → Prop) (r : Env) (σ : L2.St) [XpOk W xp c σ] (H : Hp) (Q : List D → Env → Prop) (R : It → Hp → Prop), Sim c F r σ H → evI W.cl xp ir r Q →
  (∀ items r' F' H' J, Q items r' → Step F H F' H' → Sim c F' r' σ H' → WOk c.p F' H' J items → R J H') → t σ H R
def SI (W : Wd) (sc : Scope) (ir : I) (tg e : Expr) : Prop := ∃ t, (∀ X, XOK W sc X → PI X tg e t ∧ ∀ x, foldedSetIterable e X.env x = pure x) ∧ SemI W ir t
section
variable {W : Wd} {sc : Scope} {X : Cx}
theorem noFold {e : Expr} (env : PySem.Env) (h : notSet e = true) : ∀ x, foldedSetIterable e env x = pure x := by
  intro x
  cases e <;> first
    | rfl
    | (cases h; done)
/-- a list, a tuple, the keys of a dict, which is locked -/
def iSeq (K : PySem.W.Frag) (tl : TE) : TI := fun σ H R => tl σ H fun x H1 => (∃ a, x = .ref a ∧ (∃ xs, SqL K H1 a xs) ∧ R (Itl K a) H1) ∨ (∃ a, x = .ref a ∧ (∃ xs, SqT K H1 a xs) ∧ R (Itt K a) H1) ∨
  (∃ a kvs, x = .ref a ∧ ((H1 a = some (.dK kvs) ∧ ∀ o, R (Itk a o kvs) (upd H1 a (.frz o (.dK kvs)))) ∨ ∃ o, H1 a = some (.frz o (.dK kvs)) ∧ R (Itk a o kvs) H1))
theorem pi_seq {tg l : Expr} {tl : TE} (hl : PE X l tl) : PI X tg l (iSeq X.K tl) := by
  refine ⟨fun pins s σ H R I h => ?_⟩
  refine thn (hl.run pins s σ H _ I h) fun v s1 ⟨x, H1, I1, r1, q1⟩ => ?_
  rcases q1 with ⟨a, e, ⟨xs, hq⟩, q⟩ | ⟨a, e, ⟨xs, hq⟩, q⟩ | ⟨a, kvs, e, ⟨hk, q⟩ | ⟨o, hk, q⟩⟩
  · subst e
    cases r1
    obtain ⟨its, rv, p, hz⟩ := I1.list hq
    refine wpAny_pyIter_list p.isList ?_
    refine ⟨s1.heap.objs.size, [s1.heap.objs.size], _, _, H1, rfl, I1.kept (t' := s1.toks) fun b o e => Heap.get?_push_of_some _ e, turn_list a _, ⟨_, Heap.get?_push_size _ rfl, rfl, rfl⟩, fun b hb => ?_, q⟩
    have e : b = s1.heap.objs.size := by simpa using hb
    subst e
    exact I1.fpOk (Nat.le_refl _) (I1.hok.fresh (Nat.le_refl _))
  · subst e
    cases r1
    obtain ⟨its, rv, p, hz⟩ := I1.tuple hq
    refine wpAny_pyIter_tuple (show s1.heap.IsTuple a its.toArray from p) ?_
    refine ⟨s1.heap.objs.size, [s1.heap.objs.size], _, _, H1, rfl, I1.kept (t' := s1.toks) fun b o e => Heap.get?_push_of_some _ e, turn_tuple a _, ⟨_, Heap.get?_push_size _ rfl, rfl, rfl⟩, fun b hb => ?_, q⟩
    have e : b = s1.heap.objs.size := by simpa using hb
    subst e
    exact I1.fpOk (Nat.le_refl _) (I1.hok.fresh (Nat.le_refl _))
  · subst e
    obtain rfl : v = Value.ref a := r1
    obtain ⟨od, I2⟩ := I1.lock hk trivial
    obtain ⟨hs, hgd, hx, es, ep, vs, hdt, hsz, kv, hm⟩ := I2.frzK upd_same
    refine iter_keys hs hgd hx hdt (pi_one (tk := s1.toks) I2 _ (turn_keys _ hdt) ⟨_, Heap.get?_push_size _ rfl, rfl, ?_⟩ (q od))
    rw [hsz] <;> rfl
  · subst e
    obtain rfl : v = Value.ref a := r1
    obtain ⟨hs, hgd, hx, es, ep, vs, hdt, hsz, kv, hm⟩ := I1.frzK hk
    refine iter_keys hs hgd hx hdt (pi_one (tk := s1.toks) I1 _ (turn_keys _ hdt) ⟨_, Heap.get?_push_size _ rfl, rfl, ?_⟩ q)
    rw [hsz] <;> rfl
theorem repk_at {p : Addr} {F : Addr → Prop} {H : Hp} : ∀ {ds : List (Key × D)} {xs : List (Key × V)} {i : Nat} {k : Key} {d : D}, Repk p F H ds xs → ds[i]? = some (k, d) → ∃ v, xs[i]? = some (k, v)
  | [], _, i, k, d, _, e => by cases e
  | (j, y) :: ds, _, 0, k, d, h, e => by
    obtain ⟨v, vs, rfl, a, b⟩ := h
    rw [List.getElem?_cons_zero] at e ⊢
    cases e
    exact ⟨v, rfl⟩
  | (j, y) :: ds, _, i + 1, k, d, h, e => by
    obtain ⟨v, vs, rfl, a, b⟩ := h
    rw [List.getElem?_cons_succ] at e ⊢
    exact repk_at b e
theorem wok_keys {p : Addr} {F : Addr → Prop} {H : Hp} {a : Addr} {o : Obj} {ds : List (Key × D)} {xs : List (Key × V)} (f : F a) (e : H a = some (.frz o (.dK xs))) (l : ds.length ≤ sizeLine) (r : Repk p F H ds xs) : WOk p F H (Itk a o xs) (ds.map fun kv => keyV kv.1) := by
  have hl := r.length
  refine ⟨by rw [List.length_map]; exact l, fun H => H a = some (.frz o (.dK xs)), fun i H x H' => H' = H ∧ ∃ k v, xs[i]? = some (k, v) ∧ x = kV k, ⟨fun i H hi g => ⟨g, ?_⟩, fun H g => ⟨g, ?_⟩, fun i H x H' hi g y => y⟩, fun F' H' st => st.frz f e, fun F' H' i x H'' d st hd y => ?_⟩
  · rw [List.length_map] at hi; omega
  · rw [List.length_map]; omega
  · obtain ⟨rfl, k, v, hx, rfl⟩ := y
    rw [List.getElem?_map] at hd
    cases e2 : ds[i]? with
    | none => rw [e2] at hd; cases hd
    | some kd =>
      rw [e2] at hd
      cases hd
      obtain ⟨k2, d2⟩ := kd
      obtain ⟨v2, hv⟩ := repk_at r e2
      rw [hx] at hv
      cases hv
      refine ⟨Same.refl _, ?_⟩
      cases k with
      | inl i => exact rfl
      | inr s => exact rfl
theorem wok_list {K : PySem.W.Frag} {p : Addr} {F : Addr → Prop} {H : Hp} {a : Addr} {xs : List V} {ds : List D} (f : F a) (e : H a = some (.lst xs)) (l : ds.length ≤ sizeLine) (r : Reps p F H ds xs) : WOk p F H (Itl K a) ds := by
  refine ⟨l, _, _, by rw [← r.length]; exact walk_list (xs := xs), fun F' H' st => SqL.of (st.lst f e), fun F' H' i x H'' d st hd y => ?_⟩
  obtain ⟨rfl, hx⟩ := y
  obtain ⟨v, hv, rv⟩ := r.get hd
  rw [hv] at hx; cases hx
  exact ⟨Same.refl _, Rep.step st _ _ rv⟩
theorem wok_tup {K : PySem.W.Frag} {p : Addr} {F : Addr → Prop} {H : Hp} {a : Addr} {xs : List V} {ds : List D} (e : H a = some (.tup xs)) (l : ds.length ≤ sizeLine) (r : Reps p F H ds xs) : WOk p F H (Itt K a) ds := by
  refine ⟨l, _, _, by rw [← r.length]; exact walk_tup (xs := xs), fun F' H' st => SqT.of (st.tups a _ e), fun F' H' i x H'' d st hd y => ?_⟩
  obtain ⟨rfl, hx⟩ := y
  obtain ⟨v, hv, rv⟩ := r.get hd
  rw [hv] at hx; cases hx
  exact ⟨Same.refl _, Rep.step st _ _ rv⟩
theorem rangeL_get {lo c : Int} {n i : Nat} {d : D} (h : (rangeL lo c n)[i]? = some d) : i < n ∧ d = .int (lo + (i : Nat) * c) := by
  unfold rangeL at h
  rw [List.getElem?_map] at h
  by_cases hi : i < n
  · rw [List.getElem?_range hi] at h
    cases h
    exact ⟨hi, rfl⟩
  · rw [List.getElem?_eq_none (by simpa using hi)] at h
    cases h
theorem rangeL_len {lo c : Int} {n : Nat} : (rangeL lo c n).length = n := by unfold rangeL; simp
theorem wok_range {p : Addr} {F : Addr → Prop} {H : Hp} {lo : Int} {n : Nat} (hn : n ≤ 16777216) : WOk p F H (Itr lo n) (rangeL lo 1 n) := by
  refine ⟨by rw [rangeL_len, sizeLine_eq]; exact hn, _, _, by rw [rangeL_len]; exact walk_range, fun _ _ _ => trivial, fun F' H' i x H'' d st hd y => ?_⟩
  obtain ⟨rfl, rfl⟩ := y
  obtain ⟨h1, rfl⟩ := rangeL_get hd
  refine ⟨Same.refl _, ?_⟩
  rw [Int.mul_one]
  rfl
theorem in62_ok {i : Int} (h : in62 i = true) : -(2 ^ 62) ≤ i ∧ i < 2 ^ 62 ∧ -8388608 ≤ i ∧ i ≤ 8388608 := by
  unfold in62 at h
  simp only [Bool.and_eq_true, decide_eq_true_eq] at h
  omega
theorem si_seq {e : E} {tg x : Expr} (h : SE W sc e x) (hx : notSet x = true) : SI W sc (.seq e) tg x := by
  obtain ⟨t, a1, a2⟩ := h
  refine ⟨iSeq W.K t, fun X O => ⟨by rw [← O.K]; exact pi_seq (a1 X O).1, noFold _ hx⟩, fun {xp} c F rr σ _ H Q R S h hq => ?_⟩
  unfold evI at h
  refine a2 c F rr σ H _ _ S h fun fl d r1 F1 H1 v q1 st1 S1 ok1 => ?_
  obtain ⟨F2, st2, S2, R2⟩ := S1.frz ok1
  cases d with
  | lst ds =>
    obtain ⟨a, xs, rfl, f, e, l, r⟩ := R2
    exact .inl ⟨a, rfl, ⟨xs, SqL.of e⟩, hq ds r1 F2 H1 _ q1 (st1.trans st2) S2 (wok_list f e l r)⟩
  | tup ds =>
    obtain ⟨a, xs, rfl, e, l, r⟩ := R2
    exact .inr (.inl ⟨a, rfl, ⟨xs, SqT.of e⟩, hq ds r1 F2 H1 _ q1 (st1.trans st2) S2 (wok_tup e l r)⟩)
  | dic ds =>
    obtain ⟨a, xs, rfl, f, e, l, r⟩ := R2
    refine .inr (.inr ⟨a, xs, rfl, ?_⟩)
    rcases e with e | ⟨o, e⟩
    · refine .inl ⟨e, fun o => ?_⟩
      obtain ⟨st3, S3⟩ := S2.lock f e o
      exact hq _ r1 F2 _ _ q1 ((st1.trans st2).trans st3) S3 (wok_keys f upd_same l (Repk.step st3 _ _ r))
    · exact .inr ⟨o, e, hq _ r1 F2 H1 _ q1 (st1.trans st2) S2 (wok_keys f e l r)⟩
  | _ => exact q1.elim
theorem si_rng1 (G : GOK W) {a : E} {tg x : Expr} {f : Str} {q pos : Pos} (hf : f = ("range" : Str)) (hg : isGl sc f = true) (px : plainE x = true) (h : SE W sc a x) : SI W sc (.rng1 a) tg (.Call (.Name f q) [x] [] pos) := by
  subst hf
  obtain ⟨t, a1, a2⟩ := h
  refine ⟨iRng1 (tCons t tNil), fun X O => ⟨pi_range1 (isGl_ok O hg) (by rw [O.mg]; exact G.b11) (pa_cons (a1 X O).1 pa_nil (star1 px)) (star1 px), noFold _ rfl⟩, fun {xp} c F rr σ _ H Q R S h hq => ?_⟩
  unfold evI at h
  refine a2 c F rr σ H _ _ S h fun fl d r1 F1 H1 v q1 st1 S1 ok1 => ?_
  split at q1
  · cases res_int ok1
    obtain ⟨h1, h2⟩ := q1
    obtain ⟨h3, h4, h5, h6⟩ := in62_ok h1
    exact ⟨_, rfl, h3, h4, hq _ _ _ _ _ h2 st1 S1 (wok_range (by omega))⟩
  · exact q1.elim
theorem si_rng2 (G : GOK W) {a b : E} {tg x y : Expr} {f : Str} {q pos : Pos} (hf : f = ("range" : Str)) (hg : isGl sc f = true) (px : plainE x = true) (py : plainE y = true) (ha : SE W sc a x) (hb : SE W sc b y) : SI W sc (.rng2 a b) tg (.Call (.Name f q) [x, y] [] pos) := by
  subst hf
  obtain ⟨t, a1, a2⟩ := ha
  obtain ⟨u, b1, b2⟩ := hb
  refine ⟨iRng2 (tCons t (tCons u tNil)), fun X O => ⟨pi_range2 (isGl_ok O hg) (by rw [O.mg]; exact G.b11) (pa_cons (a1 X O).1 (pa_cons (b1 X O).1 pa_nil (star1 py)) (star1 px)) (by rw [star1 px, star1 py]; rfl) (by rw [star1 py]; rfl), noFold _ rfl⟩, fun {xp} c F rr σ _ H Q R S h hq => ?_⟩
  unfold evI at h
  refine a2 c F rr σ H _ _ S h fun fl d r1 F1 H1 v q1 st1 S1 ok1 => ?_
  refine b2 c F1 r1 σ H1 _ _ S1 q1 fun fl2 d2 r2 F2 H2 u q2 st2 S2 ok2 => ?_
  split at q2
  · cases res_int ok1
    cases res_int ok2
    obtain ⟨h1, h2, h3⟩ := q2
    obtain ⟨h4, h5, h8, h9⟩ := in62_ok h1
    obtain ⟨h6, h7, h10, h11⟩ := in62_ok h2
    exact ⟨_, _, rfl, ⟨h4, h5, h6, h7⟩, hq _ _ _ _ _ h3 (st1.trans st2) S2 (wok_range (by omega))⟩
  · exact q2.elim
theorem wok_down {p : Addr} {F : Addr → Prop} {H : Hp} {lo : Int} {n : Nat} (hn : n ≤ 16777216) : WOk p F H (Itc lo (-1) n) (rangeL lo (-1) n) := by
  refine ⟨by rw [rangeL_len, sizeLine_eq]; exact hn, fun _ => True, fun i H x H' => H' = H ∧ x = .int (lo + (i : Nat) * (-1)), ⟨fun i H hi _ => by rw [rangeL_len] at hi; exact hi, fun H _ => by rw [rangeL_len]; exact Nat.le_refl _, fun i H x H' _ _ y => ?_⟩, fun _ _ _ => trivial, fun F' H' i x H'' d st hd y => ?_⟩
  · obtain ⟨e1, e2⟩ := y
    first
    | exact ⟨e1, e2⟩
    | exact ⟨e2, e1⟩
  · obtain ⟨rfl, rfl⟩ := y
    obtain ⟨h1, rfl⟩ := rangeL_get hd
    exact ⟨Same.refl _, rfl⟩
theorem si_rng3 (G : GOK W) {a b d : E} {tg x y z : Expr} {f : Str} {q pos : Pos} (hf : f = ("range" : Str)) (hg : isGl sc f = true) (px : plainE x = true) (py : plainE y = true) (pz : plainE z = true) (ha : SE W sc a x) (hb : SE W sc b y) (hd : SE W sc d z) : SI W sc (.rng3 a b d) tg (.Call (.Name f q) [x, y, z] [] pos) := by
  subst hf
  obtain ⟨t, a1, a2⟩ := ha
  obtain ⟨u, b1, b2⟩ := hb
  obtain ⟨v, d1, d2⟩ := hd
  refine ⟨iRng3 (tCons t (tCons u (tCons v tNil))), fun X O => ⟨pi_range3 (isGl_ok O hg) (by rw [O.mg]; exact G.b11) (pa_cons (a1 X O).1 (pa_cons (b1 X O).1 (pa_cons (d1 X O).1 pa_nil (star1 pz)) (star1 py)) (star1 px)) (by rw [star1 px, star1 py]) (by rw [star1 py, star1 pz]; rfl), noFold _ rfl⟩, fun {xp} c F rr σ _ H Q R S h hq => ?_⟩
  unfold evI at h
  refine a2 c F rr σ H _ _ S h fun fl d r1 F1 H1 v q1 st1 S1 ok1 => ?_
  refine b2 c F1 r1 σ H1 _ _ S1 q1 fun fl2 d2' r2 F2 H2 u q2 st2 S2 ok2 => ?_
  refine d2 c F2 r2 σ H2 _ _ S2 q2 fun fl3 d3' r3 F3 H3 w q3 st3 S3 ok3 => ?_
  split at q3
  · cases res_int ok1
    cases res_int ok2
    cases res_int ok3
    obtain ⟨h1, h2, rfl, h3⟩ := q3
    obtain ⟨h4, h5, h8, h9⟩ := in62_ok h1
    obtain ⟨h6, h7, h10, h11⟩ := in62_ok h2
    exact ⟨_, _, _, _, rfl, RgC.neg h4 h5 h6 h7, hq _ _ _ _ _ h3 ((st1.trans st2).trans st3) S3 (wok_down (by omega))⟩
  · exact q3.elim
/-! zip, enumerate -/
theorem zipL_len : ∀ (xs ys : List D), (zipL xs ys).length = min xs.length ys.length
  | [], _ => by simp [zipL]
  | _ :: _, [] => by simp [zipL]
  | x :: xs, y :: ys => by
    simp only [zipL, List.length_cons, zipL_len xs ys]
    omega
theorem zipL_get : ∀ {xs ys : List D} {i : Nat} {d : D}, (zipL xs ys)[i]? = some d → ∃ x y, xs[i]? = some x ∧ ys[i]? = some y ∧ d = .tup [x, y]
  | [], _, _, _, h => by simp [zipL] at h
  | _ :: _, [], _, _, h => by simp [zipL] at h
  | x :: xs, y :: ys, 0, d, h => by
    simp only [zipL, List.getElem?_cons_zero] at h
    cases h
    exact ⟨x, y, rfl, rfl, rfl⟩
  | x :: xs, y :: ys, i + 1, d, h => by
    simp only [zipL, List.getElem?_cons_succ] at h
    obtain ⟨a, b, h1, h2, h3⟩ := zipL_get h
    exact ⟨a, b, by simpa using h1, by simpa using h2, h3⟩
theorem enumL_len : ∀ (xs : List D) (k : Nat), (enumL k xs).length = xs.length
  | [], _ => rfl
  | x :: xs, k => by simp only [enumL, List.length_cons, enumL_len xs]
theorem enumL_get : ∀ {xs : List D} {k i : Nat} {d : D}, (enumL k xs)[i]? = some d → ∃ x, xs[i]? = some x ∧ d = .tup [.int ((k + i : Nat) : Int), x]
  | [], _, _, _, h => by simp [enumL] at h
  | x :: xs, k, 0, d, h => by
    simp only [enumL, List.getElem?_cons_zero] at h
    cases h
    exact ⟨x, rfl, rfl⟩
  | x :: xs, k, i + 1, d, h => by
    simp only [enumL, List.getElem?_cons_succ] at h
    obtain ⟨a, h1, h3⟩ := enumL_get h
    exact ⟨a, by simpa using h1, by rw [h3]; congr 3; omega⟩
theorem pair_ok {p : Addr} {F F' : Addr → Prop} {H H' H'' : Hp} {x y : D} {v u : V} {T : Addr} (st : Step F H F' H') (rx : Rep p F H x v) (ry : Rep p F H y u) (hn : H' T = none) (e : H'' = upd H' T (.tup [v, u])) : Same H' H'' ∧ Rep p F' H'' (.tup [x, y]) (.ref T) := by
  subst e
  have s := same_new (o := .tup [v, u]) hn
  refine ⟨s, T, [v, u], rfl, upd_same, by rw [sizeLine_eq]; show 2 ≤ _; omega, v, [u], rfl, Rep.step (st.trans (Step.of_same s)) _ _ rx, u, [], rfl, Rep.step (st.trans (Step.of_same s)) _ _ ry, rfl⟩
theorem wok_pairs {p : Addr} {F : Addr → Prop} {H : Hp} {J : It} {xs ys : List V} {ds es : List D} {G : Hp → Prop} (w : Walk J (min xs.length ys.length) G (YPair (fun i => xs[i]?) (fun i => ys[i]?))) (g : ∀ F' H', Step F H F' H' → G H') (hl : ds.length ≤ sizeLine) (r : Reps p F H ds xs) (q : Reps p F H es ys) : WOk p F H J (zipL ds es) := by
  refine ⟨by rw [zipL_len]; exact Nat.le_trans (Nat.min_le_left _ _) hl, G, _, by rw [zipL_len, ← r.length, ← q.length]; exact w, g, fun F' H' i x H'' d st hd y => ?_⟩
  obtain ⟨T, v, u, rfl, hn, e, hv, hu⟩ := y
  obtain ⟨dx, dy, h1, h2, rfl⟩ := zipL_get hd
  obtain ⟨v', hv', rv⟩ := r.get h1
  obtain ⟨u', hu', ru⟩ := q.get h2
  cases hv'.symm.trans hv
  cases hu'.symm.trans hu
  exact pair_ok st rv ru hn e
theorem rep_seq {p : Addr} {F : Addr → Prop} {H : Hp} {d : D} {v : V} {ds : List D} (h : Rep p F H d v) (e : seqD d = some ds) : ∃ (b : Bool) (a : Addr) (xs : List V), v = .ref a ∧ (∀ K F' H', Step F H F' H' → SqB b K H' a xs) ∧ ds.length ≤ sizeLine ∧ Reps p F H ds xs := by
  cases d <;> first
    | (cases e; done)
    | skip
  · cases e
    obtain ⟨a, xs, rfl, ea, la, ra⟩ := h
    exact ⟨false, a, xs, rfl, fun K F' H' st => SqT.of (st.tups _ _ ea), la, ra⟩
  · cases e
    obtain ⟨a, xs, rfl, fa, ea, la, ra⟩ := h
    exact ⟨true, a, xs, rfl, fun K F' H' st => SqL.of (st.lst fa ea), la, ra⟩
theorem si_zip (G : GOK W) {a b : E} {x y : Expr} {f : Str} {q pos : Pos} {elts : List Expr} {kk : Nat} {tpos : Pos} (hf : f = ("zip" : Str)) (hg : isGl sc f = true) (px : plainE x = true) (py : plainE y = true) (ha : SE W sc a x) (hb : SE W sc b y) : SI W sc (.zip a b) (.Tuple elts kk tpos) (.Call (.Name f q) [x, y] [] pos) := by
  subst hf
  obtain ⟨t, a1, a2⟩ := ha
  obtain ⟨u, b1, b2⟩ := hb
  refine ⟨iZipB W.K (tCons t (tCons u tNil)), fun X O => ⟨by rw [← O.K]; exact pi_zipB (isGl_ok O hg) (by rw [O.mg]; exact G.b12) (pa_cons (a1 X O).1 (pa_cons (b1 X O).1 pa_nil (star1 py)) (star1 px)) (star1 px) (star_any (by rw [List.all_cons, py]; rfl)), noFold _ rfl⟩, fun {xp} c F rr σ _ H Q R S h hq => ?_⟩
  unfold evI at h
  refine a2 c F rr σ H _ _ S h fun fl d r1 F1 H1 v q1 st1 S1 ok1 => ?_
  obtain ⟨F1', st1', S1', R1⟩ := S1.frz ok1
  refine b2 c F1' r1 σ H1 _ _ S1' q1 fun fl2 d2 r2 F2 H2 u q2 st2 S2 ok2 => ?_
  obtain ⟨F3, st3, S3, R3⟩ := S2.frz ok2
  have R1' := Rep.step (st2.trans st3) _ _ R1
  have stA := ((st1.trans st1').trans st2).trans st3
  unfold zipD at q2
  cases e1 : seqD d with
  | none => rw [e1] at q2; exact q2.elim
  | some ds =>
    cases e2 : seqD d2 with
    | none => rw [e1, e2] at q2; exact q2.elim
    | some es =>
      rw [e1, e2] at q2
      obtain ⟨b1, a, xs, rfl, k1, la, ra⟩ := rep_seq R1' e1
      obtain ⟨b2, b, ys, rfl, k2, lb, rb⟩ := rep_seq R3 e2
      exact ⟨b1, b2, a, b, xs, ys, rfl, k1 _ _ _ .refl, k2 _ _ _ .refl, hq _ _ _ _ _ q2 stA S3 (wok_pairs (walk_zipB rfl) (fun F' H' st => ⟨k1 W.K F' H' st, k2 W.K F' H' st⟩) la ra rb)⟩
theorem si_zipn (G : GOK W) {a b : E} {x y : Expr} {f n : Str} {q pos tpos : Pos} (hf : f = ("zip" : Str)) (hg : isGl sc f = true) (px : plainE x = true) (py : plainE y = true) (ha : SE W sc a x) (hb : SE W sc b y) : SI W sc (.zipn a b) (.Name n tpos) (.Call (.Name f q) [x, y] [] pos) := by
  subst hf
  obtain ⟨t, a1, a2⟩ := ha
  obtain ⟨u, b1, b2⟩ := hb
  refine ⟨iZipB W.K (tCons t (tCons u tNil)), fun X O => ⟨by rw [← O.K]; exact pi_zipN (isGl_ok O hg) (by rw [O.mg]; exact G.b12) (pa_cons (a1 X O).1 (pa_cons (b1 X O).1 pa_nil (star1 py)) (star1 px)) (star1 px) (star_any (by rw [List.all_cons, py]; rfl)), noFold _ rfl⟩, fun {xp} c F rr σ _ H Q R S h hq => ?_⟩
  unfold evI at h
  refine a2 c F rr σ H _ _ S h fun fl d r1 F1 H1 v q1 st1 S1 ok1 => ?_
  obtain ⟨F1', st1', S1', R1⟩ := S1.frz ok1
  refine b2 c F1' r1 σ H1 _ _ S1' q1 fun fl2 d2 r2 F2 H2 u q2 st2 S2 ok2 => ?_
  obtain ⟨F3, st3, S3, R3⟩ := S2.frz ok2
  have R1' := Rep.step (st2.trans st3) _ _ R1
  have stA := ((st1.trans st1').trans st2).trans st3
  unfold zipD at q2
  cases e1 : seqD d with
  | none => rw [e1] at q2; exact q2.elim
  | some ds =>
    cases e2 : seqD d2 with
    | none => rw [e1, e2] at q2; exact q2.elim
    | some es =>
      rw [e1, e2] at q2
      obtain ⟨b1, a, xs, rfl, k1, la, ra⟩ := rep_seq R1' e1
      obtain ⟨b2, b, ys, rfl, k2, lb, rb⟩ := rep_seq R3 e2
      exact ⟨b1, b2, a, b, xs, ys, rfl, k1 _ _ _ .refl, k2 _ _ _ .refl, hq _ _ _ _ _ q2 stA S3 (wok_pairs (walk_zipB rfl) (fun F' H' st => ⟨k1 W.K F' H' st, k2 W.K F' H' st⟩) la ra rb)⟩
theorem si_ezip (G : GOK W) {a b : E} {x y : Expr} {f g : Str} {q q2 pos pos2 : Pos} {elts : List Expr} {kk : Nat} {tpos : Pos} (hf : f = ("enumerate" : Str)) (hg : isGl sc f = true) (hf2 : g = ("zip" : Str)) (hg2 : isGl sc g = true) (px : plainE x = true) (py : plainE y = true) (ha : SE W sc a x) (hb : SE W sc b y) :
    SI W sc (.ezip a b) (.Tuple elts kk tpos) (.Call (.Name f q) [.Call (.Name g q2) [x, y] [] pos2] [] pos) := by
  subst hf hf2
  obtain ⟨t, a1, a2⟩ := ha
  obtain ⟨u, b1, b2⟩ := hb
  refine ⟨iEnumZ W.K (tCons t (tCons u tNil)), fun X O => ⟨by rw [← O.K]; exact pi_enumZ (isGl_ok O hg) (by rw [O.mg]; exact G.b13) (isGl_ok O hg2) (by rw [O.mg]; exact G.b12) (pa_cons (a1 X O).1 (pa_cons (b1 X O).1 pa_nil (star1 py)) (star1 px)) (star1 px) (star_any (by rw [List.all_cons, py]; rfl)), noFold _ rfl⟩, fun {xp} c F rr σ _ H Q R S h hq => ?_⟩
  unfold evI at h
  refine a2 c F rr σ H _ _ S h fun fl d r1 F1 H1 v q1 st1 S1 ok1 => ?_
  obtain ⟨F1', st1', S1', R1⟩ := S1.frz ok1
  refine b2 c F1' r1 σ H1 _ _ S1' q1 fun fl2 d2 r2 F2 H2 u q2 st2 S2 ok2 => ?_
  obtain ⟨F3, st3, S3, R3⟩ := S2.frz ok2
  have R1' := Rep.step (st2.trans st3) _ _ R1
  have stA := ((st1.trans st1').trans st2).trans st3
  unfold zipD at q2
  cases e1 : seqD d with
  | none => rw [e1] at q2; exact q2.elim
  | some ds =>
    cases e2 : seqD d2 with
    | none => rw [e1, e2] at q2; exact q2.elim
    | some es =>
      rw [e1, e2] at q2
      obtain ⟨b1, a, xs, rfl, k1, la, ra⟩ := rep_seq R1' e1
      obtain ⟨b2, b, ys, rfl, k2, lb, rb⟩ := rep_seq R3 e2
      have hl : (enumL 0 (zipL ds es)).length = min xs.length ys.length := by rw [enumL_len, zipL_len, ra.length, rb.length]
      refine ⟨b1, b2, a, b, xs, ys, rfl, k1 _ _ _ .refl, k2 _ _ _ .refl, hq _ _ _ _ _ q2 stA S3 ⟨by rw [enumL_len, zipL_len]; exact Nat.le_trans (Nat.min_le_left _ _) la, _, _, walk_enumZ hl, fun F' H' st => ⟨k1 W.K F' H' st, k2 W.K F' H' st⟩, fun F' H' i x H'' d st hd y => ?_⟩⟩
      obtain ⟨T, T2, v, u, rfl, n1, n2, ne, e, hv, hu⟩ := y
      obtain ⟨z, hz, rfl⟩ := enumL_get hd
      obtain ⟨dx, dy, h1, h2, rfl⟩ := zipL_get hz
      obtain ⟨v', hv', rv⟩ := ra.get h1
      obtain ⟨u', hu', ru⟩ := rb.get h2
      cases hv'.symm.trans hv
      cases hu'.symm.trans hu
      obtain ⟨s1, r1⟩ := pair_ok st rv ru n2 rfl
      have n1' : upd H' T2 (.tup [v, u]) T = none := by rw [upd_ne ne.symm]; exact n1
      obtain ⟨s2, r2⟩ := pair_ok (x := .int ((i : Nat) : Int)) (v := .int (i : Nat)) (Step.refl (F := F') (H := upd H' T2 (.tup [v, u]))) (show Rep c.p F' _ (.int (i : Nat)) (.int (i : Nat)) from rfl) r1 n1' e
      rw [Nat.zero_add]
      exact ⟨fun a o h => s2 a o (s1 a o h), r2⟩
theorem si_enum (G : GOK W) {a : E} {x : Expr} {f : Str} {q pos : Pos} {elts : List Expr} {kk : Nat} {tpos : Pos} (hf : f = ("enumerate" : Str)) (hg : isGl sc f = true) (px : plainE x = true) (ha : SE W sc a x) : SI W sc (.enum a) (.Tuple elts kk tpos) (.Call (.Name f q) [x] [] pos) := by
  subst hf
  obtain ⟨t, a1, a2⟩ := ha
  refine ⟨iEnumB W.K (tCons t tNil), fun X O => ⟨by rw [← O.K]; exact pi_enumB (isGl_ok O hg) (by rw [O.mg]; exact G.b13) (pa_cons (a1 X O).1 pa_nil (star1 px)) (by rw [star1 px]; rfl), noFold _ rfl⟩, fun {xp} c F rr σ _ H Q R S h hq => ?_⟩
  unfold evI at h
  refine a2 c F rr σ H _ _ S h fun fl d r1 F1 H1 v q1 st1 S1 ok1 => ?_
  obtain ⟨F1', st1', S1', R1⟩ := S1.frz ok1
  unfold enumD at q1
  cases e1 : seqD d with
  | none => rw [e1] at q1; exact q1.elim
  | some ds =>
    rw [e1] at q1
    obtain ⟨b1, a, xs, rfl, k1, la, ra⟩ := rep_seq R1 e1
    refine ⟨b1, a, xs, rfl, k1 _ _ _ .refl, hq _ _ _ _ _ q1 (st1.trans st1') S1' ⟨by rw [enumL_len]; exact la, _, _, by rw [enumL_len, ← ra.length]; exact walk_enumB, fun F' H' st => k1 W.K F' H' st, fun F' H' i x H'' d st hd y => ?_⟩⟩
    obtain ⟨T, v, u, rfl, hn, e, hv, hu⟩ := y
    obtain ⟨dx, h1, rfl⟩ := enumL_get hd
    obtain ⟨u', hu', ru⟩ := ra.get h1
    cases hu'.symm.trans hu
    cases hv
    rw [Nat.zero_add]
    exact pair_ok st (show Rep c.p F1' H1 (.int (i : Nat)) _ from rfl) ru hn e
end
end Wa

/-! dicts, texts, chains of three -/
namespace Wa
open PySem PySem.Spec PyProof.Rows L2
variable [CM]

/-- a op1 b op2 c op3 d -/
def tChain3 (r r' r'' : R2) (ta tb tc td : TE) : TE := fun σ H Q => ta σ H fun x H1 => tb σ H1 fun y H2 => r x y H2 fun z H3 => ∃ k, z = .bl k ∧
  (if k = true then tc σ H3 fun u H4 => r' y u H4 fun z' H5 => ∃ k', z' = .bl k' ∧ (if k' = true then td σ H5 fun w H6 => r'' u w H6 Q else Q (.bl false) H5) else Q (.bl false) H3)
section
variable {X : Cx} {a b c d : Expr} {ta tb tc td : TE} {pos : Pos}
theorem pe_chain3 {op op' op'' : CmpOp} {r r' r'' : R2} (ho : OpR X (compareOp op) r) (ho' : OpR X (compareOp op') r') (ho'' : OpR X (compareOp op'') r'') (ha : PE X a ta) (hb : PE X b tb) (hc : PE X c tc) (hd : PE X d td)
    (hm : lastMarks [op, op', op''] [b, c, d] = false) : PE X (.Compare a [op, op', op''] [b, c, d] pos) (tChain3 r r' r'' ta tb tc td) := by
  refine ⟨fun pins s σ H Q I h => ?_⟩
  refine Compare_chain (thn (ha.run pins s σ H _ I h) fun v s1 ⟨x, H1, I1, r1, q1⟩ => chain_link (thn (hb.run pins s1 σ H1 _ I1 q1) fun u s2 ⟨y, H2, I2, r2, q2⟩ =>
    thn (ho pins s2 σ H2 x y v u _ I2 r1 r2 q2) fun d s3 ⟨z, H3, I3, r3, k, e, q3⟩ => ?_)) hm
  subst e
  cases r3
  refine wpAny_truthy_bool ?_
  cases k with
  | false => exact ite_ff ⟨.bl false, H3, I3, rfl, q3⟩
  | true =>
    refine ite_tt (chain_link (thn (hc.run pins s3 σ H3 _ I3 q3) fun u' s4 ⟨y', H4, I4, r4, q4⟩ => thn (ho' pins s4 σ H4 y y' u u' _ I4 r2 r4 q4) fun d' s5 ⟨z', H5, I5, r5, k', e', q5⟩ => ?_))
    subst e'
    cases r5
    refine wpAny_truthy_bool ?_
    cases k' with
    | false => exact ite_ff ⟨.bl false, H5, I5, rfl, q5⟩
    | true => exact ite_tt (chain_last (thn (hd.run pins s5 σ H5 _ I5 q5) fun w' s6 ⟨z2, H6, I6, r6, q6⟩ => ho'' pins s6 σ H6 y' z2 u' w' Q I6 r4 r6 q6))
theorem pt_chain3 {op op' op'' : CmpOp} {r r' r'' : R2} (ho : OpR X (compareOp op) r) (ho' : OpR X (compareOp op') r') (ho'' : OpR X (compareOp op'') r'') (ha : PE X a ta) (hb : PE X b tb) (hc : PE X c tc) (hd : PE X d td)
    (hm : lastMarks [op, op', op''] [b, c, d] = false) : PT X (.Compare a [op, op', op''] [b, c, d] pos) (tTest (tChain3 r r' r'' ta tb tc td)) := by
  refine ⟨fun pins s σ H Q I h => ?_⟩
  refine isTrue_chain (thn (ha.run pins s σ H _ I h) fun v s1 ⟨x, H1, I1, r1, q1⟩ => test_link (thn (hb.run pins s1 σ H1 _ I1 q1) fun u s2 ⟨y, H2, I2, r2, q2⟩ =>
    thn (ho pins s2 σ H2 x y v u _ I2 r1 r2 q2) fun d s3 ⟨z, H3, I3, r3, k, e, q3⟩ => ?_)) hm
  subst e
  cases r3
  refine wpAny_truthy_bool ?_
  cases k with
  | false =>
    obtain ⟨k', e', q'⟩ := q3
    cases e'
    exact ite_ff ⟨H3, I3, q'⟩
  | true =>
    refine ite_tt (test_link (thn (hc.run pins s3 σ H3 _ I3 q3) fun u' s4 ⟨y', H4, I4, r4, q4⟩ => thn (ho' pins s4 σ H4 y y' u u' _ I4 r2 r4 q4) fun d' s5 ⟨z', H5, I5, r5, k', e', q5⟩ => ?_))
    subst e'
    cases r5
    refine wpAny_truthy_bool ?_
    cases k' with
    | false =>
      obtain ⟨k', e', q'⟩ := q5
      cases e'
      exact ite_ff ⟨H5, I5, q'⟩
    | true =>
      refine ite_tt (test_last (thn (hd.run pins s5 σ H5 _ I5 q5) fun w' s6 ⟨z2, H6, I6, r6, q6⟩ => thn (ho'' pins s6 σ H6 y' z2 u' w' _ I6 r4 r6 q6) fun d'' s7 ⟨z3, H7, I7, r7, k2, e2, q7⟩ => ?_))
      subst e2
      cases r7
      exact wpAny_truthy_bool ⟨H7, I7, q7⟩
end
section
variable {W : Wd} {sc : Scope} {X : Cx}
theorem hu_ok (G : GOK W) (O : XOK W sc X) : X.A.units + 1 < cLine := by rw [O.A]; have := G.room.un; omega
/-- in the middle of a chain -/
theorem ap_step {c : Ctx} {F : Addr → Prop} {r : Env} {σ : L2.St} {H : Hp} {p : P} {x y : Tok} {v u : V} {rr : R2} {Q : Bool → D → Env → Prop} {Q' : VK} (kp : BinOk rr (prim p)) (S : Sim c F r σ H) (h : ap p r [x, y] Q) (hx : TokOk c F σ H x v) (hy : TokOk c F σ H y u)
    (hq : ∀ fl d F' H' w, Q fl d r → Step F H F' H' → Sim c F' r σ H' → Res c F' r σ H' fl d w → Q' w H') : rr v u H Q' := by
  obtain ⟨ds, fl, d, h1, h2, h3⟩ := ap_end (vs := [v, u]) S h ⟨v, [u], rfl, hx, u, [], rfl, hy, rfl⟩
  obtain ⟨d1, d2, rfl, t1, t2⟩ := tops_inv2 h3
  exact kp t1 t2 h1 fun w H' s g => hq fl d F H' w h2 (Step.of_same s) (S.same s) (S.res g)
theorem se_chn3 (G : GOK W) {p q s : P} {a b c : O} {e : E} {x y z u : Expr} {o1 o2 o3 : CmpOp} {pos : Pos} (h1 : cmpIs p o1 = true) (h2 : cmpIs q o2 = true) (h3 : cmpIs s o3 = true) (ha : SO W sc a x) (hb : SO W sc b y) (hc : SO W sc c z) (hd : SE W sc e u) (hm : lastMarks [o1, o2, o3] [y, z, u] = false) :
    SE W sc (.chn3 p q s a b c e) (.Compare x [o1, o2, o3] [y, z, u] pos) := by
  obtain ⟨ta, a1, a2⟩ := ha
  obtain ⟨tb, b1, b2⟩ := hb
  obtain ⟨tc, c1, c2⟩ := hc
  obtain ⟨td, d1, d2⟩ := hd
  obtain ⟨r1, k1, or1⟩ := cmp_rule (sc := sc) G h1
  obtain ⟨r2, k2, or2⟩ := cmp_rule (sc := sc) G h2
  obtain ⟨r3, k3, or3⟩ := cmp_rule (sc := sc) G h3
  refine ⟨_, fun X O => ⟨pe_chain3 (or1 X O) (or2 X O) (or3 X O) (a1 X O) (b1 X O) (c1 X O) (d1 X O).1 hm, fun _ => pt_chain3 (or1 X O) (or2 X O) (or3 X O) (a1 X O) (b1 X O) (c1 X O) (d1 X O).1 hm⟩, fun {xp} cc F rr σ _ H Q Q' S h hq => ?_⟩
  unfold evE at h
  refine a2 cc F rr σ H _ _ S h fun x r1' F1 H1 v q1 st1 S1 ok1 => ?_
  refine b2 cc F1 r1' σ H1 _ _ S1 q1 fun y r2' F2 H2 u q2 st2 S2 ok2 => ?_
  have st12 := st1.trans st2
  refine ap_step k1 S2 q2 (ok1.step st2) ok2 fun fl d F3 H3 w q3 st3 S3 ok3 => ?_
  have st13 := st12.trans st3
  split at q3
  · refine ⟨true, res_bl ok3, ?_⟩
    rw [if_pos rfl]
    refine c2 cc F3 r2' σ H3 _ _ S3 q3 fun tz r4' F4 H4 w4 q4 st4 S4 ok4 => ?_
    refine ap_step k2 S4 q4 ((ok2.step st3).step st4) ok4 fun fl5 d5 F5 H5 w5 q5 st5 S5 ok5 => ?_
    have st15 := (st13.trans st4).trans st5
    split at q5
    · refine ⟨true, res_bl ok5, ?_⟩
      rw [if_pos rfl]
      refine d2 cc F5 r4' σ H5 _ _ S5 q5 fun fl6 d6 r6' F6 H6 w6 q6 st6 S6 ok6 => ?_
      obtain ⟨F7, st7, S7, R7⟩ := S6.frz ok6
      refine ap_step k3 S7 q6 (((ok4.step st5).step st6).step st7) R7 fun fl8 d8 F8 H8 w8 q8 st8 S8 ok8 => ?_
      split at q8
      · cases res_bl ok8
        exact hq _ _ _ _ _ _ q8 (((st15.trans st6).trans st7).trans st8) S8 rfl
      · exact q8.elim
    · refine ⟨false, res_bl ok5, ?_⟩
      rw [if_neg Bool.false_ne_true]
      exact hq _ _ _ _ _ _ q5 st15 S5 rfl
    · exact q5.elim
  · refine ⟨false, res_bl ok3, ?_⟩
    rw [if_neg Bool.false_ne_true]
    exact hq _ _ _ _ _ _ q3 st13 S3 rfl
  · exact q3.elim
/-! dicts -/
theorem se_dnew {pos : Pos} : SE W sc .dnew (.Dict [] [] pos) := by
  refine ⟨tDNewK, fun X O => ⟨pe_dnewK, fun _ => ptv pe_dnewK rfl⟩, fun {xp} c F rr σ _ H Q Q' S h hq => ?_⟩
  unfold evE at h
  intro a hn
  exact hq _ _ _ _ _ _ h (Step.of_same (same_new hn)) (S.same (same_new hn)) (S.res (.dic hn (by rw [sizeLine_eq]; simp) repk_nil))
theorem se_dlN {k : Int} {ks : List (Option Expr)} {vs : List Expr} {pos : Pos} (h : dlNOk k ks vs = true) : SE W sc (.dlN k) (.Dict ks vs pos) := by
  unfold dlNOk at h
  split at h
  · rename_i i j1 p1 j2 p2
    have h := of_decide_eq_true h
    subst h
    have pe : ∀ X, PE X (.Dict [some (.Constant (.int i) j1 p1)] [.Constant .none j2 p2] pos) (tDisp [(tC (.int i), tC .non)]) := fun X => pe_disp (pps_cons pe_int pe_non pps_nil) rfl rfl (fun z => by cases z) (by show 1 ≤ 15; decide)
    refine ⟨_, fun X O => ⟨pe X, fun _ => ptv (pe X) rfl⟩, fun {xp} c F rr σ _ H Q Q' S h hq => ?_⟩
    unfold evE at h
    intro a hn
    refine ⟨upd_same, [(.inl i, V.non)], rfl, by show 1 ≤ 15; decide, ?_⟩
    rw [upd_upd]
    exact hq _ _ _ _ _ _ h (Step.of_same (same_new hn)) (S.same (same_new hn)) (S.res (.dic hn (by rw [sizeLine_eq]; show 1 ≤ _; omega) ⟨V.non, [], rfl, rfl, rfl⟩))
  · cases h
theorem lit_ok {pos : Pos} : ∀ (kvs : List (Str × Int)) (ks : List (Option Expr)) (vs : List Expr), litOk kvs ks vs = true →
    (∀ X, PPs X pos ks vs (kvs.map fun q => (tC (.str q.1), tC (.int q.2)))) ∧ ks.all (·.isSome) = true ∧ ks.length = vs.length ∧ ks.length = kvs.length
  | [], [], [], _ => ⟨fun X => pps_nil, rfl, rfl, rfl⟩
  | (k, v) :: r, ks, vs, h => by
    cases ks with
    | nil => cases h
    | cons kk ks =>
      cases kk with
      | none => cases h
      | some e =>
        cases e <;> first | (cases h; done) | skip
        rename_i c j p
        cases c <;> first | (cases h; done) | skip
        cases vs with
        | nil => cases h
        | cons e2 vs =>
          cases e2 <;> first | (cases h; done) | skip
          rename_i c2 j2 p2
          cases c2 <;> first | (cases h; done) | skip
          unfold litOk at h
          rw [Bool.and_eq_true, Bool.and_eq_true, decide_eq_true_eq, decide_eq_true_eq] at h
          obtain ⟨⟨rfl, rfl⟩, h3⟩ := h
          obtain ⟨i1, i2, i3, i4⟩ := lit_ok (pos := pos) r ks vs h3
          exact ⟨fun X => pps_cons pe_str pe_int (i1 X), by rw [List.all_cons, i2]; rfl, by simp [i3], by simp [i4]⟩
  | [], [], _ :: _, h => by cases h
  | [], _ :: _, _, h => by cases h
theorem lit_pairs {σ : L2.St} {H : Hp} {Q : List (V × V) → Hp → Prop} : ∀ kvs : List (Str × Int), Q (kvs.map fun q => (V.str q.1, V.int q.2)) H → tPairs (kvs.map fun q => (tC (.str q.1), tC (.int q.2))) σ H Q
  | [], h => h
  | (k, v) :: r, h => lit_pairs (Q := fun ps H3 => Q ((V.str k, V.int v) :: ps) H3) r h
theorem lit_rep {p : Addr} {F : Addr → Prop} {H : Hp} : ∀ kvs : List (Str × Int), Repk p F H (kvs.map fun q => (.inr q.1, .int q.2)) (kvs.map fun q => (.inr q.1, V.int q.2))
  | [] => rfl
  | (k, v) :: r => ⟨_, _, rfl, rfl, lit_rep r⟩
theorem se_dlit {kvs : List (Str × Int)} {ks : List (Option Expr)} {vs : List Expr} {pos : Pos} (h : litOk kvs ks vs = true) (h0 : kvs ≠ []) (h15 : kvs.length ≤ 15) : SE W sc (.dlit kvs) (.Dict ks vs pos) := by
  obtain ⟨i1, i2, i3, i4⟩ := lit_ok (pos := pos) kvs ks vs h
  have pe : ∀ X, PE X (.Dict ks vs pos) (tDisp (kvs.map fun q => (tC (.str q.1), tC (.int q.2)))) := fun X => pe_disp (i1 X) i2 i3 (by intro z; rw [z] at i4; exact h0 (List.eq_nil_of_length_eq_zero i4.symm)) (by omega)
  refine ⟨_, fun X O => ⟨pe X, fun _ => ptv (pe X) rfl⟩, fun {xp} c F rr σ _ H Q Q' S h hq => ?_⟩
  unfold evE at h
  intro a hn
  refine lit_pairs kvs ⟨upd_same, kvs.map fun q => (.inr q.1, V.int q.2), ?_, by rw [List.length_map]; exact h15, ?_⟩
  · rw [List.map_map]; rfl
  · rw [upd_upd]
    have hl := mergeD_len (kvs.map fun q => ((.inr q.1 : Key), D.int q.2)) []
    rw [List.length_map] at hl
    exact hq _ _ _ _ _ _ h (Step.of_same (same_new hn)) (S.same (same_new hn)) (S.res (.dic hn (by rw [sizeLine_eq]; simp at hl; omega) (Repk.merge (lit_rep kvs) repk_nil)))
theorem se_dmk (G : GOK W) {o : O} {x : Expr} {f : Str} {q pos : Pos} (hf : f = ("dict" : Str)) (hg : isGl sc f = true) (hx : plainE x = true) (ho : SO W sc o x) : SE W sc (.dmk o) (.Call (.Name f q) [x] [] pos) := by
  subst hf
  obtain ⟨ta, a1, a2⟩ := ho
  have pe : ∀ X, XOK W sc X → PE X (.Call (.Name ("dict" : Str) q) [x] [] pos) (tCB (fun xs H Q => ∃ (a : Addr) (ps : List Addr) (kvs : List (Key × V)), xs = [.ref a] ∧ SqL W.K H a (ps.map V.ref) ∧ Paired (fun p kv => SqT W.K H p [kV kv.1, kv.2]) ps kvs ∧
    ∀ p, H p = none → Q (.ref p) (upd H p (.dK (mergeK [] kvs)))) (tCons ta tNil)) := fun X O =>
    pe_callTy (by rw [← O.K]; exact call_dictP O.calm) (isGl_ok O hg) (by rw [O.mg]; exact G.ty .dict) (boot_ty .dict) (pa_cons (a1 X O) pa_nil (star1 hx)) (by decide +kernel) (by decide +kernel) (star1 hx) (star_any (by rfl))
  refine ⟨_, fun X O => ⟨pe X O, fun _ => ptv (pe X O) rfl⟩, fun {xp} c F rr σ _ H Q Q' S h hq => ?_⟩
  unfold evE at h
  refine a2 c F rr σ H _ _ S h fun x r1 F1 H1 v q1 st1 S1 ok1 => ?_
  obtain ⟨ds, fl, d, h1, h2, h3⟩ := op_end (vs := [v]) st1 S1 q1 ⟨v, [], rfl, ok1, rfl⟩ hq
  exact k_dmk h2 h1 h3
theorem noSl {y : Expr} (h : plainE y = true) : NoSl y := by
  intro o i
  cases y <;> first
    | rfl
    | (cases h; done)
theorem evE_dix {cl : Cl} {xp : D → Env → Prop} {a b : O} {r : Env} {Q : Bool → D → Env → Prop} (h : evE cl xp (.dix a b) r Q) : evO cl xp a r fun x r1 => evO cl xp b r1 fun y r2 => ap .dix r2 [x, y] Q := by
  unfold evE at h; exact h
theorem evE_din {cl : Cl} {xp : D → Env → Prop} {p : P} {a b : O} {r : Env} {Q : Bool → D → Env → Prop} (h : evE cl xp (.din p a b) r Q) : evO cl xp a r fun x r1 => evO cl xp b r1 fun y r2 => ap p r2 [x, y] Q := by
  unfold evE at h; exact h
theorem se_dix (G : GOK W) {a b : O} {x y : Expr} {pos : Pos} (hp : plainE y = true) (ha : SO W sc a x) (hb : SO W sc b y) : SE W sc (.dix a b) (.Subscript x y pos) := by
  obtain ⟨ta, a1, a2⟩ := ha
  obtain ⟨tb, b1, b2⟩ := hb
  have pe : ∀ X, XOK W sc X → PE X (.Subscript x y pos) (tOp (fun x y H Q => ∃ a v, x = .ref a ∧ DGet H a y (some v) ∧ Q v H) ta tb) := fun X O => pe_dget (hu_ok G O) (a1 X O) (b1 X O) (noSl hp)
  exact ⟨_, fun X O => ⟨pe X O, fun _ => ptv (pe X O) rfl⟩, sem2 k_dix a2 b2 fun _ _ _ => evE_dix⟩
theorem se_din (G : GOK W) {p : P} {a b : O} {x y : Expr} {op : CmpOp} {pos : Pos} (h : dinIs p op = true) (hm : behindInMarks op y = false) (ha : SO W sc a x) (hb : SO W sc b y) : SE W sc (.din p a b) (.Compare x [op] [y] pos) := by
  obtain ⟨ta, a1, a2⟩ := ha
  obtain ⟨tb, b1, b2⟩ := hb
  cases p <;> first
    | (cases h; done)
    | skip
  · cases op <;> first | (cases h; done) | skip
    have pc : ∀ X, XOK W sc X → PC X .In x y (tOp (fun y x H Q => ∃ a o, x = .ref a ∧ DGet H a y o ∧ Q (.bl o.isSome) H) ta tb) := fun X O => pc_din (hu_ok G O) (a1 X O) (b1 X O)
    exact ⟨_, fun X O => ⟨pe_cmp (pc X O) hm, fun _ => pt_cmp (pc X O) hm⟩, sem2 k_din a2 b2 fun _ _ _ => evE_din⟩
  · cases op <;> first | (cases h; done) | skip
    have pc : ∀ X, XOK W sc X → PC X .NotIn x y (tOp (fun y x H Q => ∃ a o, x = .ref a ∧ DGet H a y o ∧ Q (.bl (!o.isSome)) H) ta tb) := fun X O => pc_dnotin (hu_ok G O) (a1 X O) (b1 X O)
    exact ⟨_, fun X O => ⟨pe_cmp (pc X O) hm, fun _ => pt_cmp (pc X O) hm⟩, sem2 k_dnin a2 b2 fun _ _ _ => evE_din⟩
theorem isDic_ok {o : Option D} (h : isDic o = true) : ∃ kvs, o = some (.dic kvs) := by
  unfold isDic at h
  split at h
  · exact ⟨_, rfl⟩
  · cases h
theorem isStr_ok {o : Option D} (h : isStr o = true) : ∃ s, o = some (.str s) := by
  unfold isStr at h
  split at h
  · exact ⟨_, rfl⟩
  · cases h
theorem top_isD {p : Addr} {F : Addr → Prop} {H : Hp} {kvs : List (Key × D)} {v : V} (h : Top p F H (.dic kvs) v) : ∃ a, v = .ref a ∧ IsD H a := by
  obtain ⟨a, xs, rfl, e, _⟩ := top_dic h
  exact ⟨a, rfl, .inl ⟨xs, e⟩⟩
theorem m2_of {o x y : Expr} {m : Str} {p2 p3 : Pos} (hb : attributeBase o m X.env (eval o X.env) = eval o X.env) (px : plainE x = true) (py : plainE y = true) (hl : (p2.endLine == p3.line) = true) : M2 X o m p2 x y p3 := by
  have e : starEach [x, y] X.env = [(false, eval x X.env), (false, eval y X.env)] := by rw [star1 px, star1 py]; rfl
  refine ⟨hb, ?_, hl, ?_⟩
  · rw [e]; rfl
  · rw [e]; rfl
theorem se_dgt (G : GOK W) {a b d : O} {z : Str} {x y : Expr} {m : Str} {q p2 p3 : Pos} (hm : m = ("get" : Str)) (px : plainE x = true) (py : plainE y = true) (hl : (p2.endLine == p3.line) = true) (ha : SO W sc a (.Name z q)) (hb : SO W sc b x) (hd : SO W sc d y) :
    SE W sc (.dgt a b d) (.Call (.Attribute (.Name z q) m p2) [x, y] [] p3) := by
  subst hm
  obtain ⟨ta, a1, a2⟩ := ha
  obtain ⟨tb, b1, b2⟩ := hb
  obtain ⟨td, d1, d2⟩ := hd
  have pe : ∀ X, XOK W sc X → PE X (.Call (.Attribute (.Name z q) ("get" : Str) p2) [x, y] [] p3) (tDGet2 ta tb td) := fun X O => pe_dget2 (hu_ok G O) (a1 X O) (b1 X O) (d1 X O) (m2_of (by rfl) px py hl)
  refine ⟨_, fun X O => ⟨pe X O, fun _ => ptv (pe X O) rfl⟩, fun {xp} c F rr σ _ H Q Q' S h hq => ?_⟩
  unfold evE at h
  refine a2 c F rr σ H _ _ S h fun t1 r1 F1 H1 v q1 st1 S1 ok1 => ?_
  obtain ⟨hi, q1⟩ := q1
  obtain ⟨kvs, hk⟩ := isDic_ok hi
  obtain ⟨aa, rfl, hd⟩ := top_isD (S1.tok ok1 hk)
  refine ⟨aa, rfl, hd, ?_⟩
  refine b2 c F1 r1 σ H1 _ _ S1 q1 fun t2 r2 F2 H2 u q2 st2 S2 ok2 => ?_
  refine d2 c F2 r2 σ H2 _ _ S2 q2 fun t3 r3 F3 H3 w q3 st3 S3 ok3 => ?_
  obtain ⟨ds, fl, dd, h1, h2, h3⟩ := op_end (vs := [.ref aa, u, w]) ((st1.trans st2).trans st3) S3 q3 ⟨_, [u, w], rfl, (ok1.step st2).step st3, u, [w], rfl, ok2.step st3, w, [], rfl, ok3, rfl⟩ hq
  obtain ⟨e1, e2, e3, rfl, k1, k2, k3⟩ := tops_inv3 h2
  replace h1 : pDgt [e1, e2, e3] = some (fl, dd) := h1
  unfold pDgt at h1
  split at h1
  · rename_i kvs k x he
    cases he
    split at h1
    · rename_i hf
      cases q : keyD e2 with
      | none => rw [q] at h1; cases h1
      | some k' =>
        rw [q] at h1
        cases h1
        obtain ⟨a', o, ea, g1, _, g3⟩ := dget_some k1 k2 q
        cases ea
        exact ⟨o, g1, h3 _ _ (Same.refl _) (.val (g3 _ _ (top_flat hf k3)))⟩
    · cases h1
  · cases h1
/-! texts -/
theorem top_isS {p : Addr} {F : Addr → Prop} {H : Hp} {s : Str} {v : V} (h : Top p F H (.str s) v) : ∃ a, v = .str a := ⟨s, h⟩
theorem se_upper {a : O} {z : Str} {m : Str} {q p2 p3 : Pos} (hm : m = ("upper" : Str)) (hl : (p2.endLine == p3.line) = true) (ha : SO W sc a (.Name z q)) : SE W sc (.upper a) (.Call (.Attribute (.Name z q) m p2) [] [] p3) := by
  subst hm
  obtain ⟨ta, a1, a2⟩ := ha
  have pe : ∀ X, XOK W sc X → PE X (.Call (.Attribute (.Name z q) ("upper" : Str) p2) [] [] p3) _ := fun X O => pe_upper (a1 X O) (by rfl) hl
  refine ⟨_, fun X O => ⟨pe X O, fun _ => ptv (pe X O) rfl⟩, fun {xp} c F rr σ _ H Q Q' S h hq => ?_⟩
  unfold evE at h
  refine a2 c F rr σ H _ _ S h fun t1 r1 F1 H1 v q1 st1 S1 ok1 => ?_
  obtain ⟨ds, fl, d, h1, h2, h3⟩ := op_end (vs := [v]) st1 S1 q1 ⟨v, [], rfl, ok1, rfl⟩ hq
  obtain ⟨d1, rfl, t1⟩ := tops_inv1 h2
  obtain ⟨s, rfl, g1, g2⟩ := k_upper t1 h1 h3
  exact ⟨⟨s, rfl⟩, s, rfl, rfl, g1, g2⟩
theorem se_join {a b : O} {z : Str} {j : Nat} {m : Str} {y : Expr} {q p2 p3 : Pos} (hm : m = ("join" : Str)) (py : plainE y = true) (hl : (p2.endLine == p3.line) = true) (ha : SO W sc a (.Constant (.str z) j q)) (hb : SO W sc b y) :
    SE W sc (.join a b) (.Call (.Attribute (.Constant (.str z) j q) m p2) [y] [] p3) := by
  subst hm
  obtain ⟨ta, a1, a2⟩ := ha
  obtain ⟨tb, b1, b2⟩ := hb
  have pe : ∀ X, XOK W sc X → PE X (.Call (.Attribute (.Constant (.str z) j q) ("join" : Str) p2) [y] [] p3) (tM1 (fun x xs H Q => ∃ a p, ∃ ys : List Str, x = .str a ∧ xs = [.ref p] ∧ (SqL W.K H p (ys.map V.str) ∨ SqT W.K H p (ys.map V.str)) ∧ (ys.map (·.length)).sum + ys.length * a.length ≤ 16777216 ∧ Q (.str (Txt.join a ys)) H) ta tb) :=
    fun X O => by rw [← O.K]; exact pe_join (a1 X O) (b1 X O) (star1 py) (by rfl) hl
  refine ⟨_, fun X O => ⟨pe X O, fun _ => ptv (pe X O) rfl⟩, fun {xp} c F rr σ _ H Q Q' S h hq => ?_⟩
  unfold evE at h
  refine a2 c F rr σ H _ _ S h fun t1 r1 F1 H1 v q1 st1 S1 ok1 => ?_
  obtain ⟨hi, q1⟩ := q1
  obtain ⟨s, hk⟩ := isStr_ok hi
  refine ⟨top_isS (S1.tok ok1 hk), ?_⟩
  refine b2 c F1 r1 σ H1 _ _ S1 q1 fun t2 r2 F2 H2 u q2 st2 S2 ok2 => ?_
  obtain ⟨ds, fl, dd, h1, h2, h3⟩ := op_end (vs := [v, u]) (st1.trans st2) S2 q2 ⟨_, [u], rfl, ok1.step st2, u, [], rfl, ok2, rfl⟩ hq
  obtain ⟨e1, e2, rfl, k1, k2⟩ := tops_inv2 h2
  obtain ⟨s', p, ys, rfl, rfl, g⟩ := k_join (K := W.K) k1 k2 h1 h3
  exact ⟨s', p, ys, rfl, rfl, g⟩
theorem se_split {a b : O} {z : Str} {m : Str} {y : Expr} {q p2 p3 : Pos} (hm : m = ("split" : Str)) (py : plainE y = true) (hl : (p2.endLine == p3.line) = true) (ha : SO W sc a (.Name z q)) (hb : SO W sc b y) :
    SE W sc (.split a b) (.Call (.Attribute (.Name z q) m p2) [y] [] p3) := by
  subst hm
  obtain ⟨ta, a1, a2⟩ := ha
  obtain ⟨tb, b1, b2⟩ := hb
  have pe : ∀ X, XOK W sc X → PE X (.Call (.Attribute (.Name z q) ("split" : Str) p2) [y] [] p3) (tM1 (fun x xs H Q => ∃ a b, x = .str a ∧ xs = [.str b] ∧ (b.length == 0) = false ∧ a.length + 2 ≤ sizeLine ∧ rNewStrs (Txt.split a b) H Q) ta tb) :=
    fun X O => pe_split (a1 X O) (b1 X O) (star1 py) (by rfl) hl
  refine ⟨_, fun X O => ⟨pe X O, fun _ => ptv (pe X O) rfl⟩, fun {xp} c F rr σ _ H Q Q' S h hq => ?_⟩
  unfold evE at h
  refine a2 c F rr σ H _ _ S h fun t1 r1 F1 H1 v q1 st1 S1 ok1 => ?_
  obtain ⟨hi, q1⟩ := q1
  obtain ⟨s, hk⟩ := isStr_ok hi
  refine ⟨top_isS (S1.tok ok1 hk), ?_⟩
  refine b2 c F1 r1 σ H1 _ _ S1 q1 fun t2 r2 F2 H2 u q2 st2 S2 ok2 => ?_
  obtain ⟨ds, fl, dd, h1, h2, h3⟩ := op_end (vs := [v, u]) (st1.trans st2) S2 q2 ⟨_, [u], rfl, ok1.step st2, u, [], rfl, ok2, rfl⟩ hq
  obtain ⟨e1, e2, rfl, k1, k2⟩ := tops_inv2 h2
  obtain ⟨s', b', rfl, rfl, g1, g2, g3⟩ := k_split k1 k2 h1 h3
  exact ⟨s', b', rfl, rfl, g1, g2, g3⟩
/-! a text is walked -/
theorem si_txt {e : E} {tg x : Expr} (h : SE W sc e x) (hx : notSet x = true) : SI W sc (.txt e) tg x := by
  obtain ⟨t, a1, a2⟩ := h
  refine ⟨iStr t, fun X O => ⟨pi_str (a1 X O).1, noFold _ hx⟩, fun {xp} c F rr σ _ H Q R S h hq => ?_⟩
  unfold evI at h
  refine a2 c F rr σ H _ _ S h fun fl d r1 F1 H1 v q1 st1 S1 ok1 => ?_
  split at q1
  · rename_i s
    have hv : v = .str s := by
      cases fl with
      | false => exact ok1
      | true => exact ok1.elim (fun ⟨_, _, o, _⟩ => False.elim o) fun ⟨_, _, e, _⟩ => by cases e
    subst hv
    refine ⟨s, rfl, hq _ _ _ _ _ q1.2 st1 S1 ?_⟩
    refine ⟨by rw [List.length_map, sizeLine_eq]; exact q1.1, fun _ => True, fun i H x H' => H' = H ∧ ∃ c, s.cps[i]? = some c ∧ x = .str ⟨#[c]⟩, ?_, fun _ _ _ => trivial, fun F' H' i x H'' d st hd y => ?_⟩
    · rw [List.length_map, Array.length_toList]
      exact walk_str
    · obtain ⟨rfl, c, hc, rfl⟩ := y
      rw [List.getElem?_map, Array.getElem?_toList, hc] at hd
      cases hd
      exact ⟨Same.refl _, rfl⟩
  · exact q1.elim
/-! a look with all lists shared meanwhile -/
theorem se_pur {ir : E} {e : Expr} (h : SE W sc ir e) : SE W sc (.pur ir) e := by
  obtain ⟨t, a1, a2⟩ := h
  refine ⟨t, a1, fun {xp} c F r σ _ H Q Q' S h hq => ?_⟩
  unfold evE at h
  refine a2 c _ (shAll r) σ H _ Q' S.shareAll h fun fl d r' F' H' v q st S' res => ?_
  obtain ⟨hn, q⟩ := q
  obtain ⟨st2, S2⟩ := S.unshare st S'
  exact hq false d _ F H' v q st2 S2 (res.noL hn)
/-! a dict of tuples of words -/
def taStrs : List Str → TA
  | [] => tNil
  | s :: r => tCons (tC (.str s)) (taStrs r)
theorem strs_ok : ∀ (l : List Str) (es : List Expr), strsOk l es = true → ∀ X, PA X es (taStrs l)
  | [], es, h, X => by
    cases es with
    | nil => exact pa_nil
    | cons _ _ => cases h
  | k :: r, es, h, X => by
    cases es with
    | nil => cases h
    | cons e es =>
      cases e <;> first | (cases h; done) | skip
      rename_i c j p
      cases c <;> first | (cases h; done) | skip
      unfold strsOk at h
      rw [Bool.and_eq_true, decide_eq_true_eq] at h
      obtain ⟨rfl, h2⟩ := h
      exact pa_cons pe_str (strs_ok r es h2 X) (star1 rfl)
theorem strs_run : ∀ (l : List Str) {σ : L2.St} {H : Hp} {Q : List V → Hp → Prop}, Q (l.map V.str) H → taStrs l σ H Q
  | [], _, _, _, h => h
  | s :: r, _, _, Q, h => strs_run r (Q := fun vs H => Q (V.str s :: vs) H) h
theorem lits_ok {pos : Pos} : ∀ (kvs : List (Str × List Str)) (ks : List (Option Expr)) (vs : List Expr), litsOk kvs ks vs = true →
    (∀ X, PPs X pos ks vs (kvs.map fun q => (tC (.str q.1), tTup (taStrs q.2)))) ∧ ks.all (·.isSome) = true ∧ ks.length = vs.length ∧ ks.length = kvs.length ∧ ∀ q ∈ kvs, q.2.length ≤ 1000
  | [], [], [], _ => ⟨fun X => pps_nil, rfl, rfl, rfl, fun q h => by cases h⟩
  | (k, v) :: r, ks, vs, h => by
    cases ks with
    | nil => cases h
    | cons kk ks =>
      cases kk with
      | none => cases h
      | some e =>
        cases e <;> first | (cases h; done) | skip
        rename_i c j p
        cases c <;> first | (cases h; done) | skip
        cases vs with
        | nil => cases h
        | cons e2 vs =>
          cases e2 <;> first | (cases h; done) | skip
          rename_i es j2 p2
          unfold litsOk at h
          rw [Bool.and_eq_true, Bool.and_eq_true, Bool.and_eq_true, decide_eq_true_eq, decide_eq_true_eq] at h
          obtain ⟨rfl, hl, h2, h3⟩ := h
          obtain ⟨i1, i2, i3, i4, i5⟩ := lits_ok (pos := pos) r ks vs h3
          exact ⟨fun X => pps_cons pe_str (pe_tup (strs_ok v es h2 X)) (i1 X), by rw [List.all_cons, i2]; rfl, by simp [i3], by simp [i4], fun q hq => (List.mem_cons.mp hq).elim (fun e => by rw [e]; exact hl) (i5 q)⟩
  | [], [], _ :: _, h => by cases h
  | [], _ :: _, _, h => by cases h
/-- the words' tuples as they lie -/
def StrsAt (H : Hp) : List (Str × List Str) → List (V × V) → Prop
  | [], ps => ps = []
  | (k, l) :: r, ps => ∃ a qs, ps = (V.str k, V.ref a) :: qs ∧ H a = some (.tup (l.map V.str)) ∧ StrsAt H r qs
theorem StrsAt.same {H H' : Hp} (s : Same H H') : ∀ {kvs : List (Str × List Str)} {ps : List (V × V)}, StrsAt H kvs ps → StrsAt H' kvs ps
  | [], _, h => h
  | (k, l) :: r, _, h => by
    obtain ⟨a, qs, e, z, h⟩ := h
    exact ⟨a, qs, e, s _ _ z, StrsAt.same s h⟩
theorem lits_pairs {σ : L2.St} : ∀ (kvs : List (Str × List Str)) {H : Hp} {Q : List (V × V) → Hp → Prop}, (∀ q ∈ kvs, q.2.length ≤ 1000) → (∀ ps H', Same H H' → StrsAt H' kvs ps → Q ps H') → tPairs (kvs.map fun q => (tC (.str q.1), tTup (taStrs q.2))) σ H Q
  | [], H, Q, _, h => h [] H (Same.refl _) rfl
  | (k, l) :: r, H, Q, hl, h => by
    refine strs_run l ⟨?_, fun a hn => ?_⟩
    · rw [List.length_map, sizeLine_eq]
      exact Nat.le_trans (hl (k, l) List.mem_cons_self) (by decide)
    · refine lits_pairs r (Q := fun ps H3 => Q ((V.str k, V.ref a) :: ps) H3) (fun q hq => hl q (List.mem_cons_of_mem _ hq)) fun ps H' s hs => ?_
      exact h _ H' (fun b o e => s b o (same_new hn b o e)) ⟨a, ps, rfl, s _ _ upd_same, hs⟩
theorem lits_rep {p : Addr} {F : Addr → Prop} {H : Hp} : ∀ (kvs : List (Str × List Str)) (ps : List (V × V)), (∀ q ∈ kvs, q.2.length ≤ 1000) → StrsAt H kvs ps → ∃ ws : List (Key × V), ps = ws.map (fun kv => (kV kv.1, kv.2)) ∧ Repk p F H (kvs.map fun q => (.inr q.1, .tup (q.2.map .str))) ws
  | [], _, _, h => ⟨[], h, rfl⟩
  | (k, l) :: r, _, hl, h => by
    obtain ⟨a, qs, rfl, e, h⟩ := h
    obtain ⟨ws, rfl, R⟩ := lits_rep r qs (fun q hq => hl q (List.mem_cons_of_mem _ hq)) h
    refine ⟨(.inr k, .ref a) :: ws, rfl, .ref a, ws, rfl, ⟨a, l.map V.str, rfl, e, ?_, ?_⟩, R⟩
    · rw [List.length_map, sizeLine_eq]
      exact Nat.le_trans (hl (k, l) List.mem_cons_self) (by decide)
    · clear e hl h R
      induction l with
      | nil => rfl
      | cons s l ih => exact ⟨.str s, l.map V.str, rfl, rfl, ih⟩
theorem se_dls {kvs : List (Str × List Str)} {ks : List (Option Expr)} {vs : List Expr} {pos : Pos} (h : litsOk kvs ks vs = true) (h0 : kvs ≠ []) (h15 : kvs.length ≤ 15) : SE W sc (.dls kvs) (.Dict ks vs pos) := by
  obtain ⟨i1, i2, i3, i4, i5⟩ := lits_ok (pos := pos) kvs ks vs h
  have pe : ∀ X, PE X (.Dict ks vs pos) (tDisp (kvs.map fun q => (tC (.str q.1), tTup (taStrs q.2)))) := fun X => pe_disp (i1 X) i2 i3 (by intro z; rw [z] at i4; exact h0 (List.eq_nil_of_length_eq_zero i4.symm)) (by omega)
  refine ⟨_, fun X O => ⟨pe X, fun _ => ptv (pe X) rfl⟩, fun {xp} c F rr σ _ H Q Q' S h hq => ?_⟩
  unfold evE at h
  intro a hn
  refine lits_pairs kvs i5 fun ps H2 s hs => ?_
  have ha : H2 a = some (.dK []) := s _ _ upd_same
  have s2 : Same H H2 := fun b o e => s b o (same_new hn b o e)
  obtain ⟨ws, rfl, R⟩ := lits_rep (p := c.p) (F := F) kvs ps i5 hs
  have wl := R.length
  rw [List.length_map] at wl
  refine ⟨ha, ws, rfl, by omega, ?_⟩
  have s3 : Same H (upd H2 a (.dK (mergeK [] ws))) := fun b o e => by
    have hne : b ≠ a := fun z => by rw [z, hn] at e; cases e
    rw [upd_ne hne]
    exact s2 b o e
  have R3 : Repk c.p F (upd H2 a (.dK (mergeK [] ws))) (kvs.map fun q => ((.inr q.1 : Key), D.tup (q.2.map .str))) ws := by
    have st : Step (fun _ => False) H2 (fun _ => False) (upd H2 a (.dK (mergeK [] ws))) := ⟨fun _ h => h, fun _ _ f => f.elim, fun b xs e => by
      have hne : b ≠ a := fun z => by rw [z, ha] at e; cases e
      rw [upd_ne hne]; exact e⟩
    have R0 : Repk c.p (fun _ => False) H2 (kvs.map fun q => ((.inr q.1 : Key), D.tup (q.2.map .str))) ws := by
      obtain ⟨ws', e', R'⟩ := lits_rep (p := c.p) (F := fun _ => False) kvs _ i5 hs
      have : ws' = ws := by
        have key : ∀ (x y : List (Key × V)), x.map (fun kv => (kV kv.1, kv.2)) = y.map (fun kv => (kV kv.1, kv.2)) → x = y := by
          intro x
          induction x with
          | nil => intro y e; cases y with | nil => rfl | cons => cases e
          | cons p x ih =>
            intro y e
            cases y with
            | nil => cases e
            | cons q y =>
              injection e with e1 e2
              injection e1 with e3 e4
              have : p.1 = q.1 := by
                revert e3
                cases p.1 <;> cases q.1 <;> intro e3 <;> first
                  | (cases e3; rfl)
                  | (cases e3; done)
              rw [ih y e2, show p = q from Prod.ext this e4]
        exact key _ _ e'.symm
      rw [this] at R'
      exact R'
    refine Repk.step ⟨fun _ h => h.elim, fun _ _ f => f.elim, fun _ _ e => e⟩ _ _ (Repk.step st _ _ R0)
  have hl := mergeD_len (kvs.map fun q => ((.inr q.1 : Key), D.tup (q.2.map .str))) []
  rw [List.length_map] at hl
  refine hq _ _ _ _ _ _ h (Step.of_same s3) (S.same s3) (S.res (fl := true) ⟨a, rfl, hn, _, upd_same, by rw [sizeLine_eq]; simp at hl; omega, Repk.merge R3 repk_nil⟩)
end
end Wa

/-! dict(zip(x, y)) -/
namespace Wa
open PySem PySem.Spec PyProof.Rows L2
variable [CM]

section
variable {prog : Program} {w : World}
theorem seqB_at {b : Bool} {h h' : Heap} {a : Addr} {its : Array Value} (x : SeqB b h a its) (k : ∀ o, h.get? a = some o → h'.get? a = some o) : SeqB b h' a its := by
  cases b with
  | true => exact Heap.IsList.at x k
  | false => exact Heap.IsTuple.at x k
theorem seqB_obj {b : Bool} {h : Heap} {a : Addr} {its : Array Value} (x : SeqB b h a its) : ∃ o, h.get? a = some o := by
  cases b with
  | true => obtain ⟨o, e, _⟩ := x; exact ⟨o, e⟩
  | false => obtain ⟨o, e, _⟩ := x; exact ⟨o, e⟩
def ZSt (b1 b2 : Bool) (z TI TO i1 i2 a b : Addr) (xs ys : Array Value) (i : Nat) (h : Heap) : Prop :=
  ZAt h z TI TO ∧ IsTupOf2 h TI (.ref i1) (.ref i2) ∧ (∃ x y, IsTupOf2 h TO x y) ∧ ItB b1 h i1 a i ∧ ItB b2 h i2 b i ∧ SeqB b1 h a xs ∧ SeqB b2 h b ys
theorem ZSt.keep {b1 b2 : Bool} {z TI TO i1 i2 a b : Addr} {xs ys : Array Value} {i : Nat} {h h' : Heap} (x : ZSt b1 b2 z TI TO i1 i2 a b xs ys i h) (k : ∀ c, c ∈ [z, TI, TO, i1, i2, a, b] → ∀ o, h.get? c = some o → h'.get? c = some o) : ZSt b1 b2 z TI TO i1 i2 a b xs ys i h' := by
  obtain ⟨⟨u, f, hz, fv⟩, hTI, ⟨x, y, hTO⟩, h1, h2, p1, p2⟩ := x
  exact ⟨⟨u, f, k z (by simp) _ hz, fv⟩, k TI (by simp) _ hTI, ⟨x, y, k TO (by simp) _ hTO⟩, itB_at h1 fun o q => k i1 (by simp) o q, itB_at h2 fun o q => k i2 (by simp) o q, seqB_at p1 fun o q => k a (by simp) o q, seqB_at p2 fun o q => k b (by simp) o q⟩
theorem zipArgB (b1 b2 : Bool) (z TI TO i1 i2 a b : Addr) (D : ZipSep2 z TI TO i1 i2 [i1, a] [i2, b]) (n1 : a ≠ i1) (n2 : b ≠ i2) (xs ys : Array Value) :
    PairArg prog w "zip" z [z, TI, TO, i1, i2, a, b] [z, TO, i1, i2] (min xs.size ys.size) (fun i k v => xs[i]? = some k ∧ ys[i]? = some v) (ZSt b1 b2 z TI TO i1 i2 a b xs ys 0) where
  type := fun s ok => by
    obtain ⟨⟨_, _, hz, _⟩, _⟩ := ok
    exact ⟨_, hz, rfl⟩
  notDict := by decide
  keep := fun h h' ok hk => ok.keep fun c _ o e => hk c o e
  there := fun h ok c hc => by
    obtain ⟨⟨u, f, hz, fv⟩, hTI, ⟨x, y, hTO⟩, h1, h2, p1, p2⟩ := ok
    simp only [List.mem_cons, List.not_mem_nil, or_false] at hc
    rcases hc with rfl | rfl | rfl | rfl | rfl | rfl | rfl
    · exact ⟨_, hz⟩
    · exact ⟨_, hTI⟩
    · exact ⟨_, hTO⟩
    · obtain ⟨o, e, _⟩ := itB_obj h1; exact ⟨o, e⟩
    · obtain ⟨o, e, _⟩ := itB_obj h2; exact ⟨o, e⟩
    · exact seqB_obj p1
    · exact seqB_obj p2
  sub := fun c hc => by simp at hc ⊢; rcases hc with rfl | rfl | rfl | rfl <;> simp
  noKeys := fun A s Q E hA ok h => by
    obtain ⟨⟨u, f, hz, fv⟩, _⟩ := ok
    exact getAttrOr_miss_zip hz rfl rfl rfl zip_no_keys (by decide +kernel) hA h
  iter := fun A s d Q E hA ok hd hdf h => by
    refine zat_iter (TI := TI) (TO := TO) ok.1 (h z [z, TO, i1, i2] (ZSt b1 b2 z TI TO i1 i2 a b xs ys) s.heap s.toks ?_ ok (fun _ _ e => e) fun c hc => .inl hc)
    exact {
      off := fun hm => hdf (by
        simp only [List.mem_cons, List.not_mem_nil, or_false] at hm ⊢
        rcases hm with e | e | e | e <;> simp [e])
      frame := fun i h₁ h₂ st hk => st.keep fun c hc o e => hk c o (fun z => hdf (by rw [← z]; exact hc)) e
      item := fun i s₁ Q₁ E₁ hi st hds hQ => by
        obtain ⟨hz, hTI, ⟨a1, a2, hTO⟩, h1, h2, p1, p2⟩ := st
        have hA1 : A.in1.handled = none := hA
        refine zipA_pyNext_item D (drawsB (A := A.in1) b1 hA1 i1 a n1 xs) (drawsB (A := A.in1) b2 hA1 i2 b n2 ys) hz hTI hTO ⟨h1, p1⟩ ⟨h2, p2⟩ (by omega) (by omega) fun u u2 h' tk hu hu2 zz tt q1 q2 hTT hsz hk => ?_
        exact hQ s₁.heap.objs.size _ _ h' tk ⟨hu, hu2⟩ (.inl ⟨_, hTT, rfl, _, rfl⟩) ⟨zz, hk _ _ D.TIz D.TITO D.TIi1 D.TIi2 hTI, tt, q1.1, q2.1, q1.2, q2.2⟩ fun c o hc e => hk c o (fun x => hc (by simp [x])) (fun x => hc (by simp [x])) (fun x => hc (by simp [x])) (fun x => hc (by simp [x])) e
      done := fun s₁ Q₁ E₁ st hQ => by
        obtain ⟨hz, hTI, ⟨a1, a2, hTO⟩, h1, h2, p1, p2⟩ := st
        have hA1 : A.in1.handled = none := hA
        refine zipA_pyNext_end D (drawsB (A := A.in1) b1 hA1 i1 a n1 xs) (drawsB (A := A.in1) b2 hA1 i2 b n2 ys) hz hTI hTO ⟨h1, p1⟩ ⟨h2, p2⟩ (by omega) (by omega) (by omega) fun h' tk hk => ?_
        exact hQ h' tk fun c o hc e => hk c o (fun x => hc (by simp [x])) (fun x => hc (by simp [x])) (fun x => hc (by simp [x])) (fun x => hc (by simp [x])) e }
end
/-- the pairs' keys and values, by their places -/
def rDz (K : PySem.W.Frag) : R2 := fun x y H Q => ∃ (b1 b2 : Bool) (a b : Addr) (xs ys : List V) (kvs : List (Key × V)), x = .ref a ∧ y = .ref b ∧ SqB b1 K H a xs ∧ SqB b2 K H b ys ∧ kvs.length = min xs.length ys.length ∧
  (∀ (i : Nat) (k : Key) (v : V), kvs[i]? = some (k, v) → xs[i]? = some (kV k) ∧ ys[i]? = some v) ∧ kvs.length ≤ sizeLine ∧ ∀ p, H p = none → Q (.ref p) (upd H p (.dK (mergeK [] kvs)))
theorem kv_rel (P : Program) (w : World) : ∀ {kvs : List (Key × V)} {us us2 : List Value}, (∀ (i : Nat) (k : Key) (v : V), kvs[i]? = some (k, v) → ∃ u u2, us[i]? = some u ∧ us2[i]? = some u2 ∧ RelV (kV k) u ∧ RelV v u2) →
    ∃ prs : List (Key × Value), KV kvs prs ∧ prs.length = kvs.length ∧ ∀ (i : Nat) (q : Key × Value), prs[i]? = some q → ∃ u, us[i]? = some u ∧ us2[i]? = some q.2 ∧ keyIs q.1 u = true
  | [], _, _, _ => ⟨[], .nil, rfl, fun i q e => by simp at e⟩
  | (k, v) :: r, us, us2, h => by
    obtain ⟨u, u2, e1, e2, r1, r2⟩ := h 0 k v rfl
    obtain ⟨prs, kr, hl, hp⟩ := kv_rel P w (kvs := r) (us := us.drop 1) (us2 := us2.drop 1) fun i k v e => by
      obtain ⟨u, u2, e1, e2, r1, r2⟩ := h (i + 1) k v (by simpa using e)
      exact ⟨u, u2, by rw [List.getElem?_drop, Nat.add_comm]; exact e1, by rw [List.getElem?_drop, Nat.add_comm]; exact e2, r1, r2⟩
    refine ⟨(k, u2) :: prs, .cons ⟨rfl, r2⟩ kr, by rw [List.length_cons, List.length_cons, hl], fun i q e => ?_⟩
    cases i with
    | zero =>
      have e' : (k, u2) = q := Option.some.inj e
      subst e'
      exact ⟨u, e1, e2, kV_is (P := P) (w := w) r1⟩
    | succ i =>
      obtain ⟨u', x1, x2, x3⟩ := hp i q (by simpa using e)
      exact ⟨u', by rw [List.getElem?_drop, Nat.add_comm] at x1; exact x1, by rw [List.getElem?_drop, Nat.add_comm] at x2; exact x2, x3⟩
theorem pe_dzip {X : Cx} {e e2 : Expr} {ta tb : TE} {p p2 q pos : Pos} (hg : Gl X "dict") (hm : X.mg "dict" = none) (hg2 : Gl X "zip") (hm2 : X.mg "zip" = none) (ha : PE X e ta) (hb : PE X e2 tb) (hc : X.calm = true) (pl : plainE e = true) (pl2 : plainE e2 = true) :
    PE X (.Call (.Name "dict" p) [.Call (.Name "zip" p2) [e, e2] [] q] [] pos) (tOp (rDz X.K) ta tb) := by
  have na : PA X [e, e2] (tCons ta (tCons tb tNil)) := pa_cons ha (pa_cons hb pa_nil (star1 pl2)) (star1 pl)
  refine ⟨fun pins s σ H Q I h => ?_⟩
  refine Call_ (ld_blt I hg hm PyProof.Rows.boot_dict ?_)
  refine PyProof.Rows.callWith_type1 (PyProof.Rows.args_cons ?_ rfl) rfl rfl
  have e1 : starEach [e, e2] X.env = (false, eval e X.env) :: starEach [e2] X.env := star1 pl
  have e3 : (backTo q (starEach [e2] X.env)).any (·.1) = false := star_any (by rw [List.all_cons, pl2]; rfl)
  have h' : tCons ta (tCons tb tNil) σ H (fun vs H1 => match vs with | [x, y] => rDz X.K x y H1 Q | _ => False) := h
  refine Call_ (ld_blt I hg2 hm2 PyProof.Rows.boot_zip (PyProof.Rows.callWith_type1 (thn (na.run q pins s σ H _ I h') fun us s1 ⟨vs, H1, I1, r1, q1⟩ => ?_) e1 e3))
  cases r1 with
  | nil => exact q1.elim
  | cons r rr =>
   cases rr with
   | nil => exact q1.elim
   | cons r' rr =>
    cases rr with
    | cons _ _ => exact q1.elim
    | nil =>
      obtain ⟨b1, b2, a, b, xs, ys, kvs, ex, ey, hqx, hqy, hl, hkv, hsz, q1⟩ := q1
      subst ex ey
      cases r
      cases r'
      obtain ⟨its, rv, s1p⟩ := inv_seqB I1 hqx
      obtain ⟨its2, rv2, s2p⟩ := inv_seqB I1 hqy
      have la := seqB_lt s1p
      have lb := seqB_lt s2p
      obtain ⟨prs, kr, pl3, hpr⟩ := kv_rel X.prog X.w (kvs := kvs) (us := its) (us2 := its2) fun i k v ei => by
        obtain ⟨x1, x2⟩ := hkv i k v ei
        obtain ⟨u, hu, ru⟩ := rv.get x1
        obtain ⟨u2, hu2, ru2⟩ := rv2.get x2
        exact ⟨u, u2, hu, hu2, ru, ru2⟩
      have en : min its.toArray.size its2.toArray.size = kvs.length := by
        rw [List.size_toArray, List.size_toArray, hl, rv.length, rv2.length]
      refine zip_begins2 (beginsB b1 a its.toArray) (beginsB b2 b its2.toArray) s1p s2p fun h' hz hTI hTO h1 h2 hsz' hk => ?_
      refine PyProof.Rows.args_nil ?_
      have hle : s1.heap.objs.size ≤ h'.objs.size := by rw [hsz']; exact Nat.le_add_right _ _
      refine PySem.call_dict_pairs (s := { s1 with heap := h' }) (knd := mixKind X.prog X.w) (kvs := prs) (zipArgB b1 b2 (s1.heap.objs.size + 4) (s1.heap.objs.size + 2) (s1.heap.objs.size + 3) s1.heap.objs.size (s1.heap.objs.size + 1) a b (zip_sep2 (fp1 := [a]) (fp2 := [b]) (fun c m => by rw [List.mem_singleton.mp m]; exact la) fun c m => by rw [List.mem_singleton.mp m]; exact lb) (Nat.ne_of_lt la) (Nat.ne_of_lt (Nat.lt_succ_of_lt lb)) its.toArray its2.toArray)
        (I1.ok.hd hc) ⟨⟨.none, false, hz, .inl rfl⟩, hTI, ⟨_, _, hTO⟩, itB_new h1, itB_new h2, seqB_at s1p fun o x => hk _ o x, seqB_at s2p fun o x => hk _ o x⟩ ⟨by rw [pl3, en], fun i key v hr => ?_⟩ (by rw [en]; exact hsz) fun h3 tk hd' k => ?_
      · have hi : i < prs.length := by
          rw [pl3, ← en]
          have e1 := (Array.getElem?_eq_some_iff.mp hr.1).1
          have e2 := (Array.getElem?_eq_some_iff.mp hr.2).1
          omega
        obtain ⟨u, x1, x2, x3⟩ := hpr i prs[i] (List.getElem?_eq_getElem hi)
        have r1 : its[i]? = some key := by simpa using hr.1
        have r2 : its2[i]? = some v := by simpa using hr.2
        rw [x1] at r1
        rw [x2] at r2
        cases r1
        refine ⟨prs[i].1, ?_, x3⟩
        rw [List.getElem?_eq_getElem hi, ← Option.some.inj r2]
      · have hm : (h'.objs.size == sysModules) = false := beq_eq_false_iff_ne.mpr (Nat.ne_of_gt (Nat.lt_of_lt_of_le I1.big hle))
        have hlen : (mergeK [] kvs).length ≤ sizeLine := by
          refine Nat.le_trans (length_mergeK kvs []) ?_
          rw [List.length_nil, Nat.zero_add]
          exact hsz
        have kk : ∀ c o, s1.heap.get? c = some o → h3.get? c = some o := fun c o x => k c o (fun m => by
          have := Heap.lt_size x
          simp only [List.mem_cons, List.not_mem_nil, or_false] at m
          have hle2 : s1.heap.objs.size ≤ c := by
            rcases m with z | z | z | z <;> rw [z] <;> first | exact Nat.le_add_right _ _ | exact Nat.le_refl _
          exact absurd this (Nat.not_lt.mpr hle2)) (hk c o x)
        exact ⟨.ref h'.objs.size, upd H1 h'.objs.size (.dK (mergeK [] kvs)), I1.laid (t' := tk) kk hle (show ObjOk X.prog X.w _ _ _ (.dK (mergeK [] kvs)) from ⟨hlen, hm, merged [] prs, KV.merge kr .nil, hd'⟩), rfl, q1 _ (I1.hok.fresh hle)⟩
theorem zipK_of {p : Addr} {F : Addr → Prop} {H : Hp} : ∀ {xs ys : List D} {ps : List (Key × D)} {vs us : List V}, pairsD (zipL xs ys) = some ps → Reps p F H xs vs → Reps p F H ys us →
    ∃ kvs : List (Key × V), Repk p F H ps kvs ∧ kvs.length = min vs.length us.length ∧ ∀ (i : Nat) (k : Key) (v : V), kvs[i]? = some (k, v) → vs[i]? = some (kV k) ∧ us[i]? = some v
  | [], ys, ps, vs, us, e, h1, h2 => by
    cases h1
    cases (show some [] = some ps from e)
    exact ⟨[], rfl, by simp, fun i k v q => by simp at q⟩
  | x :: xs, [], ps, vs, us, e, h1, h2 => by
    cases h2
    cases (show some [] = some ps from e)
    exact ⟨[], rfl, by simp, fun i k v q => by simp at q⟩
  | x :: xs, y :: ys, ps, vs, us, e, h1, h2 => by
    obtain ⟨v1, vs, rfl, r1, rs1⟩ := h1
    obtain ⟨v2, us, rfl, r2, rs2⟩ := h2
    have e' : ((keyD x).bind fun k => (pairsD (zipL xs ys)).map fun l => (k, y) :: l) = some ps := e
    cases q : keyD x with
    | none => rw [q] at e'; cases e'
    | some k' =>
      rw [q] at e'
      cases q2 : pairsD (zipL xs ys) with
      | none => rw [Option.bind_some, q2] at e'; cases e'
      | some l' =>
        rw [Option.bind_some, q2] at e'
        cases e'
        obtain ⟨kvs, a1, a2, a3⟩ := zipK_of q2 rs1 rs2
        have e1 := key_of (Rep.top r1) q
        subst e1
        refine ⟨(k', v2) :: kvs, ⟨v2, kvs, rfl, r2, a1⟩, by simp only [List.length_cons]; omega, fun i k v z => ?_⟩
        cases i with
        | zero =>
          cases (Option.some.inj z : (k', v2) = (k, v))
          exact ⟨rfl, rfl⟩
        | succ i => exact a3 i k v (by simpa using z)
theorem top_seq {p : Addr} {F : Addr → Prop} {H : Hp} {K : PySem.W.Frag} {d : D} {v : V} {xs : List D} (t : Top p F H d v) (h : seqD d = some xs) : ∃ b a vs, v = .ref a ∧ SqB b K H a vs ∧ xs.length ≤ sizeLine ∧ Reps p F H xs vs := by
  cases d with
  | lst ys =>
    cases h
    obtain ⟨a, vs, e, h1, h2, h3⟩ := top_lst t
    exact ⟨true, a, vs, e, SqL.of h1, h2, h3⟩
  | tup ys =>
    cases h
    obtain ⟨a, vs, e, h1, h2, h3⟩ := top_tup t
    exact ⟨false, a, vs, e, SqT.of h1, h2, h3⟩
  | _ => cases h
theorem k_dzip {K : PySem.W.Frag} : BinOk (rDz K) (prim .dzip) := by
  intro p F H d e z x y fl Q tx ty hk hq
  have hk : ((zipD d e).bind fun l => (pairsD l).bind fun ps => if (mergeD [] ps).length ≤ big then some (true, D.dic (mergeD [] ps)) else none) = some (fl, z) := hk
  cases e1 : seqD d with
  | none =>
    rw [show zipD d e = none from by unfold zipD; rw [e1]] at hk
    cases hk
  | some xs =>
    cases e2 : seqD e with
    | none =>
      rw [show zipD d e = none from by unfold zipD; rw [e1, e2]] at hk
      cases hk
    | some ys =>
      rw [show zipD d e = some (zipL xs ys) from by unfold zipD; rw [e1, e2], Option.bind_some] at hk
      cases e3 : pairsD (zipL xs ys) with
      | none => rw [e3] at hk; cases hk
      | some ps =>
        rw [e3, Option.bind_some] at hk
        split at hk
        · rename_i hl
          cases hk
          obtain ⟨b1, a, vs, rfl, s1, l1, r1⟩ := top_seq (K := K) tx e1
          obtain ⟨b2, b, us, rfl, s2, l2, r2⟩ := top_seq (K := K) ty e2
          obtain ⟨kvs, a1, a2, a3⟩ := zipK_of e3 r1 r2
          refine ⟨b1, b2, a, b, vs, us, kvs, rfl, rfl, s1, s2, a2, a3, ?_, fun c hn => hq _ _ (same_new hn) (.dic hn (by rw [← big_eq]; exact hl) (Repk.merge a1 repk_nil))⟩
          have := r1.length
          omega
        · cases hk
section
variable {W : Wd} {sc : Scope}
theorem evE_dzip {cl : Cl} {xp : D → Env → Prop} {a b : O} {r : Env} {Q : Bool → D → Env → Prop} (h : evE cl xp (.dzip a b) r Q) : evO cl xp a r fun x r1 => evO cl xp b r1 fun y r2 => ap .dzip r2 [x, y] Q := by
  unfold evE at h; exact h
theorem se_dzip (G : GOK W) {a b : O} {x y : Expr} {f g : Str} {p p2 q pos : Pos} (hf : f = ("dict" : Str)) (hg : isGl sc f = true) (hf2 : g = ("zip" : Str)) (hg2 : isGl sc g = true) (pl : plainE x = true) (pl2 : plainE y = true) (ha : SO W sc a x) (hb : SO W sc b y) :
    SE W sc (.dzip a b) (.Call (.Name f p) [.Call (.Name g p2) [x, y] [] q] [] pos) := by
  subst hf hf2
  obtain ⟨ta, a1, a2⟩ := ha
  obtain ⟨tb, b1, b2⟩ := hb
  have pe : ∀ X, XOK W sc X → PE X (.Call (.Name ("dict" : Str) p) [.Call (.Name ("zip" : Str) p2) [x, y] [] q] [] pos) (tOp (rDz W.K) ta tb) := fun X O => by
    rw [← O.K]
    exact pe_dzip (isGl_ok O hg) (by rw [O.mg]; exact G.ty .dict) (isGl_ok O hg2) (by rw [O.mg]; exact G.b12) (a1 X O) (b1 X O) O.calm pl pl2
  exact ⟨_, fun X O => ⟨pe X O, fun _ => ptv (pe X O) rfl⟩, sem2 k_dzip a2 b2 fun _ _ _ => evE_dzip⟩
end
end Wa

/-! more expressions -/
namespace Wa
open PySem PySem.Spec PyProof.Rows L2
variable [CM]
/-! sorted of a set of whole numbers, of any size -/
section
open PyProof.Rows
theorem sorted_setA {P : Program} {w : World} {A : Around} {E : Value → Shared → Prop} {s : Shared} {a : Addr} {S : Int → Bool} {n : Nat} {Q : Value → Shared → Prop} (R : SetR w s.heap a S n) (hh : A.handled = none) (hz : n ≤ 1000)
    (hQ : ∀ s' p (out : Array Value) (c : Nat) (ns : List Int), (∀ b o, s.heap.get? b = some o → s'.heap.get? b = some o) → s'.gens = s.gens → s'.os = s.os → s.heap.objs.size ≤ p →
      s'.heap.get? p = some (seqObj "list" out c) → IntsAre out.toList ns → ns.Pairwise (· < ·) → (∀ k, k ∈ ns ↔ S k = true) → ns.length = n → Q (.ref p) s') :
    wpAny (model P w) A (call (.builtin "sorted") [.ref a]) Q E s := by
  obtain ⟨o, es, ep, t, ho, hex, hd, g, nd, hm, hb, hf, hn, hr, hl⟩ := R
  refine Calls.call_function_entry kind_sorted plain_sorted entry_sorted (args_sorted1 _) ?_
  unfold Builtin.«sorted»
  refine wpAny_bind (m := checkCount "sorted" 1 1 _) (wpAny_pure ?_)
  refine wpAny_bind (collect_set (A := A.in1) hh ⟨o, ho, hex.1, hd⟩ hf hb hr hl fun s1 vs k1 hz' g1 o1 pm => ?_)
  have hvl : vs.length = n := by rw [pm.length_eq, List.length_map, Array.length_toList]; exact hn
  have hI : IntsAre vs (vs.map Builtin.Re.reRawOf) := ints_of vs fun v hv => by
    obtain ⟨e, he, q⟩ := List.mem_map.mp (pm.mem_iff.mp hv)
    obtain ⟨k, tk, h1, _⟩ := g e he
    exact ⟨k, tk, by rw [← q]; exact h1⟩
  have pk : (vs.map Builtin.Re.reRawOf).Perm (es.toList.map keyOf) := by
    have q := pm.map Builtin.Re.reRawOf
    rw [List.map_map] at q
    exact q
  refine wpAny_bind (wpAny_newList ?_ (by rw [hvl, sizeLine_eq]; omega))
  have hoL : (s1.heap.push (seqObj "list" vs.toArray 0)).get? s1.heap.objs.size = some (seqObj "list" vs.toArray 0) := Heap.get?_push_size _ rfl
  refine wpAny_bind (wpAny_holding (wpAny_call_entry slot_list_sort ⟨_, hoL, rfl⟩ entry_list_sort (SrtO.list_sort_ord SrtO.swo_int hoL (by rw [hvl, sizeLine_eq]; omega) (fun h2 => SrtO.ints_sortable hI h2) fun out h1 h2 => ⟨_, rfl, ?_⟩) (args_list_sort _)))
  obtain ⟨a1, a2, a3⟩ := SrtO.ints_out hI h1 h2
  obtain ⟨c, hc⟩ := sortedHeap_at (vs := vs) (out := out.toArray) hoL
  have pn : (out.map SrtO.iv).Perm (es.toList.map keyOf) := a2.trans pk
  refine wpAny_pure ⟨_, rfl, hQ _ s1.heap.objs.size out.toArray c (out.map SrtO.iv) (fun b u e => ?_) g1 o1 hz' hc a1 (L2.lt_of_le_nodup _ a3 (pn.nodup_iff.mpr nd)) (fun k => by rw [pn.mem_iff, ← hm k]) ?_⟩
  · have q := k1 b u e
    have hlt := Heap.lt_size q
    show (sortedHeap (s1.heap.push (seqObj "list" vs.toArray 0)) s1.heap.objs.size vs out.toArray).get? b = some u
    rw [sortedHeap_old (Nat.ne_of_lt hlt) (by rw [size_push']; exact Nat.lt_succ_of_lt hlt)]
    exact Heap.get?_push_of_some _ q
  · rw [pn.length_eq, List.length_map, Array.length_toList]; exact hn
end
def rSortedSetA (w : World) : List V → Hp → VK → Prop := fun vs H Q => ∃ (a : Addr) (S : Int → Bool) (n : Nat), vs = [V.ref a] ∧ H a = some (SetO w a S n) ∧ n ≤ 1000 ∧
  ∀ (ns : List Int) (p : Addr), ns.Pairwise (· < ·) → (∀ k : Int, k ∈ ns ↔ S k = true) → ns.length = n → H p = none → Q (.ref p) (upd H p (.lst (ns.map V.int)))
theorem cr_sortedSetA {X : Cx} (hc : X.calm = true) : CallR X (.builtin "sorted") (rSortedSetA X.w) := by
  intro pins s σ H vs us Q I r h
  obtain ⟨a, S, n, rfl, ha, h64, q⟩ := h
  have R := setO_get I ha
  rw [Vals.ref1 r]
  refine sorted_setA R (I.ok.hd hc) h64 fun s' p out c ns k g o hp hg hi hs hm hl => ?_
  have hlen : (ns.map V.int).length ≤ sizeLine := by rw [List.length_map, hl, sizeLine_eq]; omega
  have hn : H p = none := I.hok.fresh hp
  have J : Inv X pins σ (upd H p (.lst (ns.map V.int))) { s with heap := s'.heap, gens := s'.gens, drawn := s'.drawn, toks := s'.toks } :=
    I.call (ch := []) (Un.laid k hp hn) (I.hok.laid k hp ⟨hlen, out.toList, c, vals_of_ints hi, hg⟩) (by rw [g]; exact I.bare) (fun _ z => nomatch z)
  have e : s' = { s with heap := s'.heap, gens := s'.gens, drawn := s'.drawn, toks := s'.toks } := by
    cases s'
    cases s
    cases o
    rfl
  rw [e]
  exact ⟨.ref p, _, J, rfl, q ns p hs hm hl hn⟩
section
variable {W : Wd} {sc : Scope}
theorem dedupI_le : ∀ l : List Int, (dedupI l).length ≤ l.length
  | [] => Nat.le_refl _
  | x :: r => by
    unfold dedupI
    split
    · exact Nat.le_succ_of_le (dedupI_le r)
    · exact Nat.succ_le_succ (dedupI_le r)
theorem le_of_lt_pw : ∀ {l : List Int}, l.Pairwise (· < ·) → l.Pairwise (· ≤ ·) ∧ l.Nodup := fun {l} h => ⟨h.imp fun h => Int.le_of_lt h, h.imp fun h => by omega⟩
theorem se_sset (G : GOK W) {b : Bool} {o : O} {x : Expr} {f g : Str} {q q2 pos2 pos : Pos} (h1 : f = (if b = true then ("sorted" : Str) else ("len" : Str))) (h2 : isGl sc f = true) (h3 : g = ("set" : Str)) (h4 : isGl sc g = true) (h5 : plainE x = true) (ho : SO W sc o x) :
    SE W sc (.sset b o) (.Call (.Name f q) [.Call (.Name g q2) [x] [] pos2] [] pos) := by
  obtain ⟨ta, a1, a2⟩ := ho
  cases b with
  | true =>
    have h1 : f = ("sorted" : Str) := h1
    subst h1 h3
    have inn : ∀ X, XOK W sc X → PE X (.Call (.Name "set" q2) [x] [] pos2) (tCB (rSetJ W.K W.w) (tCons ta tNil)) := fun X O =>
      pe_callTy (by rw [← O.K, ← O.w]; exact cr_setJ O.calm) (isGl_ok O h4) (by rw [O.mg]; exact G.b14) boot_set (pa_cons (a1 X O) pa_nil (star1 h5)) (by decide +kernel) (by decide +kernel) (star1 h5) rfl
    have pe : ∀ X, XOK W sc X → PE X (.Call (.Name "sorted" q) [.Call (.Name "set" q2) [x] [] pos2] [] pos) (tCB (rSortedSetA W.w) (tCons (tCB (rSetJ W.K W.w) (tCons ta tNil)) tNil)) := fun X O =>
      pe_callB (by rw [← O.w]; exact cr_sortedSetA O.calm) (isGl_ok O h2) (by rw [O.mg]; exact G.b6) boot_sorted (pa_cons (inn X O) pa_nil) (by decide +kernel) (by decide +kernel)
    refine ⟨_, fun X O => ⟨pe X O, fun _ => ptv (pe X O) rfl⟩, fun {xp} c F rr σ _ H Q Q' S h hq => ?_⟩
    unfold evE at h
    refine a2 c F rr σ H _ _ S h fun tk r1 F1 H1 v q1 st1 S1 ok1 => ?_
    obtain ⟨ds, fl, d, k1, k2, k3⟩ := op_end (vs := [v]) st1 S1 q1 ⟨v, [], rfl, ok1, rfl⟩ hq
    obtain ⟨d1, rfl, t1⟩ := tops_inv1 k2
    replace k1 : pSortset [d1] = some (fl, d) := k1
    unfold pSortset at k1
    split at k1
    · rename_i xs e0
      cases e0
      cases hi : intsD xs with
      | none => rw [hi] at k1; cases k1
      | some ns =>
        rw [hi] at k1
        replace k1 : (if ns.length ≤ 1000 then some (true, D.lst ((sortI (dedupI ns)).map .int)) else none) = some (fl, d) := k1
        split at k1
        · rename_i h64
          cases k1
          obtain ⟨a, vs, rfl, ea, la, ra⟩ := top_lst t1
          obtain ⟨e2, e3⟩ := intsD_of hi ra
          subst e2 e3
          refine ⟨a, ns, rfl, .inl (SqL.of ea), by omega, fun p hp => ?_⟩
          have s1 := same_new (o := SetO W.w p (fun j => decide (j ∈ ns)) (dedupI ns).length) hp
          refine ⟨p, _, _, rfl, upd_same, Nat.le_trans (dedupI_le ns) h64, fun ms p2 hpw hmem hlen hp2 => ?_⟩
          have hperm : ms.Perm (dedupI ns) := (List.perm_ext_iff_of_nodup (le_of_lt_pw hpw).2 (nodup_dedupI ns)).mpr fun k => by
            rw [hmem, mem_dedupI]
            exact decide_eq_true_iff
          have e4 := sortI_uniq hperm (le_of_lt_pw hpw).1
          subst e4
          refine k3 _ _ (s1.trans (same_new hp2)) ⟨p2, rfl, ?_, ⟨_, upd_same, ?_, .mapInt⟩⟩
          · cases z : H1 p2 with
            | none => rfl
            | some o => rw [s1 _ _ z] at hp2; cases hp2
          · have hle := dedupI_le ns
            rw [List.length_map, (sortI_perm _).length_eq, sizeLine_eq]
            omega
        · cases k1
    · rename_i xs e0
      cases e0
      cases hi : intsD xs with
      | none => rw [hi] at k1; cases k1
      | some ns =>
        rw [hi] at k1
        replace k1 : (if ns.length ≤ 1000 then some (true, D.lst ((sortI (dedupI ns)).map .int)) else none) = some (fl, d) := k1
        split at k1
        · rename_i h64
          cases k1
          obtain ⟨a, vs, rfl, ea, la, ra⟩ := t1
          obtain ⟨e2, e3⟩ := intsD_of hi ra
          subst e2 e3
          refine ⟨a, ns, rfl, .inr (SqT.of ea), by omega, fun p hp => ?_⟩
          have s1 := same_new (o := SetO W.w p (fun j => decide (j ∈ ns)) (dedupI ns).length) hp
          refine ⟨p, _, _, rfl, upd_same, Nat.le_trans (dedupI_le ns) h64, fun ms p2 hpw hmem hlen hp2 => ?_⟩
          have hperm : ms.Perm (dedupI ns) := (List.perm_ext_iff_of_nodup (le_of_lt_pw hpw).2 (nodup_dedupI ns)).mpr fun k => by
            rw [hmem, mem_dedupI]
            exact decide_eq_true_iff
          have e4 := sortI_uniq hperm (le_of_lt_pw hpw).1
          subst e4
          refine k3 _ _ (s1.trans (same_new hp2)) ⟨p2, rfl, ?_, ⟨_, upd_same, ?_, .mapInt⟩⟩
          · cases z : H1 p2 with
            | none => rfl
            | some o => rw [s1 _ _ z] at hp2; cases hp2
          · have hle := dedupI_le ns
            rw [List.length_map, (sortI_perm _).length_eq, sizeLine_eq]
            omega
        · cases k1
    · cases k1
  | false =>
    have h1 : f = ("len" : Str) := h1
    subst h1 h3
    have pe : ∀ X, XOK W sc X → PE X (.Call (.Name "len" q) [.Call (.Name "set" q2) [x] [] pos2] [] pos) (tLenSetT W.K ta) := fun X O => by
      rw [← O.K]
      exact pe_lenSetT (isGl_ok O h2) (by rw [O.mg]; exact G.b1) (isGl_ok O h4) (by rw [O.mg]; exact G.b14) (a1 X O) O.calm (by rw [O.A]; have := G.room.un; omega) (star1 h5)
    refine ⟨_, fun X O => ⟨pe X O, fun _ => ptv (pe X O) rfl⟩, fun {xp} c F rr σ _ H Q Q' S h hq => ?_⟩
    unfold evE at h
    refine a2 c F rr σ H _ _ S h fun tk r1 F1 H1 v q1 st1 S1 ok1 => ?_
    obtain ⟨ds, fl, d, k1, k2, k3⟩ := op_end (vs := [v]) st1 S1 q1 ⟨v, [], rfl, ok1, rfl⟩ hq
    obtain ⟨d1, rfl, t1⟩ := tops_inv1 k2
    replace k1 : pLenset [d1] = some (fl, d) := k1
    unfold pLenset at k1
    split at k1
    · rename_i xs e0
      cases e0
      cases hi : intsD xs with
      | none =>
        rw [hi] at k1
        cases hi2 : intssD xs with
        | none => rw [hi2] at k1; cases k1
        | some kss =>
          rw [hi2] at k1
          replace k1 : (if kss.length < 64 then some (false, D.int ((dedupL kss).length : Nat)) else none) = some (fl, d) := k1
          split at k1
          · rename_i h64
            cases k1
            obtain ⟨a, vs, rfl, ea, la, ra⟩ := t1
            obtain ⟨ks, e2, e3, e4, e5⟩ := intssD_of hi2 ra
            subst e2 e3
            exact .inr ⟨a, ks, rfl, SqT.of ea, fun q hq => SqT.of (e5 q hq).1, by rw [List.length_map] at h64; exact h64, k3 _ _ (Same.refl _) rfl⟩
          · cases k1
      | some ns =>
        rw [hi] at k1
        replace k1 : (if ns.length < 64 then some (false, D.int ((dedupI ns).length : Nat)) else none) = some (fl, d) := k1
        split at k1
        · rename_i h64
          cases k1
          obtain ⟨a, vs, rfl, ea, la, ra⟩ := t1
          obtain ⟨e2, e3⟩ := intsD_of hi ra
          subst e2 e3
          exact .inl ⟨a, ns, rfl, .inr (SqT.of ea), by omega, k3 _ _ (Same.refl _) rfl⟩
        · cases k1
    · rename_i xs e0
      cases e0
      cases hi : intsD xs with
      | none => rw [hi] at k1; cases k1
      | some ns =>
        rw [hi] at k1
        replace k1 : (if ns.length < 64 then some (false, D.int ((dedupI ns).length : Nat)) else none) = some (fl, d) := k1
        split at k1
        · rename_i h64
          cases k1
          obtain ⟨a, vs, rfl, ea, la, ra⟩ := top_lst t1
          obtain ⟨e2, e3⟩ := intsD_of hi ra
          subst e2 e3
          exact .inl ⟨a, ns, rfl, .inl (SqL.of ea), by omega, k3 _ _ (Same.refl _) rfl⟩
        · cases k1
    · cases k1
/-! list(range(..)), tuple(range(..)) -/
theorem rangeL_ints {lo : Int} {n : Nat} : rangeL lo 1 n = ((List.range n).map fun i => lo + (i : Nat)).map D.int := by
  unfold rangeL
  rw [List.map_map]
  apply List.map_congr_left
  intro i _
  show D.int (lo + (i : Nat) * 1) = D.int (lo + (i : Nat))
  rw [Int.mul_one]
theorem rgV_ints {a b : Int} : rgV a b = ((List.range (b - a).toNat).map fun i => a + (i : Nat)).map V.int := by
  unfold rgV
  rw [List.map_map]
  rfl
theorem rg_giv {p : Addr} {F : Addr → Prop} {H : Hp} {tp : Bool} {a b : Int} (ha : in62 a = true) (hb : in62 b = true) {q : Addr} (hq : H q = none) (o : HO) (ho : o = (if tp = true then .tup (rgV a b) else .lst (rgV a b))) : Giv p F H (upd H q o) (!tp) (rgD tp (rangeL a 1 (b - a).toNat)) (.ref q) := by
  obtain ⟨_, _, h1, h2⟩ := in62_ok ha
  obtain ⟨_, _, h3, h4⟩ := in62_ok hb
  have hl : (rangeL a 1 (b - a).toNat).length ≤ sizeLine := by rw [rangeL_ints, List.length_map, List.length_map, List.length_range, sizeLine_eq]; omega
  cases tp with
  | true =>
    subst ho
    exact ⟨q, _, rfl, upd_same, hl, by rw [rangeL_ints, rgV_ints]; exact .mapInt⟩
  | false =>
    subst ho
    exact ⟨q, rfl, hq, _, upd_same, hl, by rw [rangeL_ints, rgV_ints]; exact .mapInt⟩
theorem rg_ok {a b : Int} (ha : in62 a = true) (hb : in62 b = true) : RgOk a b := by
  obtain ⟨h5, h6, h1, h2⟩ := in62_ok ha
  obtain ⟨h7, h8, h3, h4⟩ := in62_ok hb
  exact ⟨h5, h6, h7, h8, by omega⟩
theorem se_rg1 (G : GOK W) {tp : Bool} {a : E} {x : Expr} {f g : Str} {q q2 pos2 pos : Pos} (h1 : f = (if tp = true then ("tuple" : Str) else ("list" : Str))) (h2 : isGl sc f = true) (h3 : g = ("range" : Str)) (h4 : isGl sc g = true) (h5 : plainE x = true) (ha : SE W sc a x) :
    SE W sc (.rg1 tp a) (.Call (.Name f q) [.Call (.Name g q2) [x] [] pos2] [] pos) := by
  obtain ⟨ta, a1, a2⟩ := ha
  subst h3
  have inn : ∀ X, XOK W sc X → PRg X (.Call (.Name "range" q2) [x] [] pos2) (tRg1 ta) := fun X O => prg_1 (isGl_ok O h4) (by rw [O.mg]; exact G.b11) (a1 X O).1 (star1 h5)
  have k0 : in62 0 = true := by decide
  cases tp with
  | true =>
    have h1 : f = ("tuple" : Str) := h1
    subst h1
    have pe : ∀ X, XOK W sc X → PE X (.Call (.Name "tuple" q) [.Call (.Name "range" q2) [x] [] pos2] [] pos) (tTupRg (tRg1 ta)) := fun X O => pe_tupRg O.calm (isGl_ok O h2) (by rw [O.mg]; exact G.b4) (inn X O) rfl
    refine ⟨_, fun X O => ⟨pe X O, fun _ => ptv (pe X O) rfl⟩, fun {xp} c F rr σ _ H Q Q' S h hq => ?_⟩
    unfold evE at h
    refine a2 c F rr σ H _ _ S h fun fl d r1 F1 H1 v q1 st1 S1 ok1 => ?_
    split at q1
    · rename_i j
      refine ⟨j, res_int ok1, rg_ok k0 q1.1, fun p hp => ?_⟩
      have sm := same_new (o := .tup (rgV 0 j)) hp
      have e : (j - 0).toNat = j.toNat := by rw [Int.sub_zero]
      exact hq _ _ _ _ _ _ q1.2 (st1.trans (Step.of_same sm)) (S1.same sm) (S1.res (by have z := rg_giv (p := c.p) (F := F1) (tp := true) k0 q1.1 hp _ rfl; rw [e] at z; exact z))
    · exact q1.elim
  | false =>
    have h1 : f = ("list" : Str) := h1
    subst h1
    have pe : ∀ X, XOK W sc X → PE X (.Call (.Name "list" q) [.Call (.Name "range" q2) [x] [] pos2] [] pos) (tLstRg (tRg1 ta)) := fun X O => pe_listRg O.calm (isGl_ok O h2) (by rw [O.mg]; exact G.b5) (inn X O) rfl
    refine ⟨_, fun X O => ⟨pe X O, fun _ => ptv (pe X O) rfl⟩, fun {xp} c F rr σ _ H Q Q' S h hq => ?_⟩
    unfold evE at h
    refine a2 c F rr σ H _ _ S h fun fl d r1 F1 H1 v q1 st1 S1 ok1 => ?_
    split at q1
    · rename_i j
      refine ⟨j, res_int ok1, rg_ok k0 q1.1, fun p hp => ?_⟩
      have sm := same_new (o := .lst (rgV 0 j)) hp
      have e : (j - 0).toNat = j.toNat := by rw [Int.sub_zero]
      exact hq _ _ _ _ _ _ q1.2 (st1.trans (Step.of_same sm)) (S1.same sm) (S1.res (by have z := rg_giv (p := c.p) (F := F1) (tp := false) k0 q1.1 hp _ rfl; rw [e] at z; exact z))
    · exact q1.elim
theorem se_rg2 (G : GOK W) {tp : Bool} {a b : E} {x y : Expr} {f g : Str} {q q2 pos2 pos : Pos} (h1 : f = (if tp = true then ("tuple" : Str) else ("list" : Str))) (h2 : isGl sc f = true) (h3 : g = ("range" : Str)) (h4 : isGl sc g = true) (h5 : plainE x = true) (h6 : plainE y = true) (ha : SE W sc a x) (hb : SE W sc b y) :
    SE W sc (.rg2 tp a b) (.Call (.Name f q) [.Call (.Name g q2) [x, y] [] pos2] [] pos) := by
  obtain ⟨ta, a1, a2⟩ := ha
  obtain ⟨tb, b1, b2⟩ := hb
  subst h3
  have inn : ∀ X, XOK W sc X → PRg X (.Call (.Name "range" q2) [x, y] [] pos2) (tRg2 ta tb) := fun X O => prg_2 (isGl_ok O h4) (by rw [O.mg]; exact G.b11) (a1 X O).1 (b1 X O).1 (star1 h5) (star1 h6) (by rw [star1 h6]; rfl)
  cases tp with
  | true =>
    have h1 : f = ("tuple" : Str) := h1
    subst h1
    have pe : ∀ X, XOK W sc X → PE X (.Call (.Name "tuple" q) [.Call (.Name "range" q2) [x, y] [] pos2] [] pos) (tTupRg (tRg2 ta tb)) := fun X O => pe_tupRg O.calm (isGl_ok O h2) (by rw [O.mg]; exact G.b4) (inn X O) rfl
    refine ⟨_, fun X O => ⟨pe X O, fun _ => ptv (pe X O) rfl⟩, fun {xp} c F rr σ _ H Q Q' S h hq => ?_⟩
    unfold evE at h
    refine a2 c F rr σ H _ _ S h fun fl d r1 F1 H1 v q1 st1 S1 ok1 => ?_
    refine b2 c F1 r1 σ H1 _ _ S1 q1 fun fl2 e r2 F2 H2 u q2' st2 S2 ok2 => ?_
    split at q2'
    · rename_i i j
      have ok1' : Res c F2 r2 σ H2 false (.int i) v := res_int ok1
      refine ⟨i, j, res_int ok1, res_int ok2, rg_ok q2'.1 q2'.2.1, fun p hp => ?_⟩
      have sm := same_new (o := .tup (rgV i j)) hp
      exact hq _ _ _ _ _ _ q2'.2.2 ((st1.trans st2).trans (Step.of_same sm)) (S2.same sm) (S2.res (rg_giv (tp := true) q2'.1 q2'.2.1 hp _ rfl))
    · exact q2'.elim
  | false =>
    have h1 : f = ("list" : Str) := h1
    subst h1
    have pe : ∀ X, XOK W sc X → PE X (.Call (.Name "list" q) [.Call (.Name "range" q2) [x, y] [] pos2] [] pos) (tLstRg (tRg2 ta tb)) := fun X O => pe_listRg O.calm (isGl_ok O h2) (by rw [O.mg]; exact G.b5) (inn X O) rfl
    refine ⟨_, fun X O => ⟨pe X O, fun _ => ptv (pe X O) rfl⟩, fun {xp} c F rr σ _ H Q Q' S h hq => ?_⟩
    unfold evE at h
    refine a2 c F rr σ H _ _ S h fun fl d r1 F1 H1 v q1 st1 S1 ok1 => ?_
    refine b2 c F1 r1 σ H1 _ _ S1 q1 fun fl2 e r2 F2 H2 u q2' st2 S2 ok2 => ?_
    split at q2'
    · rename_i i j
      refine ⟨i, j, res_int ok1, res_int ok2, rg_ok q2'.1 q2'.2.1, fun p hp => ?_⟩
      have sm := same_new (o := .lst (rgV i j)) hp
      exact hq _ _ _ _ _ _ q2'.2.2 ((st1.trans st2).trans (Step.of_same sm)) (S2.same sm) (S2.res (rg_giv (tp := false) q2'.1 q2'.2.1 hp _ rfl))
    · exact q2'.elim
/-! xs.count(k), xs.pop(), xs.pop(i) -/
/-- how often a truth stands in a list of truths -/
def rCntB (K : PySem.W.Frag) : V → List V → Hp → VK → Prop := fun x xs H Q => ∃ (p : Addr) (bs : List Bool) (k : Bool), x = .ref p ∧ xs = [.bl k] ∧ SqL K H p (bs.map V.bl) ∧ Q (.int (bs.count k : Nat)) H
theorem vals_bools : ∀ {bs : List Bool} {its : List Value}, Vals (bs.map V.bl) its → its = bs.map Value.bool
  | [], _, h => by cases h; rfl
  | b :: bs, _, h => by
    cases h with
    | cons r rr =>
      cases r
      rw [vals_bools rr]
      rfl
theorem reads_bools {h : Heap} : ∀ bs : List Bool, ReadsAll h (bs.map Value.bool) (bs.map PyData.bool) []
  | [] => .nil
  | b :: bs => .cons (as := []) (bs := []) (.bool b) (reads_bools bs)
theorem cnt_bools (k : Bool) : ∀ bs : List Bool, (countIn (.bool k) (bs.map PyData.bool) : Int) = (bs.count k : Nat)
  | [] => rfl
  | b :: bs => by
    have ih := cnt_bools k bs
    rw [List.map_cons, countIn, ih, List.count_cons]
    cases b <;> cases k <;> simp [same] <;> omega
theorem mt_lcountA {X : Cx} : MtR X "list.count" (fun x xs H Q => rCntI X.K x xs H Q ∨ rCntB X.K x xs H Q) := by
  intro pins s σ H x xs v us Q I rx rxs h
  rcases h with h | ⟨p, bs, k, rfl, rfl, hs, q⟩
  · exact mt_lcount pins s σ H x xs v us Q I rx rxs h
  · cases rx
    obtain ⟨u, rfl, ru⟩ := rxs.one
    cases ru
    obtain ⟨its, rv, hl, _⟩ := I.list hs
    have e := vals_bools rv
    subst e
    refine count_list_bools hl.isList (reads_bools (h := s.heap) bs) (List.all_eq_true.mpr fun y hy => ?_) ?_
    · obtain ⟨b, _, rfl⟩ := List.mem_map.mp hy
      rfl
    · exact ⟨.int (bs.count k : Nat), H, I.tok _, ⟨s.toks, by rw [cnt_bools]⟩, q⟩
theorem se_cnt (G : GOK W) {a b : O} {z : Str} {y : Expr} {m : Str} {q p2 p3 : Pos} (h1 : m = ("count" : Str)) (h2 : plainE y = true) (h3 : (p2.endLine == p3.line) = true) (ha : SO W sc a (.Name z q)) (hb : SO W sc b y) : SE W sc (.cnt a b) (.Call (.Attribute (.Name z q) m p2) [y] [] p3) := by
  obtain ⟨ta, a1, a2⟩ := ha
  obtain ⟨tb, b1, b2⟩ := hb
  subst h1
  have pe : ∀ X, XOK W sc X → PE X (.Call (.Attribute (.Name z q) "count" p2) [y] [] p3) (tBM W.K "list" (fun x xs H Q => rCntI W.K x xs H Q ∨ rCntB W.K x xs H Q) ta (tCons tb tNil)) := fun X O => by
    rw [← O.K]
    exact pe_bm PySem.F.plainAttrs_list PySem.F.slot_list_count PySem.F.type_list_count mt_lcountA (a1 X O) (pa_cons (b1 X O) pa_nil (star1 h2)) rfl (by rw [star1 h2]; rfl) h3 (star1 h2) rfl
  refine ⟨_, fun X O => ⟨pe X O, fun _ => ptv (pe X O) rfl⟩, fun {xp} c F rr σ _ H Q Q' S h hq => ?_⟩
  unfold evE at h
  refine a2 c F rr σ H _ _ S h fun tk r1 F1 H1 v q1 st1 S1 ok1 => ?_
  obtain ⟨hl, q1⟩ := q1
  cases ht : tokD r1 tk with
  | none => rw [ht] at hl; cases hl
  | some d0 =>
    rw [ht] at hl
    have T0 := S1.tok ok1 ht
    cases d0 <;> first
      | (cases hl; done)
      | skip
    rename_i ds0
    obtain ⟨a0, xs0, rfl, e0, _, _⟩ := top_lst T0
    refine ⟨tyV_list e0, ?_⟩
    refine b2 c F1 r1 σ H1 _ _ S1 q1 fun y r2 F2 H2 u q2 st2 S2 ok2 => ?_
    obtain ⟨ds, fl, d, k1, k2, k3⟩ := op_end (vs := [.ref a0, u]) (st1.trans st2) S2 q2 ⟨_, [u], rfl, ok1.step st2, u, [], rfl, ok2, rfl⟩ hq
    obtain ⟨d1, d2, rfl, t1, t2⟩ := tops_inv2 k2
    replace k1 : pCount [d1, d2] = some (fl, d) := k1
    unfold pCount at k1
    split at k1
    · rename_i xs kk e
      cases e
      cases hi : intsD xs with
      | none => rw [hi] at k1; cases k1
      | some ns =>
        rw [hi] at k1
        cases k1
        obtain ⟨a, vs, e1, ea, la, ra⟩ := top_lst t1
        cases e1
        obtain ⟨e2, e3⟩ := intsD_of hi ra
        subst e2 e3
        have t2' : u = .int kk := t2
        subst t2'
        exact .inl ⟨a0, ns, kk, rfl, rfl, SqL.of ea, k3 _ _ (Same.refl _) rfl⟩
    · rename_i xs kk e
      cases e
      cases hi : boolsD xs with
      | none => rw [hi] at k1; cases k1
      | some ns =>
        rw [hi] at k1
        cases k1
        obtain ⟨a, vs, e1, ea, la, ra⟩ := top_lst t1
        cases e1
        have e2 := boolsD_of hi ra
        subst e2
        have t2' : u = .bl kk := t2
        subst t2'
        exact .inr ⟨a0, ns, kk, rfl, rfl, SqL.of ea, k3 _ _ (Same.refl _) rfl⟩
    · cases k1
theorem se_pop (G : GOK W) {i : Nat} {z m : Str} {q p2 p3 : Pos} (h1 : m = ("pop" : Str)) (h2 : W.N[i]? = some z) (h3 : isVis sc z = true) (h4 : okNm z = true) (h5 : (p2.endLine == p3.line) = true) : SE W sc (.pop i) (.Call (.Attribute (.Name z q) m p2) [] [] p3) := by
  obtain ⟨g1, g2, _⟩ := okNm_ok h4
  subst h1
  have pe : ∀ X, XOK W sc X → PE X (.Call (.Attribute (.Name z q) "pop" p2) [] [] p3) (tBM0 W.K "list" rPop (tVar i)) := fun X O => by
    rw [← O.K]
    exact pe_bm0 PySem.F.plainAttrs_list PySem.F.slot_list_pop PySem.F.type_list_pop mt_pop (pe_var (by rw [O.N]; exact h2) (by rw [O.sc]; exact isVis_ok h3) g1 g2) rfl h5
  refine ⟨_, fun X O => ⟨pe X O, fun _ => ptv (pe X O) rfl⟩, fun {xp} c F rr σ _ H Q Q' S h hq => ?_⟩
  unfold evE at h
  cases hx : owAt rr i with
  | none => rw [hx] at h; exact h.elim
  | some xs =>
    rw [hx] at h
    obtain ⟨a, vs, ha, hH, hl, hR⟩ := S.at_ow hx
    cases hg : xs.getLast? with
    | none => simp only [hg] at h
    | some y =>
      simp only [hg] at h
      have hy : xs[xs.length - 1]? = some y := by rw [← List.getLast?_eq_getElem?]; exact hg
      obtain ⟨v, hv, rv⟩ := hR.get hy
      obtain ⟨st4, S4⟩ := S.mut (ds := xs.dropLast) (ys := vs.dropLast) (owAt_ok hx) ha (by rw [List.length_dropLast]; omega) (Reps.dropLast hR)
      exact ⟨_, ha, .inl ⟨rfl, vs, SqL.of hH⟩, a, vs, v, rfl, rfl, hH, by rw [hR.length]; exact hv, hq _ _ _ _ _ _ h st4 S4 (Rep.step st4 _ _ rv)⟩
theorem se_popi (G : GOK W) {i : Nat} {k : E} {z m : Str} {y : Expr} {q p2 p3 : Pos} (h1 : m = ("pop" : Str)) (hp : plainE y = true) (h2 : W.N[i]? = some z) (h3 : isVis sc z = true) (h4 : okNm z = true) (h5 : (p2.endLine == p3.line) = true) (hk : SE W sc k y) : SE W sc (.popi i k) (.Call (.Attribute (.Name z q) m p2) [y] [] p3) := by
  obtain ⟨g1, g2, _⟩ := okNm_ok h4
  obtain ⟨tk, b1, b2⟩ := hk
  subst h1
  have pe : ∀ X, XOK W sc X → PE X (.Call (.Attribute (.Name z q) "pop" p2) [y] [] p3) (tBM W.K "list" rPopAt (tVar i) (tCons tk tNil)) := fun X O => by
    rw [← O.K]
    exact pe_bm PySem.F.plainAttrs_list PySem.F.slot_list_pop PySem.F.type_list_pop mt_popAt (pe_var (by rw [O.N]; exact h2) (by rw [O.sc]; exact isVis_ok h3) g1 g2) (pa_cons (b1 X O).1 pa_nil (star1 hp)) rfl (by rw [star1 hp]; rfl) h5 (star1 hp) rfl
  refine ⟨_, fun X O => ⟨pe X O, fun _ => ptv (pe X O) rfl⟩, fun {xp} c F rr σ _ H Q Q' S h hq => ?_⟩
  unfold evE at h
  obtain ⟨ho, h⟩ := h
  cases hx : owAt rr i with
  | none => rw [hx] at ho; cases ho
  | some xs0 =>
    obtain ⟨a, vs0, ha, hH0, _⟩ := S.at_ow hx
    refine ⟨_, ha, .inl ⟨rfl, vs0, SqL.of hH0⟩, ?_⟩
    refine b2 c F rr σ H _ _ S h fun fl d r1 F1 H1 kv q1 st S1 res => ?_
    have q3 : ∃ (n : Int) (xs : List D) (j : Nat) (w : D), d = .int n ∧ owAt r1 i = some xs ∧ ixN xs.length n = some j ∧ xs[j]? = some w ∧ Q false w (r1.set i (.ow (.lst (xs.eraseIdx j)))) := by
      revert q1
      cases d <;> cases owAt r1 i <;> first
        | exact fun h => h.elim
        | skip
      rename_i n xs
      intro q1
      cases hj : ixN xs.length n with
      | none => simp only [hj] at q1
      | some j =>
        simp only [hj] at q1
        cases hw : xs[j]? with
        | none => simp only [hw] at q1
        | some w => simp only [hw] at q1; exact ⟨n, xs, j, w, rfl, rfl, hj, hw, q1⟩
    obtain ⟨n, xs, j, w, rfl, hx2, hj, hw, q4⟩ := q3
    have hv := res_int res
    subst hv
    obtain ⟨a', vs, ha', hH, hl, hR⟩ := S1.at_ow hx2
    rw [ha] at ha'
    cases ha'
    obtain ⟨v, hv, rv⟩ := hR.get hw
    obtain ⟨e1, e2, e3, e4⟩ := ixN_seq hj
    have hl' : (xs.length : Int) ≤ 16777216 := by have := hl; rw [sizeLine_eq] at this; omega
    obtain ⟨st4, S4⟩ := S1.mut (ds := xs.eraseIdx j) (ys := vs.eraseIdx j) (owAt_ok hx2) ha (by rw [List.length_eraseIdx]; split <;> omega) (Reps.eraseIdx j hR)
    exact ⟨a, vs, n, j, v, rfl, rfl, hH, by omega, by omega, by rw [hR.length]; exact e1, hv, hq _ _ _ _ _ _ q4 (st.trans st4) S4 (Rep.step st4 _ _ rv)⟩
theorem se_revx {o : O} {x : Expr} {j : Nat} {p1 p2 p3 pos : Pos} (ho : SO W sc o x) : SE W sc (.revx o) (.Subscript x (.Slice none none (some (.UnaryOp .USub (.Constant (.int 1) j p1) p2)) p3) pos) := by
  obtain ⟨ta, a1, a2⟩ := ho
  have pe : ∀ X, XOK W sc X → PE X (.Subscript x (.Slice none none (some (.UnaryOp .USub (.Constant (.int 1) j p1) p2)) p3) pos) (tRevA W.K ta) := fun X O => by rw [← O.K]; exact pe_revA (a1 X O)
  refine ⟨_, fun X O => ⟨pe X O, fun _ => ptv (pe X O) rfl⟩, fun {xp} c F rr σ _ H Q Q' S h hq => ?_⟩
  unfold evE at h
  refine a2 c F rr σ H _ _ S h fun tk r1 F1 H1 v q1 st1 S1 ok1 => ?_
  obtain ⟨ds, fl, d, k1, k2, k3⟩ := op_end (vs := [v]) st1 S1 q1 ⟨v, [], rfl, ok1, rfl⟩ hq
  obtain ⟨d1, rfl, t1⟩ := tops_inv1 k2
  replace k1 : pRev [d1] = some (fl, d) := k1
  unfold pRev at k1
  split at k1
  · rename_i xs e0
    cases e0
    cases k1
    obtain ⟨a, vs, rfl, ea, la, ra⟩ := t1
    refine ⟨a, vs, rfl, .inr ⟨SqT.of ea, fun p hp => k3 _ _ (same_new hp) ?_⟩⟩
    exact ⟨p, _, rfl, upd_same, by rw [List.length_reverse]; exact la, Reps.step (Step.of_same (same_new hp)) _ _ ra.reverse⟩
  · rename_i xs e0
    cases e0
    cases k1
    obtain ⟨a, vs, rfl, ea, la, ra⟩ := top_lst t1
    refine ⟨a, vs, rfl, .inl ⟨SqL.of ea, fun p hp => k3 _ _ (same_new hp) ?_⟩⟩
    exact ⟨p, rfl, hp, _, upd_same, by rw [List.length_reverse]; exact la, Reps.step (Step.of_same (same_new hp)) _ _ ra.reverse⟩
  · cases k1
end
end Wa

/-! targets and comprehensions -/
namespace Wa
open PySem PySem.Spec PyProof.Rows L2
variable [CM]

section
variable {c : Ctx} {F F' : Addr → Prop} {r : Env} {σ : L2.St} {H H' : Hp}
theorem Sim.re (S : Sim c F r σ H) {r' : Env} {σ' : L2.St} (hl : r'.length = σ'.length) (h : ∀ (j : Nat) (s : Sl), r'[j]? = some s → (r[j]? = some s ∧ σ'[j]? = σ[j]?) ∨ s = .no ∨ ∃ d v, s = .sh d ∧ σ'[j]? = some (some v) ∧ Rep c.p F H d v) : Sim c F r' σ' H where
  len := hl
  slot := fun j s e => by
    rcases h j s e with ⟨h1, h2⟩ | h1 | ⟨d, v, h1, h2, h3⟩
    · rw [h2]; exact S.slot j s h1
    · subst h1; trivial
    · subst h1; exact ⟨v, h2, h3⟩
  sep := fun i j a d e hi hj si sj => by
    rcases h i _ hi with ⟨h1, h2⟩ | h1 | ⟨_, _, h1, _⟩
    · rcases h j _ hj with ⟨h3, h4⟩ | h3 | ⟨_, _, h3, _⟩
      · exact S.sep i j a d e h1 h3 (by rw [← h2]; exact si) (by rw [← h4]; exact sj)
      · cases h3
      · cases h3
    · cases h1
    · cases h1
  frame := S.frame
  fr0 := S.fr0
  fnew := S.fnew
  ftrk := S.ftrk
  pen := S.pen
  npF := S.npF
theorem wipeE_len (r : Env) : ∀ vs : List Nat, (wipeE r vs).length = r.length
  | [] => rfl
  | v :: vs => by unfold wipeE; rw [List.length_set, wipeE_len r vs]
theorem wipeE_get {r : Env} : ∀ {vs : List Nat} {j : Nat} {s : Sl}, (wipeE r vs)[j]? = some s → s = .no ∨ (j ∉ vs ∧ r[j]? = some s)
  | [], j, s, h => .inr ⟨by simp, h⟩
  | v :: vs, j, s, h => by
    unfold wipeE at h
    by_cases e : j = v
    · subst e
      have hl := lt_of_get h
      rw [List.length_set] at hl
      rw [get_set_eq hl] at h
      cases h
      exact .inl rfl
    · rw [get_set_ne e] at h
      rcases wipeE_get h with h | ⟨h1, h2⟩
      · exact .inl h
      · exact .inr ⟨by simp [e, h1], h2⟩
theorem wipe_out (σ : L2.St) : ∀ {vs : List Nat} {j : Nat}, j ∉ vs → (wipe σ vs)[j]? = σ[j]?
  | [], _, _ => rfl
  | v :: vs, j, h => by
    simp only [List.mem_cons, not_or] at h
    unfold wipe
    rw [get_set_ne h.1]
    exact wipe_out σ h.2
theorem wipe_in (σ : L2.St) : ∀ {vs : List Nat} {j : Nat}, j ∈ vs → j < σ.length → (wipe σ vs)[j]? = some none
  | [], _, h, _ => by cases h
  | v :: vs, j, h, hl => by
    unfold wipe
    by_cases e : j = v
    · subst e
      exact get_set_eq (by rw [wipe_length]; exact hl)
    · rw [get_set_ne e]
      exact wipe_in σ (by simpa [e] using h) hl
theorem wipe_eq {σ σ' : L2.St} {vs : List Nat} (hl : σ'.length = σ.length) (h : ∀ j, j ∉ vs → σ'[j]? = σ[j]?) : wipe σ' vs = wipe σ vs := by
  apply List.ext_getElem?
  intro j
  by_cases hj : j ∈ vs
  · by_cases hlt : j < σ.length
    · rw [wipe_in σ hj hlt, wipe_in σ' hj (by rw [hl]; exact hlt)]
    · rw [List.getElem?_eq_none (by rw [wipe_length, hl]; omega), List.getElem?_eq_none (by rw [wipe_length]; omega)]
  · rw [wipe_out σ hj, wipe_out σ' hj]
    exact h j hj
theorem Sim.wipe (S : Sim c F r σ H) (vs : List Nat) : Sim c F (wipeE r vs) (L2.wipe σ vs) H := by
  refine S.re (by rw [wipeE_len, wipe_length]; exact S.len) fun j s e => ?_
  rcases wipeE_get e with h | ⟨h1, h2⟩
  · exact .inr (.inl h)
  · exact .inl ⟨h2, wipe_out σ h1⟩
theorem unwipe_len (r0 r : Env) : ∀ vs : List Nat, (unwipe r0 r vs).length = r.length
  | [] => rfl
  | v :: vs => by unfold unwipe; rw [List.length_set, unwipe_len r0 r vs]
theorem unwipe_get {r0 r : Env} : ∀ {vs : List Nat} {j : Nat} {s : Sl}, (unwipe r0 r vs)[j]? = some s → (j ∈ vs ∧ s = r0.getD j .no) ∨ (j ∉ vs ∧ r[j]? = some s)
  | [], j, s, h => .inr ⟨by simp, h⟩
  | v :: vs, j, s, h => by
    unfold unwipe at h
    by_cases e : j = v
    · subst e
      have hl := lt_of_get h
      rw [List.length_set] at hl
      rw [get_set_eq hl] at h
      cases h
      exact .inl ⟨by simp, rfl⟩
    · rw [get_set_ne e] at h
      rcases unwipe_get h with ⟨h1, h2⟩ | ⟨h1, h2⟩
      · exact .inl ⟨by simp [h1], h2⟩
      · exact .inr ⟨by simp [e, h1], h2⟩
theorem wipeE_out (r : Env) : ∀ {vs : List Nat} {j : Nat}, j ∉ vs → (wipeE r vs)[j]? = r[j]?
  | [], _, _ => rfl
  | v :: vs, j, h => by
    simp only [List.mem_cons, not_or] at h
    unfold wipeE
    rw [get_set_ne h.1]
    exact wipeE_out r h.2
/-- the block is left -/
theorem Sim.unwipe {r0 : Env} {F0 : Addr → Prop} {H0 : Hp} {vs : List Nat} (S0 : Sim c F0 r0 σ H0) (st : Step F0 H0 F H) (hn : noOw r0 vs = true) (S : Sim c F (wipeE r vs) (L2.wipe σ vs) H) : Sim c F (unwipe r0 r vs) σ H := by
  have hlen : r.length = σ.length := by
    have := S.len
    rw [wipeE_len, wipe_length] at this
    exact this
  refine S.re (by rw [unwipe_len]; exact hlen) fun j s e => ?_
  rcases unwipe_get e with ⟨h1, h2⟩ | ⟨h1, h2⟩
  · have hj : j < r0.length := by
      have := lt_of_get e
      rw [unwipe_len, hlen, ← S0.len] at this
      exact this
    have q : r0[j]? = some s := by
      rw [h2, List.getD_eq_getElem?_getD, List.getElem?_eq_getElem hj]
      rfl
    have nq := List.all_eq_true.mp hn j h1
    rw [q] at nq
    have hs := S0.slot j s q
    cases s with
    | no => exact .inr (.inl rfl)
    | ow d => cases nq
    | sh d =>
      obtain ⟨v, h3, h4⟩ := hs
      exact .inr (.inr ⟨d, v, rfl, h3, Rep.step st _ _ h4⟩)
  · exact .inl ⟨by rw [wipeE_out r h1]; exact h2, (wipe_out σ h1).symm⟩
/-- a list apart, that stays as it is -/
def Ctx.with (c : Ctx) (a : Addr) (o : HO) : Ctx := { c with H0 := upd c.H0 a o }
structure Apart (c : Ctx) (F : Addr → Prop) (r : Env) (σ : L2.St) (a : Addr) : Prop where
  nF : ¬ F a
  h0 : c.H0 a = none
  np : a ≠ c.p
  nc : a ≠ c.c0
  own : ∀ (i : Nat) (e : D), r[i]? = some (.ow e) → σ[i]? ≠ some (some (.ref a))
theorem Sim.guard (S : Sim c F r σ H) {a : Addr} {o : HO} (A : Apart c F r σ a) (h : H a = some o) : Sim (c.with a o) F r σ H where
  len := S.len
  slot := fun i s e => by
    have q := S.slot i s e
    cases s with
    | no => trivial
    | sh d => exact q
    | ow d =>
      obtain ⟨b, q1, q2, q3, q4, q5⟩ := q
      refine ⟨b, q1, q2, q3, ?_, q5⟩
      show upd c.H0 a o b = none
      rw [upd_ne fun z => A.own i d e (by rw [← z]; exact q1)]
      exact q4
  sep := S.sep
  frame := fun b u e np => by
    by_cases z : b = a
    · subst z
      rw [show (c.with b o).H0 b = some o from upd_same] at e
      cases e
      exact ⟨_, h, .refl _, .inl rfl⟩
    · exact S.frame b u (by rw [← show (c.with a o).H0 b = c.H0 b from upd_ne z]; exact e) np
  fr0 := S.fr0
  fnew := fun b f => (S.fnew b f).imp id fun z => by
    show upd c.H0 a o b = none
    rw [upd_ne fun q => A.nF (by rw [← q]; exact f)]
    exact z
  ftrk := S.ftrk
  pen := S.pen
  npF := S.npF
theorem Sim.unguard {a : Addr} {o : HO} (S : Sim (c.with a o) F r σ H) (h0 : c.H0 a = none) (nf : ¬ c.F0 a) (np : a ≠ c.p) (nc : a ≠ c.c0) : Sim c F r σ H ∧ H a = some o ∧ Apart c F r σ a := by
  have hup : ∀ b, b ≠ a → (c.with a o).H0 b = c.H0 b := fun b z => upd_ne z
  have ha : (c.with a o).H0 a = some o := upd_same
  refine ⟨⟨S.len, fun i s e => ?_, S.sep, fun b u e q => S.frame b u ?_ q, S.fr0, fun b f => (S.fnew b f).imp id fun z => ?_, S.ftrk, S.pen, S.npF⟩, (by obtain ⟨o', h1, _, h3⟩ := S.frame a o ha np; exact h3.elim (fun z => by rw [h1, z]) fun z => absurd z nf), ⟨fun f => ?_, h0, np, nc, fun i e hi hs => ?_⟩⟩
  · have q := S.slot i s e
    cases s with
    | no => trivial
    | sh d => exact q
    | ow d =>
      obtain ⟨b, q1, q2, q3, q4, q5⟩ := q
      refine ⟨b, q1, q2, q3, ?_, q5⟩
      by_cases z : b = a
      · rw [z]; exact h0
      · rw [← hup b z]; exact q4
  · have z : b ≠ a := fun z => by rw [z, h0] at e; cases e
    rw [hup b z]; exact e
  · by_cases q : b = a
    · rw [q]; exact h0
    · rw [← hup b q]; exact z
  · rcases S.fnew a f with z | z
    · exact nf z
    · rw [ha] at z; cases z
  · obtain ⟨b, q1, q2, q3, q4, q5⟩ := S.slot i _ hi
    rw [hs] at q1; cases q1
    rw [ha] at q4; cases q4
/-- a list apart is changed -/
theorem Sim.updA (S : Sim c F r σ H) {a : Addr} {xs ys : List V} (A : Apart c F r σ a) (h : H a = some (.lst xs)) : Step F H F (upd H a (.lst ys)) ∧ Sim c F r σ (upd H a (.lst ys)) := by
  have st : Step F H F (upd H a (.lst ys)) := by
    refine ⟨fun _ h => h, fun b o f e => ?_, fun b zs e => ?_⟩
    · exact ⟨o, by rw [upd_ne fun z => A.nF (by rw [← z]; exact f)]; exact e, .refl o⟩
    · rw [upd_ne fun z => by rw [z, h] at e; cases e]; exact e
  refine ⟨st, S.len, fun i s e => ?_, S.sep, fun b o e np => ?_, S.fr0, S.fnew, fun b f => ?_, ?_, S.npF⟩
  · have q := S.slot i s e
    cases s with
    | no => trivial
    | sh d =>
      obtain ⟨v, q1, q2⟩ := q
      exact ⟨v, q1, Rep.step st _ _ q2⟩
    | ow d =>
      obtain ⟨b, q1, q2, q3⟩ := q
      exact ⟨b, q1, q2.step st fun o z => by rw [upd_ne fun z => A.own i d e (by rw [← z]; exact q1)]; exact z, q3⟩
  · rw [upd_ne fun z => by rw [z, A.h0] at e; cases e]
    exact S.frame b o e np
  · rw [upd_ne fun z => A.nF (by rw [← z]; exact f)]; exact S.ftrk b f
  · obtain ⟨cells, at_, s_, e1, e2, e3⟩ := S.pen
    exact ⟨cells, at_, s_, by rw [upd_ne (Ne.symm A.np)]; exact e1, by rw [upd_ne (Ne.symm A.nc)]; exact e2, e3⟩
end

/-! ### targets -/
def WR (sc : Scope) (wr : List Str) (X : Cx) : Prop := ∀ x ∈ wr, Loc sc x ∧ (X.fn x = true ∨ sc.names.lookup x = some .local)
def SemP (p : Pat) (g : TG) : Prop := ∀ (c : Ctx) (F : Addr → Prop) (r : Env) (σ : L2.St) (H : Hp) (d : D) (v : V) (r' : Env) (Q : L2.St → Hp → Prop), Sim c F r σ H → Rep c.p F H d v → bindP p d r = some r' →
  (∀ σ', Sim c F r' σ' H → (∀ j, j ∉ pslots p → σ'[j]? = σ[j]?) → σ'.length = σ.length → Q σ' H) → g v σ H Q
def SemPs (ps : List Pat) (g : TGs) : Prop := ∀ (c : Ctx) (F : Addr → Prop) (r : Env) (σ : L2.St) (H : Hp) (ds : List D) (vs : List V) (r' : Env) (Q : L2.St → Hp → Prop), Sim c F r σ H → Reps c.p F H ds vs → bindPs ps ds r = some r' →
  (∀ σ', Sim c F r' σ' H → (∀ j, j ∉ pslotss ps → σ'[j]? = σ[j]?) → σ'.length = σ.length → Q σ' H) → g vs σ H Q
section
variable {W : Wd} {sc : Scope} {wr : List Str}
theorem assign1 {e : Expr} {es : List Expr} {env : PySem.Env} (p : plainE e = true) : assignEach (e :: es) env = (false, assign e env) :: assignEach es env := by
  cases e <;> first
    | rfl
    | (cases p; done)
theorem chPats_len {N wr : List Str} : ∀ (ps : List Pat) (es : List Expr) (ds : List D) {r r' : Env}, chPats N wr ps es = true → bindPs ps ds r = some r' → ds.length = es.length
  | [], [], [], _, _, _, _ => rfl
  | [], [], _ :: _, _, _, _, h => by cases h
  | [], _ :: _, _, _, _, h, _ => by cases h
  | _ :: _, [], _, _, _, h, _ => by cases h
  | _ :: _, _ :: _, [], _, _, _, h => by cases h
  | p :: ps, e :: es, d :: ds, r, r', h, hb => by
    simp only [chPats, Bool.and_eq_true] at h
    unfold bindPs at hb
    split at hb
    · simp [chPats_len ps es ds h.2 hb]
    · cases hb
mutual
theorem sp_ok (G : GOK W) : ∀ (p : Pat) (e : Expr), chPat W.N wr p e = true → ∃ g, (∀ X, XOK W sc X → WR sc wr X → PG X e g) ∧ SemP p g
  | .nm i, e, h => by
    cases e <;> first | (cases h; done) | skip
    rename_i x pos
    simp only [chPat, Bool.and_eq_true, decide_eq_true_eq, List.contains_iff_mem] at h
    obtain ⟨h1, h2⟩ := h
    refine ⟨gName i, fun X O R => ?_, fun c F r σ H d v r' Q S hr hb hq => ?_⟩
    · obtain ⟨h3, h4⟩ := R x h2
      exact pg_name (by rw [O.N]; exact G.nd) (by rw [O.N]; exact h1) (by rw [O.sc]; exact h3) (by rw [O.sc]; exact h4)
    · unfold bindP at hb
      split at hb
      · rename_i hi
        cases hb
        have hs : i < σ.length := by rw [← S.len]; exact hi
        refine hq _ ?_ (fun j hj => get_set_ne (by simpa [pslots] using hj)) (by rw [List.length_set])
        refine S.re (by rw [List.length_set, List.length_set]; exact S.len) fun j s e => ?_
        by_cases hj : j = i
        · subst hj
          rw [get_set_eq hi] at e
          cases e
          exact .inr (.inr ⟨d, v, rfl, get_set_eq hs, hr⟩)
        · rw [get_set_ne hj] at e
          exact .inl ⟨e, get_set_ne hj⟩
      · cases hb
  | .tp ps, e, h => by
    cases e <;> first | (cases h; done) | skip
    rename_i es k pos
    obtain ⟨g, a1, a2, a3, a4⟩ := sps_ok G ps es h
    refine ⟨gTup W.K es.length g, fun X O R => by rw [← O.K]; exact pg_tup O.calm (a1 X O R) (a3 _) (a4 _), fun c F r σ H d v r' Q S hr hb hq => ?_⟩
    unfold bindP at hb
    split at hb
    · rename_i ds
      obtain ⟨a, xs, rfl, e, _, rr⟩ := hr
      have hl : ds.length = es.length := chPats_len ps es ds h hb
      exact ⟨a, xs, rfl, SqT.of e, by rw [rr.length, hl], a2 c F r σ H ds xs r' Q S rr hb hq⟩
    · cases hb
theorem sps_ok (G : GOK W) : ∀ (ps : List Pat) (es : List Expr), chPats W.N wr ps es = true → ∃ g, (∀ X, XOK W sc X → WR sc wr X → PGs X es g) ∧ SemPs ps g ∧ (∀ env, (assignEach es env).length = es.length) ∧ ∀ env, (assignEach es env).findIdx? (·.1) = none
  | [], es, h => by
    cases es with
    | cons e es => cases h
    | nil =>
      refine ⟨gNil, fun X O R => pgs_nil, fun c F r σ H ds vs r' Q S hr hb hq => ?_, fun _ => rfl, fun _ => rfl⟩
      cases ds with
      | nil =>
        cases hb
        cases hr
        exact ⟨rfl, hq σ S (fun _ _ => rfl) rfl⟩
      | cons d ds => cases hb
  | p :: ps, es, h => by
    cases es with
    | nil => cases h
    | cons e es =>
      simp only [chPats, Bool.and_eq_true] at h
      obtain ⟨⟨h1, h2⟩, h3⟩ := h
      obtain ⟨g, a1, a2⟩ := sp_ok G p e h2
      obtain ⟨gs, b1, b2, b3, b4⟩ := sps_ok G ps es h3
      refine ⟨gCons g gs, fun X O R => pgs_cons (a1 X O R) (b1 X O R) (by rw [assign1 h1]; rfl), fun c F r σ H ds vs r' Q S hr hb hq => ?_, fun env => by rw [assign1 h1, List.length_cons, b3, List.length_cons], fun env => ?_⟩
      · cases ds with
        | nil => cases hb
        | cons d ds =>
          obtain ⟨v, ws, rfl, r1, r2⟩ := hr
          unfold bindPs at hb
          split at hb
          · rename_i rm hm
            refine ⟨v, ws, rfl, a2 c F r σ H d v rm _ S r1 hm fun σ1 S1 k1 l1 => ?_⟩
            refine b2 c F rm σ1 H ds ws r' _ S1 r2 hb fun σ2 S2 k2 l2 => ?_
            refine hq σ2 S2 (fun j hj => ?_) (l2.trans l1)
            simp only [pslotss, List.mem_append, not_or] at hj
            rw [k2 j hj.2, k1 j hj.1]
          · cases hb
      · rw [assign1 h1, List.findIdx?_cons]
        simp [b4 env]
end
end
end Wa

/-! comprehensions; every expression -/
namespace Wa
open PySem PySem.Spec PyProof.Rows L2
variable [CM]

section
variable {W : Wd} {sc : Scope}
/-- within a comprehension nothing is raised -/
def Wd.nox (W : Wd) : Wd := { W with wx := fun _ _ _ _ => False }
theorem GOK.wx (G : GOK W) (w : WX) : GOK { W with wx := w } where
  b16 := G.b16
  cm := G.cm
  ex := G.ex
  xn := G.xn
  nw := G.nw
  nd := G.nd
  room := G.room
  b1 := G.b1
  b2 := G.b2
  b3 := G.b3
  b4 := G.b4
  b5 := G.b5
  b6 := G.b6
  b7 := G.b7
  b8 := G.b8
  b9 := G.b9
  b10 := G.b10
  b11 := G.b11
  b12 := G.b12
  b13 := G.b13
  b14 := G.b14
  b15 := G.b15
  ty := G.ty
  cs := G.cs
  fw := G.fw
  fn := G.fn
  take := G.take
  anew := G.anew
theorem GOK.nox (G : GOK W) : GOK W.nox := G.wx _
theorem blk_ok {X : Cx} (O : XOK W sc X) {scope : Scope} (s : Shared) (H : Hp) (C : Addr) (cl : List (Str × Addr)) (fp : List Addr) : XOK W.nox (relS scope sc) (X.blk s H scope (compEnvC scope cl C X.env) fp) :=
  ⟨by rw [← O.sc]; rfl, O.N, O.pr, O.w, O.K, O.mg, O.base, O.A, O.calm, L2.takes0⟩
theorem isLc_ok {x : Str} (h : isLc sc x = true) : sc.names.lookup x = some .local ∨ sc.names.lookup x = some .cell := by
  unfold isLc at h
  split at h
  · exact .inl (by assumption)
  · exact .inr (by assumption)
  · cases h
theorem blk_wr {X : Cx} (O : XOK W sc X) {scope : Scope} {own : List (Str × Nat)} (hw : (own.all fun q => isLc scope q.1) = true) (s : Shared) (H : Hp) (C : Addr) (cl : List (Str × Addr)) (fp : List Addr) :
    WR (relS scope sc) (own.map (·.1)) (X.blk s H scope (compEnvC scope cl C X.env) fp) := by
  intro x hx
  obtain ⟨q, hq, rfl⟩ := List.mem_map.mp hx
  rcases isLc_ok (List.all_eq_true.mp hw q hq) with h | h
  · have k : (relS scope sc).names.lookup q.1 = some .local := lookup_relS_keep (by decide) h
    exact ⟨.inl k, .inr k⟩
  · have k : (relS scope sc).names.lookup q.1 = some .cell := lookup_relS_keep (by decide) h
    exact ⟨.inr k, .inl (by show (scope.names.lookup q.1 == some .cell) = true; rw [h]; rfl)⟩
/-- a clause's tests -/
def STs (W : Wd) (sc : Scope) (ir : T) (ifs : List Expr) : Prop := ∃ t, (∀ X, XOK W sc X → PTs X ifs t) ∧ SemT W ir t
theorem sts_yes : STs W sc .yes [] := ⟨tYes, fun X O => pts_nil, fun {xp} c F r σ _ H Q Q' S h hq => by
  unfold evT at h
  exact hq _ _ _ _ h .refl S⟩
theorem sts_isYes {c : T} (h : isYes c = true) : STs W sc c [] := by
  cases c <;> first
    | exact sts_yes
    | cases h
theorem sts_one {ir : T} {e : Expr} (h : ST W sc ir e) : STs W sc ir [e] := by
  obtain ⟨t, a1, a2⟩ := h
  exact ⟨t, fun X O => pts_one (a1 X O).1, a2⟩
theorem lcL_step {body : D → Env → (Option D → Env → Prop) → Prop} {xs : List D} {i : Nat} {x : D} {r : Env} {acc : List D} {k : List D → Env → Prop} (hx : xs[i]? = some x) (h : lcL body (xs.drop i) r acc k) :
    body x r fun o r' => match o with
      | some y => lcL body (xs.drop (i + 1)) r' (acc ++ [y]) k
      | none => lcL body (xs.drop (i + 1)) r' acc k := by
  obtain ⟨hi, e⟩ := List.getElem?_eq_some_iff.mp hx
  rw [List.drop_eq_getElem_cons hi, e] at h
  unfold lcL at h
  exact h
theorem lc_all (G : GOK W) {own : List (Str × Nat)} {p : Pat} {it : I} {cn : T} {el : E} {elt tg iter : Expr} {ifs : List Expr} {scope : Scope} {pos : Pos} (hb : blkC W.N sc scope own = true) (hw : (own.all fun q => isLc scope q.1) = true)
    (hi : SI W sc it tg iter) (hp : chPat W.N (own.map (·.1)) p tg = true) (hps : ((pslots p).all fun i => (own.map (·.2)).contains i) = true) (ht : STs W.nox (relS scope sc) cn ifs) (he : SE W.nox (relS scope sc) el elt) :
    ∃ tl, (∀ X, XOK W sc X → PE X (.ListComp elt [⟨tg, iter, ifs, 0⟩] scope pos) tl) ∧ (∀ X, XOK W sc X → ∀ (i : Nat) (y : Str) (py spos : Pos), W.N[i]? = some y → sc.names.lookup y = some .local → swapsWith (.ListComp elt [⟨tg, iter, ifs, 0⟩] scope pos) (some (.Name y py)) spos.line X.env = pure true →
      PS X (.Assign [.Name y py] (.ListComp elt [⟨tg, iter, ifs, 0⟩] scope pos) spos) (tAsg tl (gName i))) ∧ SemE W (.lc own p it cn el) tl := by
  obtain ⟨wi, i1, i2⟩ := hi
  obtain ⟨g, g1, g2⟩ := sp_ok (W := W.nox) (sc := relS scope sc) G.nox p tg hp
  obtain ⟨tt, t1, t2⟩ := ht
  obtain ⟨te, e1, e2⟩ := he
  have pe : ∀ X, XOK W sc X → PE X (.ListComp elt [⟨tg, iter, ifs, 0⟩] scope pos) (tLc wi g tt te (own.map (·.2))) := fun X O =>
    pe_lc O.calm (by rw [O.N]; exact G.nd) (i1 X O).1 (blkOk_by (by rw [O.N, O.sc]; exact hb)) (fun s H C cl fp => g1 _ (blk_ok O s H C cl fp) (blk_wr O hw s H C cl fp)) (fun s H C cl fp => t1 _ (blk_ok O s H C cl fp)) (fun s H C cl fp => (e1 _ (blk_ok O s H C cl fp)).1) (i1 X O).2
  refine ⟨_, pe, fun X O i y py spos hy hyl hsw => ps_setLc O.calm (by rw [O.N]; exact G.nd) (by rw [O.N]; exact hy) (by rw [O.sc]; exact hyl) hsw (i1 X O).1 (blkOk_by (by rw [O.N, O.sc]; exact hb)) (fun s H C cl fp => g1 _ (blk_ok O s H C cl fp) (blk_wr O hw s H C cl fp)) (fun s H C cl fp => t1 _ (blk_ok O s H C cl fp)) (fun s H C cl fp => (e1 _ (blk_ok O s H C cl fp)).1) (i1 X O).2, fun {xp} c F rr σ _ H Q Q' S h hq => ?_⟩
  unfold evE at h
  refine i2 c F rr σ H _ _ S h fun items r1 F1 H1 J q1 st1 S1 wk => ?_
  obtain ⟨hno, q1⟩ := q1
  obtain ⟨hsz, Gw, Y, wlk, wg, wy⟩ := wk
  generalize hbody : (fun (x : D) (r2 : Env) (k : Option D → Env → Prop) => match bindP p x (wipeE r2 (own.map (·.2))) with
      | some r3 => evT W.cl X0 cn r3 fun b r4 => if b = true then evE W.cl X0 el r4 fun _ y r5 => k (some y) r5 else k none r4
      | none => False) = body at q1
  intro D hD
  have same1 := same_new (o := .lst []) hD
  -- the state at a turn
  refine lc_it wlk (fun i H2 => ∃ F2 r2 ys vs', lcL body (items.drop i) r2 ys (fun ys r6 => Q true (.lst ys) (unwipe r1 r6 (own.map (·.2)))) ∧ H2 D = some (.lst vs') ∧ Reps c.p F2 H2 ys vs' ∧ ys.length ≤ i ∧
    Step F1 H1 F2 H2 ∧ Sim c F2 (wipeE r2 (own.map (·.2))) (L2.wipe σ (own.map (·.2))) H2 ∧ Apart c F2 (wipeE r2 (own.map (·.2))) (L2.wipe σ (own.map (·.2))) D) ?_ ?_ ?_ ?_
  · have S1' := (S1.same same1).wipe (own.map (·.2))
    refine ⟨F1, r1, [], [], by rw [List.drop_zero]; exact q1, upd_same, rfl, Nat.le_refl _, Step.of_same same1, S1', ⟨S1.nF hD, S1.h0 hD, ?_, ?_, fun i e hi hs => ?_⟩⟩
    · intro z
      obtain ⟨_, _, _, e, _⟩ := S1.pen
      rw [← z, hD] at e; cases e
    · intro z
      obtain ⟨_, _, _, _, e, _⟩ := S1.pen
      rw [← z, hD] at e; cases e
    · obtain ⟨b, h1, h2, _⟩ := ((S1.wipe (own.map (·.2))).slot i _ hi)
      rw [hs] at h1; cases h1
      obtain ⟨_, _, _, h3⟩ := h2.there
      rw [hD] at h3; cases h3
  · intro i H2 hi hP
    obtain ⟨F2, r2, ys, vs', _, _, _, _, st, _, _⟩ := hP
    exact wg F2 H2 st
  · intro i x H2 H2' hi hP hy
    obtain ⟨F2, r2, ys, vs', hl, hDv, hR, hle, st2, S2, A2⟩ := hP
    have hget : items[i]? = some items[i] := List.getElem?_eq_getElem hi
    obtain ⟨sm, rx⟩ := wy F2 H2 i x H2' _ st2 hget hy
    have hl' := lcL_step hget hl
    have S2' := S2.same sm
    have hDv' := sm _ _ hDv
    have G2 := S2'.guard A2 hDv'
    rw [← hbody] at hl'
    simp only [] at hl'
    cases hbp : bindP p items[i] (wipeE r2 (own.map (·.2))) with
    | none => rw [hbp] at hl'; exact hl'.elim
    | some r3 =>
      rw [hbp] at hl'
      simp only [] at hl'
      refine g2 _ F2 _ _ H2' _ x r3 _ G2 rx hbp fun σ3 S3 k3 l3 => ?_
      have hwp : L2.wipe σ3 (own.map (·.2)) = L2.wipe σ (own.map (·.2)) := by
        refine wipe_eq (by rw [l3, wipe_length]) fun j hj => ?_
        rw [k3 j fun z => hj ?_, wipe_out σ hj]
        have := List.all_eq_true.mp hps j z
        simpa using this
      have hww : L2.wipe σ3 (own.map (·.2)) = L2.wipe (L2.wipe σ (own.map (·.2))) (own.map (·.2)) := by
        rw [hwp]
        refine (wipe_eq (by rw [wipe_length]) fun j hj => ?_).symm
        exact wipe_out σ hj
      refine ⟨hwp, ?_⟩
      refine t2 _ F2 r3 σ3 H2' _ _ S3 hl' fun b r4 F4 H4 q4 st4 S4 => ?_
      -- the end of a turn
      have fin : ∀ (r5 : Env) (F5 : Addr → Prop) (H5 : Hp), Step F2 H2' F5 H5 → Sim (c.with D (.lst vs')) F5 r5 σ3 H5 → Sim c F5 (wipeE r5 (own.map (·.2))) (L2.wipe σ (own.map (·.2))) H5 ∧ H5 D = some (.lst vs') ∧ Apart c F5 (wipeE r5 (own.map (·.2))) (L2.wipe σ (own.map (·.2))) D ∧ Reps c.p F5 H5 ys vs' ∧ Step F1 H1 F5 H5 := by
        intro r5 F5 H5 st5 S5
        have W5 := S5.wipe (own.map (·.2))
        rw [hwp] at W5
        obtain ⟨u1, u2, u3⟩ := W5.unguard A2.h0 (fun z => A2.nF (S2.fr0 D z)) A2.np A2.nc
        exact ⟨u1, u2, u3, Reps.step ((Step.of_same sm).trans st5) _ _ hR, (st2.trans (Step.of_same sm)).trans st5⟩
      cases b with
      | false =>
        rw [if_neg Bool.false_ne_true] at q4 ⊢
        rw [hbody] at q4
        obtain ⟨u1, u2, u3, u4, u5⟩ := fin r4 F4 H4 st4 S4
        exact ⟨F4, r4, ys, vs', q4, u2, u4, by omega, u5, u1, u3⟩
      | true =>
        rw [if_pos rfl] at q4 ⊢
        refine e2 _ F4 r4 σ3 H4 _ _ S4 q4 fun fl y r5 F5 H5 v q5 st5 S5 ok5 => ?_
        rw [hbody] at q5
        obtain ⟨F6, st6, S6, R6⟩ := S5.frz ok5
        obtain ⟨u1, u2, u3, u4, u5⟩ := fin r5 F6 H5 ((st4.trans st5).trans st6) S6
        obtain ⟨st7, S7⟩ := u1.updA (ys := vs' ++ [v]) u3 u2
        refine ⟨vs', u2, ?_, F6, r5, ys ++ [y], vs' ++ [v], q5, upd_same, Reps.step st7 _ _ (Reps.append u4 (Reps.one R6)), by rw [List.length_append]; simp; omega, u5.trans st7, S7, u3⟩
        rw [u4.length]
        have hz : ys.length < items.length := by omega
        omega
  · intro H2 hP
    obtain ⟨F2, r2, ys, vs', hl, hDv, hR, hle, st2, S2, A2⟩ := hP
    rw [List.drop_eq_nil_of_le (Nat.le_refl _)] at hl
    unfold lcL at hl
    have SU := Sim.unwipe S1 st2 hno S2
    refine hq _ _ _ _ _ _ hl (st1.trans st2) SU (.inl ⟨D, rfl, ⟨vs', hDv, ?_, hR⟩, A2.nF, A2.h0, A2.np, A2.nc, fun i e hi hs => ?_⟩)
    · omega
    · rcases unwipe_get hi with ⟨h1, h2⟩ | ⟨h1, h2⟩
      · have nq := List.all_eq_true.mp hno i h1
        rw [List.getD_eq_getElem?_getD] at h2
        cases z : r1[i]? with
        | none => rw [z] at h2; cases h2
        | some s =>
          rw [z] at h2 nq
          cases h2
          cases nq
      · exact A2.own i e (by rw [wipeE_out r2 h1]; exact h2) (by rw [wipe_out σ h1]; exact hs)
theorem se_lc (G : GOK W) {own : List (Str × Nat)} {p : Pat} {it : I} {cn : T} {el : E} {elt tg iter : Expr} {ifs : List Expr} {scope : Scope} {pos : Pos} (hb : blkC W.N sc scope own = true) (hw : (own.all fun q => isLc scope q.1) = true)
    (hi : SI W sc it tg iter) (hp : chPat W.N (own.map (·.1)) p tg = true) (hps : ((pslots p).all fun i => (own.map (·.2)).contains i) = true) (ht : STs W.nox (relS scope sc) cn ifs) (he : SE W.nox (relS scope sc) el elt) :
    SE W sc (.lc own p it cn el) (.ListComp elt [⟨tg, iter, ifs, 0⟩] scope pos) := by
  obtain ⟨tl, h1, _, h2⟩ := lc_all G hb hw hi hp hps ht he (pos := pos)
  exact ⟨tl, fun X O => ⟨h1 X O, fun _ => ptv (h1 X O) rfl⟩, h2⟩
end
end Wa

set_option maxHeartbeats 4000000
/-! exceptions as values: of what class one is, its number; the first place of a thing -/
namespace Wa
open PySem PySem.Spec PyProof.Rows L2
variable [CM]

theorem ExF.cls {K : PySem.W.Frag} {D : Addr} (F : ExF K D) : (PySem.W.clsIn K D).isSome = true := by
  obtain ⟨cd, e, _⟩ := PySem.W.any_some F.hd
  rw [e]; rfl
/-- the object at a, as an instance -/
theorem xo_inst {P : Program} {w : World} {H : Hp} {h : Heap} {a D : Addr} {d : Option Addr} (ok : HOk P w H h) (e : H a = some (XO (.ref D) d a)) (hd : ∀ dx, d = some dx → ∃ fs, H dx = some (.xd fs)) :
    ∃ oe od, PySem.W.InstAt h a oe D od ∧ (∀ dx, d = some dx → ∃ o, od = some o ∧ h.get? dx = some o) := by
  obtain ⟨⟨oe, vs, e1, ⟨e2, e3⟩, e4⟩, _⟩ := (show ObjOk P w H h a (.ext _) from ok a _ e)
  cases d with
  | none => exact ⟨oe, none, ⟨e1, e2, by unfold PySem.W.notCls; rw [e4] <;> rfl, by rw [e3]; trivial⟩, fun _ z => by cases z⟩
  | some dx =>
    obtain ⟨fs, q⟩ := hd dx rfl
    obtain ⟨mA, ⟨o, _, _, eo, _⟩, _⟩ := (show ObjOk P w H h dx (.xd fs) from ok dx _ q)
    exact ⟨oe, some o, ⟨e1, e2, by unfold PySem.W.notCls; rw [e4] <;> rfl, by rw [e3]; exact eo⟩, fun _ z => by cases z; exact ⟨o, rfl, eo⟩⟩
/-- isinstance(e, c) -/
def rXi (K : PySem.W.Frag) : List V → Hp → VK → Prop := fun xs H Q => ∃ (a D : Addr) (d : Option Addr) (c : V) (u : Value) (b : Bool), xs = [.ref a, c] ∧ H a = some (XO (.ref D) d a) ∧ (∀ dx, d = some dx → ∃ fs, H dx = some (.xd fs)) ∧ ExF K D ∧ ClsV c u ∧ PySem.W.kitOne K (.ref D) u = some b ∧ Q (.bl b) H
theorem call_xi {X : Cx} : CallR X (.builtin "isinstance") (rXi X.K) := by
  intro pins s σ H xs us Q I r h
  obtain ⟨a, D, d, c, u, b, rfl, ea, hd, F, k, e, q⟩ := h
  obtain ⟨u1, u2, rfl, r1, r2⟩ := vals2 r
  cases (show u1 = Value.ref a from r1)
  have e2 := k.eq r2
  subst e2
  obtain ⟨oe, od, J, _⟩ := xo_inst I.hok ea hd
  exact PySem.W.kia_one (PySem.W.kitx_exc F.cls F.ga F.gg F.bs F.ca F.cg F.ct F.mo) I.kIn J e (fun z => nomatch z) fun tk => ⟨.bl b, H, I.tok tk, rfl, q⟩
/-- .. or of None -/
def rXi2 (K : PySem.W.Frag) : List V → Hp → VK → Prop := fun xs H Q => rXi K xs H Q ∨ ∃ (c : V) (u : Value) (b : Bool), xs = [.non, c] ∧ ClsV c u ∧ PySem.W.kitOne K (.type "NoneType") u = some b ∧ Q (.bl b) H
theorem call_xi2 {X : Cx} : CallR X (.builtin "isinstance") (rXi2 X.K) := by
  intro pins s σ H xs us Q I r h
  rcases h with h | ⟨c, u, b, rfl, k, e, q⟩
  · exact call_xi pins s σ H xs us Q I r h
  · obtain ⟨u1, u2, rfl, r1, r2⟩ := vals2 r
    cases (show u1 = Value.none from r1)
    have e2 := k.eq r2
    subst e2
    exact PySem.W.kia_one PySem.W.kitx_none I.kIn trivial e (fun z => nomatch z) fun tk => ⟨.bl b, H, I.tok tk, rfl, q⟩
/-- e.number -/
def tXn (K : PySem.W.Frag) (te : TE) : TE := fun σ H Q => te σ H fun x H1 => ∃ (a D dx : Addr) (i : Int), x = .ref a ∧ H1 a = some (XO (.ref D) (some dx) a) ∧ H1 dx = some (.xd [(("number" : Str), .int i)]) ∧ ExF K D ∧ Q (.int i) H1
theorem pe_xn {X : Cx} {e : Expr} {te : TE} {pos : Pos} (he : PE X e te) (hb : attributeBase e "number" X.env (eval e X.env) = eval e X.env) : PE X (.Attribute e "number" pos) (tXn X.K te) := by
  refine ⟨fun pins s σ H Q I h => ?_⟩
  refine attr_of hb (thn (he.run pins s σ H _ I h) fun u s1 ⟨x, H1, I1, rx, a, D, dx, i, ex, ea, ed, F, q⟩ => ?_)
  subst ex
  cases (show u = Value.ref a from rx)
  obtain ⟨oe, od, J, hod⟩ := xo_inst I1.hok ea fun dx' z => by cases z; exact ⟨_, ed⟩
  obtain ⟨o, rfl, ho⟩ := hod dx rfl
  obtain ⟨mA, hns, hr⟩ := (show ObjOk X.prog X.w H1 s1.heap dx (.xd _) from I1.hok dx _ ed)
  obtain ⟨od', ho', hl⟩ := lookIn_ns hns
  have eo := ho.symm.trans ho'
  cases eo
  obtain ⟨u, hu, ru⟩ := RelO.some_of (v := V.int i) (o := mA "number") (by have z := hr "number"; exact z)
  exact HandSPX.exc_get I1.kIn J F.ga F.gg F.bs (PySem.W.findObj_own F.hd F.nn rfl (by rw [hl, hu])) (handed_of ru) ⟨_, H1, I1.tok _, ru, q⟩
section
variable {W : Wd} {sc : Scope}
theorem xo_rep {p : Addr} {F : Addr → Prop} {H : Hp} {cn : Str} {n : Option Int} {v : V} (h : Rep p F H (.exc cn n) v) : ∃ a cls d, v = .ref a ∧ H a = some (XO cls d a) ∧ CM.mg cn = some cls ∧ (∀ dx, d = some dx → ∃ fs, H dx = some (.xd fs)) ∧ ∀ i, n = some i → ∃ dx, d = some dx ∧ H dx = some (.xd [(("number" : Str), .int i)]) := by
  obtain ⟨a, cls, d, e1, _, e2, e3, k⟩ := h
  refine ⟨a, cls, d, e1, e2, e3, fun dx z => ?_, fun i z => ?_⟩
  · cases n with
    | none => rw [(show d = none from k)] at z; cases z
    | some i =>
      obtain ⟨dx', q1, _, q2⟩ := k
      rw [q1] at z
      cases z
      exact ⟨_, q2⟩
  · subst z
    obtain ⟨dx', q1, _, q2⟩ := k
    exact ⟨dx', q1, q2⟩
theorem se_exi (G : GOK W) {cn : Str} {o : O} {x : Expr} {f k : Str} {q q2 pos : Pos} (h1 : f = ("isinstance" : Str)) (h2 : isGl sc f = true) (h3 : isGl sc k = true) (h4 : cn = k) (h5 : (decide (k ∈ W.G.ex) || decide (k = ("ValueError" : Str))) = true) (h6 : okNm k = true) (h7 : plainE x = true) (ho : SO W sc o x) :
    SE W sc (.exi cn o) (.Call (.Name f q) [x, .Name k q2] [] pos) := by
  subst h1 h4
  obtain ⟨ta, a1, a2⟩ := ho
  obtain ⟨g1, g2, g3⟩ := okNm_ok h6
  have key : ∃ (c : V) (u : Value), (∀ X, XOK W sc X → PE X (.Name cn q2) (tC c)) ∧ ClsV c u ∧ (∀ (xn : Str) (v : Value), CM.mg xn = some v → ∃ C, v = .ref C ∧ ExF W.K C ∧ PySem.W.kitOne W.K (.ref C) u = some (exIs xn cn)) ∧ (cn ≠ "ValueError" → PySem.W.kitOne W.K (.type "NoneType") u = some false) := by
    rw [Bool.or_eq_true] at h5
    rcases h5 with h5 | h5
    · have h5 := of_decide_eq_true h5
      obtain ⟨v, hv⟩ := G.ex cn h5
      obtain ⟨C', rfl, m', _⟩ := G.cm cn v hv
      refine ⟨.ref C', .ref C', fun X O => pe_glob (isGl_ok O h3) (by rw [O.mg]; exact m') rfl g1, .own C', fun xn v hx => ?_, fun _ => G.xn cn h5 C' m'⟩
      obtain ⟨C, e, _, F, kk, _, _⟩ := G.cm xn v hx
      obtain ⟨C2, e2, k2⟩ := kk cn h5
      rw [m'] at e2
      cases e2
      exact ⟨C, e, F, k2⟩
    · have h5 := of_decide_eq_true h5
      subst h5
      refine ⟨.ty "ValueError", .type "ValueError", fun X O => pe_bltn (isGl_ok O h3) (by rw [O.mg]; exact G.b16) PyProof.Rows.Boot.«ValueError» rfl g3 g1, .ty _, fun xn v hx => ?_, fun z => absurd rfl z⟩
      obtain ⟨C, e, _, F, _, kv, _⟩ := G.cm xn v hx
      refine ⟨C, e, F, ?_⟩
      rw [kv]
      unfold exIs
      simp
  obtain ⟨c0, u, pc, kc, kk, kn⟩ := key
  have pe : ∀ X, XOK W sc X → PE X (.Call (.Name ("isinstance" : Str) q) [x, .Name cn q2] [] pos) (tCB (rXi2 W.K) (tCons ta (tCons (tC c0) tNil))) := fun X O =>
    pe_callB (by rw [← O.K]; exact call_xi2) (isGl_ok O h2) (by rw [O.mg]; exact G.b10) boot_isinstance (pa_cons (a1 X O) (pa_cons (pc X O) pa_nil (star1 rfl)) (star1 h7)) (by decide +kernel) (by decide +kernel) (star1 h7) (star_any (by rfl))
  refine ⟨_, fun X O => ⟨pe X O, fun _ => ptv (pe X O) rfl⟩, fun {xp} c F rr σ _ H Q Q' S h hq => ?_⟩
  unfold evE at h
  refine a2 c F rr σ H _ _ S h fun x r1 F1 H1 v q1 st1 S1 ok1 => ?_
  obtain ⟨ds, fl, d, k1, k2, k3⟩ := op_end (vs := [v]) st1 S1 q1 ⟨v, [], rfl, ok1, rfl⟩ hq
  obtain ⟨d1, rfl, t1⟩ := tops_inv1 k2
  replace k1 : pExi cn [d1] = some (fl, d) := k1
  unfold pExi at k1
  split at k1
  · rename_i xn n e
    cases e
    cases k1
    obtain ⟨a, cls, dd, rfl, ea, em, hd, _⟩ := xo_rep (show Rep c.p F1 H1 (.exc xn n) v from t1)
    obtain ⟨C, rfl, FF, kt⟩ := kk xn cls em
    exact .inl ⟨a, C, dd, c0, u, _, rfl, ea, hd, FF, kc, kt, k3 _ _ (Same.refl _) rfl⟩
  · rename_i e
    cases e
    split at k1
    · cases k1
    · rename_i hne
      cases k1
      cases (show v = .non from t1)
      exact .inr ⟨c0, u, _, rfl, kc, kn hne, k3 _ _ (Same.refl _) rfl⟩
  · cases k1
theorem isNS_att {x : Expr} (h : isNS x = true) (m : Str) (env : PySem.Env) (y : Sem Value) : attributeBase x m env y = y := by
  cases x <;> first
    | exact absurd h Bool.false_ne_true
    | rfl
theorem se_exn (G : GOK W) {o : O} {x : Expr} {m : Str} {pos : Pos} (h1 : m = ("number" : Str)) (h2 : isNS x = true) (ho : SO W sc o x) : SE W sc (.exn o) (.Attribute x m pos) := by
  subst h1
  obtain ⟨ta, a1, a2⟩ := ho
  have pe : ∀ X, XOK W sc X → PE X (.Attribute x "number" pos) (tXn W.K ta) := fun X O => by
    rw [← O.K]
    exact pe_xn (a1 X O) (isNS_att h2 _ _ _)
  refine ⟨_, fun X O => ⟨pe X O, fun _ => ptv (pe X O) rfl⟩, fun {xp} c F rr σ _ H Q Q' S h hq => ?_⟩
  unfold evE at h
  refine a2 c F rr σ H _ _ S h fun x r1 F1 H1 v q1 st1 S1 ok1 => ?_
  obtain ⟨ds, fl, d, k1, k2, k3⟩ := op_end (vs := [v]) st1 S1 q1 ⟨v, [], rfl, ok1, rfl⟩ hq
  obtain ⟨d1, rfl, t1⟩ := tops_inv1 k2
  replace k1 : pExn [d1] = some (fl, d) := k1
  unfold pExn at k1
  split at k1
  · rename_i xn i e
    cases e
    cases k1
    obtain ⟨a, cls, dd, rfl, ea, em, _, hn⟩ := xo_rep (show Rep c.p F1 H1 (.exc xn (some i)) v from t1)
    obtain ⟨dx, rfl, ed⟩ := hn i rfl
    obtain ⟨C, rfl, _, FF, _⟩ := G.cm xn cls em
    exact ⟨a, C, dx, i, rfl, ea, ed, FF, k3 _ _ (Same.refl _) rfl⟩
  · cases k1
theorem idx_ok {p : Addr} {F : Addr → Prop} {H : Hp} {d : D} {v : V} (f : flatD d = true) (r : Rep p F H d v) : ∀ {ds : List D} {vs : List V} {i : Nat}, ds.all flatD = true → Reps p F H ds vs → idxD d ds = some i →
    ∃ z, vs[i]? = some z ∧ eqV z v = true ∧ ∀ (m : Nat) (z' : V), m < i → vs[m]? = some z' → eqV z' v = false
  | [], _, _, _, _, e => by cases e
  | x :: ds, _, i, g, h, e => by
    obtain ⟨w, vs, rfl, a, b⟩ := h
    rw [List.all_cons, Bool.and_eq_true] at g
    have hw := eqV_of g.1 f a r
    unfold idxD at e
    split at e
    · rename_i hx
      cases e
      exact ⟨w, rfl, by rw [hw]; exact hx, fun m _ hm => absurd hm (Nat.not_lt_zero m)⟩
    · rename_i hx
      cases e2 : idxD d ds with
      | none => rw [e2] at e; cases e
      | some j =>
        rw [e2] at e
        cases e
        obtain ⟨z, h1, h2, h3⟩ := idx_ok f r g.2 b e2
        refine ⟨z, by simpa using h1, h2, fun m z' hm hz => ?_⟩
        cases m with
        | zero =>
          cases hz
          rw [hw]
          exact Bool.eq_false_iff.mpr hx
        | succ m => exact h3 m z' (Nat.lt_of_succ_lt_succ hm) (by simpa using hz)
theorem se_idx (G : GOK W) {a b : O} {z : Str} {y : Expr} {m : Str} {q p2 p3 : Pos} (h1 : m = ("index" : Str)) (h2 : plainE y = true) (h3 : (p2.endLine == p3.line) = true) (ha : SO W sc a (.Name z q)) (hb : SO W sc b y) : SE W sc (.idx a b) (.Call (.Attribute (.Name z q) m p2) [y] [] p3) := by
  obtain ⟨ta, a1, a2⟩ := ha
  obtain ⟨tb, b1, b2⟩ := hb
  subst h1
  have pe : ∀ X, XOK W sc X → PE X (.Call (.Attribute (.Name z q) "index" p2) [y] [] p3) (tBM W.K "list" (rIndex W.K) ta (tCons tb tNil)) := fun X O => by
    rw [← O.K]
    exact pe_bm PySem.F.plainAttrs_list PySem.F.slot_list_index PySem.F.type_list_index mt_index (a1 X O) (pa_cons (b1 X O) pa_nil (star1 h2)) rfl (by rw [star1 h2]; rfl) h3 (star1 h2) rfl
  refine ⟨_, fun X O => ⟨pe X O, fun _ => ptv (pe X O) rfl⟩, fun {xp} c F rr σ _ H Q Q' S h hq => ?_⟩
  unfold evE at h
  refine a2 c F rr σ H _ _ S h fun tk r1 F1 H1 v q1 st1 S1 ok1 => ?_
  obtain ⟨hl, q1⟩ := q1
  cases ht : tokD r1 tk with
  | none => rw [ht] at hl; cases hl
  | some d0 =>
    rw [ht] at hl
    have T0 := S1.tok ok1 ht
    cases d0 <;> first
      | (cases hl; done)
      | skip
    rename_i ds0
    obtain ⟨a0, xs0, rfl, e0, _, _⟩ := top_lst T0
    refine ⟨tyV_list e0, ?_⟩
    refine b2 c F1 r1 σ H1 _ _ S1 q1 fun y r2 F2 H2 u q2 st2 S2 ok2 => ?_
    obtain ⟨ds, fl, d, k1, k2, k3⟩ := op_end (vs := [.ref a0, u]) (st1.trans st2) S2 q2 ⟨_, [u], rfl, ok1.step st2, u, [], rfl, ok2, rfl⟩ hq
    obtain ⟨d1, d2, rfl, t1, t2⟩ := tops_inv2 k2
    replace k1 : pIdx [d1, d2] = some (fl, d) := k1
    unfold pIdx at k1
    split at k1
    · rename_i xs y' e
      cases e
      split at k1
      · rename_i hf
        rw [Bool.and_eq_true] at hf
        cases hi : idxD d2 xs with
        | none => rw [hi] at k1; cases k1
        | some i =>
          rw [hi] at k1
          cases k1
          obtain ⟨a, vs, e1, ea, la, ra⟩ := top_lst t1
          cases e1
          have r2 := top_flat hf.1 t2
          obtain ⟨zz, g1, g2, g3⟩ := idx_ok hf.1 r2 hf.2 ra hi
          exact ⟨a0, vs, u, i, zz, rfl, rfl, SqL.of ea, flat_of hf.1 r2, flats_of hf.2 ra, g1, g2, g3, k3 _ _ (Same.refl _) rfl⟩
      · cases k1
    · cases k1
end
/-! ### exceptions made as values -/
section
variable {X : Cx} {pins : List (Addr × Obj)} {σ : L2.St} {H : Hp} {s : Shared}
/-- what is made to be raised may as well be kept -/
theorem pe_mk {e : Expr} {t : L2.St → Hp → XK → Prop} (h : PMk X e t) : PE X e (fun σ H Q => t σ H fun cls d H' => ∀ a, H' a = none → Q (.ref a) (upd H' a (XO cls d a))) := by
  refine ⟨fun pins s σ H Q I ht => wpAny_mono (h pins s σ H _ I ht) (fun u s1 hu => ?_) fun _ _ z => z⟩
  obtain ⟨a, oe, vs, sI, H', cls, d, rfl, J, k, hne, ha, hz, hd, h1, na, os, ag, _, q⟩ := hu
  have new : ObjOk X.prog X.w (upd H' a (XO cls d a)) s1.heap a (XO cls d a) := ⟨⟨oe, vs, ha, hz, hd⟩, ⟨oe, ha⟩, fun h1 h2 ⟨o1, v1, q1, q2⟩ k => ⟨o1, v1, k _ q1, q2⟩⟩
  have J2 := J.laidN (t' := s1.toks) k hne na new
  refine ⟨.ref a, upd H' a (XO cls d a), ?_, rfl, q a na⟩
  exact ⟨J2.ok, by rw [os]; exact J2.os, ag, J2.base, J2.loc, J2.cell, J2.free, J2.freeC, J2.pin, J2.hok, J2.len⟩
end
section
variable {W : Wd} {sc : Scope}
theorem se_xnew0 (G : GOK W) {ir : E} {cn : Str} {e : Expr} {p1 pos : Pos} (hn : cn ≠ "NoWish") (hx : cn ∈ W.G.ex) (hg : isGl sc cn = true) (ho : okNm cn = true) (hp : plainE e = true) (he : SE W sc ir e) : SE W sc (.xnew0 cn ir) (.Call (.Name cn p1) [e] [] pos) := by
  obtain ⟨v, hv⟩ := G.ex cn hx
  obtain ⟨C, rfl, mC, F, _, _, _, ex, kC, tC⟩ := G.cm cn v hv
  obtain ⟨te, a1, a2⟩ := he
  have pe : ∀ X, XOK W sc X → PE X (.Call (.Name cn p1) [e] [] pos) _ := fun X O => pe_mk (SkE.pmk_own1 PySem.F.excBase_ValueError (by rw [O.K]; exact ex hn) (by rw [O.mg]; exact mC) (by rw [O.K]; exact kC) (raises_own (by rw [O.K]; exact F.bs) (by rw [O.K]; exact tC)) (isGl_ok O hg) (a1 X O).1 (star1 hp) (okNm_ok ho).1)
  refine ⟨_, fun X O => ⟨pe X O, fun _ => ptv (pe X O) rfl⟩, fun {xp} c F rr σ _ H Q Q' S h hq => ?_⟩
  unfold evE at h
  refine a2 c F rr σ H _ _ S h fun fl d r1 F1 H1 v q1 st1 S1 res => ?_
  intro a ha
  have S2 := S1.same (same_new (o := XO (.ref C) none a) ha)
  have S3 := S2.addF (a := a) ⟨_, upd_same⟩ (S1.h0 ha) (fun z => by
    obtain ⟨_, _, _, e1, _⟩ := S1.pen
    rw [← z, ha] at e1
    cases e1) (fun z => by
    obtain ⟨_, _, _, _, e1, _⟩ := S1.pen
    rw [← z, ha] at e1
    cases e1) fun k e hk hs => by
      obtain ⟨b, q1, q2, _⟩ := S1.slot k _ hk
      rw [hs] at q1
      cases q1
      obtain ⟨_, _, _, z⟩ := q2.there
      rw [ha] at z
      cases z
  exact hq _ _ _ _ _ _ q1 ((st1.trans (Step.of_same (same_new ha))).trans step_addF) S3 ⟨a, .ref C, none, rfl, .inr rfl, upd_same, hv, rfl⟩
theorem se_xnew1 (G : GOK W) {ir : E} {cn : Str} {e : Expr} {p1 pos : Pos} (hn : cn = "NoWish") (hx : cn ∈ W.G.ex) (hg : isGl sc cn = true) (hp : plainE e = true) (he : SE W sc ir e) : SE W sc (.xnew1 ir) (.Call (.Name cn p1) [e] [] pos) := by
  subst hn
  obtain ⟨v, hv⟩ := G.ex _ hx
  obtain ⟨C0, rfl, mC, F, _, _, _, _, _, _⟩ := G.cm _ v hv
  obtain ⟨C, fI, fd, e0, T, iC, tI, F1, b1⟩ := G.nw _ hv
  cases e0
  obtain ⟨te, a1, a2⟩ := he
  have pe : ∀ X, XOK W sc X → PE X (.Call (.Name "NoWish" p1) [e] [] pos) _ := fun X O => by
    have F1' : FnOk X.prog X.w X.K X.mg X.base (L2.CX X.prog X.w) 1 fI fd ["self", "number"] (spNw W.K "number") := by rw [O.pr, O.w, O.K, O.mg, O.base]; exact F1
    exact pe_mk (pmk_oex (e := e) (es := []) (by rw [O.K]; exact T) (by rw [O.K]; exact iC) (by rw [O.K]; exact tI) F1' (by rw [O.A]; exact G.room.mono (by omega)) (by rw [O.K]; exact b1) .nil (fun _ _ _ _ _ _ _ h => by
      obtain ⟨_, _, _, _, _, _, _, _, _, _, _, _, z⟩ := h
      exact z.elim) (isGl_ok O hg) (by rw [O.mg]; exact mC) (pa_cons (a1 X O).1 pa_nil (star1 hp)) (by decide) (star1 hp) (star_any (by rfl)))
  refine ⟨_, fun X O => ⟨pe X O, fun _ => ptv (pe X O) rfl⟩, fun {xp} c F rr σ _ H Q Q' S h hq => ?_⟩
  unfold evE at h
  refine a2 c F rr σ H _ _ S h fun fl d r1 F1 H1 v1 q1 st1 S1 res => ?_
  split at q1
  · rename_i i
    cases res_int res
    refine ⟨(show 1 ≤ 1000 by decide), fun a ha => ?_⟩
    refine ⟨a, C0, .int i, rfl, T, ‹ExF W.K C0›.nn, upd_same, fun dx hd hne => ⟨rfl, dx, [(("number" : Str), .int i)], upd_same, by rw [upd_ne hne, upd_same], ?_, ?_⟩⟩
    · rw [upd_ne hne] at hd
      exact hd
    · have hd1 : H1 dx = none := by rw [upd_ne hne] at hd; exact hd
      have eH : upd (del (upd (upd (upd H1 a (exo a C0 none)) dx (exd dx [(("number" : Str), .int i)])) a (exo a C0 (some dx))) a) dx (.xd [(("number" : Str), .int i)]) = upd H1 dx (.xd [(("number" : Str), .int i)]) := by
        funext b
        by_cases hb : b = dx
        · rw [hb, upd_same, upd_same]
        · rw [upd_ne hb, upd_ne hb]
          by_cases hba : b = a
          · rw [hba, del_same, ha]
          · rw [del_ne hba, upd_ne hba, upd_ne hb, upd_ne hba]
      rw [eH]
      intro x hx2
      have add : ∀ {F : Addr → Prop} {H : Hp} {r : Env} (S : Sim c F r σ H) {b : Addr} {o : HO} (_ : H b = none), Sim c (Wa.addF F b) r σ (upd H b o) := fun {F H r} S {b o} hb => by
        refine (S.same (same_new hb)).addF (a := b) ⟨_, upd_same⟩ (S.h0 hb) (fun z => ?_) (fun z => ?_) fun k e hk hs => ?_
        · obtain ⟨_, _, _, e1, _⟩ := S.pen
          rw [← z, hb] at e1
          cases e1
        · obtain ⟨_, _, _, _, e1, _⟩ := S.pen
          rw [← z, hb] at e1
          cases e1
        · obtain ⟨b', q1, q2, _⟩ := S.slot k _ hk
          rw [hs] at q1
          cases q1
          obtain ⟨_, _, _, z⟩ := q2.there
          rw [hb] at z
          cases z
      have S2 := add S1 (o := .xd [(("number" : Str), V.int i)]) hd1
      have S3 := add S2 (o := XO (.ref C0) (some dx) x) hx2
      have st2 : Step F1 H1 (Wa.addF (Wa.addF F1 dx) x) (upd (upd H1 dx (.xd [(("number" : Str), V.int i)])) x (XO (.ref C0) (some dx) x)) :=
        (((Step.of_same (same_new hd1)).trans step_addF).trans (Step.of_same (same_new hx2))).trans step_addF
      have hxd : dx ≠ x := fun z => by rw [← z, upd_same] at hx2; cases hx2
      exact hq _ _ _ _ _ _ q1 (st1.trans st2) S3 ⟨x, .ref C0, some dx, rfl, .inr rfl, upd_same, hv, dx, rfl, .inl (.inr rfl), by rw [upd_ne hxd]; exact upd_same⟩
  · exact q1.elim
end
end Wa

set_option maxHeartbeats 4000000
/-! every expression that the look lets by -/
namespace Wa
open PySem PySem.Spec PyProof.Rows L2
variable [CM]

theorem an {a b : Bool} (h : (a && b) = true) : a = true ∧ b = true := by
  cases a <;> cases b <;> first | exact ⟨rfl, rfl⟩ | cases h
section
mutual
theorem sndE : ∀ (ir : E) (W : Wd) (G : GOK W) (sc : Scope) (e : Expr), chE W.G W.N sc ir e = true → SE W sc ir e
  | .var i, W, G, sc, e, h => by
    cases e <;> first | (exact absurd h Bool.false_ne_true) | skip
    rename_i x pos
    first | replace h := an h | skip
    try simp only [Bool.and_eq_true, decide_eq_true_eq, Bool.not_eq_true'] at h
    exact se_var h.1.1 h.1.2 h.2
  | .cst d, W, G, sc, e, h => by
    cases e <;> first | (exact absurd h Bool.false_ne_true) | skip
    rename_i k j pos
    exact se_cst h
  | .glb x i, W, G, sc, e, h => by
    cases e <;> first | (exact absurd h Bool.false_ne_true) | skip
    rename_i y pos
    first | replace h := an h | skip
    try simp only [Bool.and_eq_true, decide_eq_true_eq, Bool.not_eq_true'] at h
    obtain ⟨⟨⟨rfl, h2⟩, h3⟩, h4⟩ := h
    exact se_glb G h2 h3 h4
  | .bi p os, W, G, sc, e, h => by
    cases e <;> first | (exact absurd h Bool.false_ne_true) | skip
    rename_i fn args kws pos
    cases fn <;> first | (exact absurd h Bool.false_ne_true) | skip
    rename_i f q
    cases args <;> first | (exact absurd h Bool.false_ne_true) | skip
    rename_i a es
    cases kws <;> first | (exact absurd h Bool.false_ne_true) | skip
    first | replace h := an h | skip
    try simp only [Bool.and_eq_true, decide_eq_true_eq, Bool.not_eq_true'] at h
    obtain ⟨⟨h1, h2⟩, h3⟩ := h
    exact se_bi G h1 h2 (sndOs os W G sc _ h3)
  | .bop p a b, W, G, sc, e, h => by
    cases e <;> first | (exact absurd h Bool.false_ne_true) | skip
    rename_i x op y pos
    first | replace h := an h | skip
    try simp only [Bool.and_eq_true, decide_eq_true_eq, Bool.not_eq_true'] at h
    exact se_bop h.1.1 (sndO a W G sc _ h.1.2) (sndO b W G sc _ h.2)
  | .cmp p a b, W, G, sc, e, h => by
    cases e <;> first | (exact absurd h Bool.false_ne_true) | skip
    rename_i x ops ys pos
    cases ops <;> first | (exact absurd h Bool.false_ne_true) | skip
    rename_i op ops
    cases ops <;> first | (exact absurd h Bool.false_ne_true) | skip
    cases ys <;> first | (exact absurd h Bool.false_ne_true) | skip
    rename_i y ys
    cases ys <;> first | (exact absurd h Bool.false_ne_true) | skip
    first | replace h := an h | skip
    try simp only [Bool.and_eq_true, decide_eq_true_eq, Bool.not_eq_true'] at h
    exact se_cmp G h.1.1.1 h.1.1.2 (sndO a W G sc _ h.1.2) (sndO b W G sc _ h.2)
  | .una p a, W, G, sc, e, h => by
    cases e <;> first | (exact absurd h Bool.false_ne_true) | skip
    rename_i op x pos
    first | replace h := an h | skip
    try simp only [Bool.and_eq_true, decide_eq_true_eq, Bool.not_eq_true'] at h
    obtain ⟨h1, h2⟩ := h
    cases p <;> first | (exact absurd h1 Bool.false_ne_true) | skip
    cases op <;> first | (exact absurd h1 Bool.false_ne_true) | skip
    exact se_una (sndO a W G sc _ h2)
  | .ixx a b, W, G, sc, e, h => by
    cases e <;> first | (exact absurd h Bool.false_ne_true) | skip
    rename_i x y pos
    first | replace h := an h | skip
    try simp only [Bool.and_eq_true, decide_eq_true_eq, Bool.not_eq_true'] at h
    exact se_ixx h.1.1 (sndO a W G sc _ h.1.2) (sndO b W G sc _ h.2)
  | .sla a b, W, G, sc, e, h => by
    cases e <;> first | (exact absurd h Bool.false_ne_true) | skip
    rename_i x y pos
    cases y <;> first | (exact absurd h Bool.false_ne_true) | skip
    rename_i lo hi stp p2
    cases lo <;> first | (exact absurd h Bool.false_ne_true) | skip
    cases hi <;> first | (exact absurd h Bool.false_ne_true) | skip
    cases stp <;> first | (exact absurd h Bool.false_ne_true) | skip
    first | replace h := an h | skip
    try simp only [Bool.and_eq_true, decide_eq_true_eq, Bool.not_eq_true'] at h
    exact se_sla (sndO a W G sc _ h.1) (sndE b W G sc _ h.2)
  | .slb a b, W, G, sc, e, h => by
    cases e <;> first | (exact absurd h Bool.false_ne_true) | skip
    rename_i x y pos
    cases y <;> first | (exact absurd h Bool.false_ne_true) | skip
    rename_i lo hi stp p2
    cases lo <;> first | (exact absurd h Bool.false_ne_true) | skip
    cases hi <;> first | (exact absurd h Bool.false_ne_true) | skip
    cases stp <;> first | (exact absurd h Bool.false_ne_true) | skip
    first | replace h := an h | skip
    try simp only [Bool.and_eq_true, decide_eq_true_eq, Bool.not_eq_true'] at h
    exact se_slb (sndO a W G sc _ h.1) (sndE b W G sc _ h.2)
  | .slab a b c, W, G, sc, e, h => by
    cases e <;> first | (exact absurd h Bool.false_ne_true) | skip
    rename_i x y pos
    cases y <;> first | (exact absurd h Bool.false_ne_true) | skip
    rename_i lo hi stp p2
    cases lo <;> first | (exact absurd h Bool.false_ne_true) | skip
    cases hi <;> first | (exact absurd h Bool.false_ne_true) | skip
    cases stp <;> first | (exact absurd h Bool.false_ne_true) | skip
    first | replace h := an h | skip
    try simp only [Bool.and_eq_true, decide_eq_true_eq, Bool.not_eq_true'] at h
    exact se_slab (sndO a W G sc _ h.1.1) (sndE b W G sc _ h.1.2) (sndE c W G sc _ h.2)
  | .tupd os, W, G, sc, e, h => by
    cases e <;> first | (exact absurd h Bool.false_ne_true) | skip
    rename_i es k pos
    first | replace h := an h | skip
    try simp only [Bool.and_eq_true, decide_eq_true_eq, Bool.not_eq_true'] at h
    exact se_tupd (sndOs os W G sc _ h)
  | .lstd os, W, G, sc, e, h => by
    cases e <;> first | (exact absurd h Bool.false_ne_true) | skip
    rename_i es pos
    first | replace h := an h | skip
    try simp only [Bool.and_eq_true, decide_eq_true_eq, Bool.not_eq_true'] at h
    exact se_lstd (sndOs os W G sc _ h)
  | .isi t a, W, G, sc, e, h => by
    cases e <;> first | (exact absurd h Bool.false_ne_true) | skip
    rename_i fn args kws pos
    cases fn <;> first | (exact absurd h Bool.false_ne_true) | skip
    rename_i f q
    cases args <;> first | (exact absurd h Bool.false_ne_true) | skip
    rename_i x es
    cases es <;> first | (exact absurd h Bool.false_ne_true) | skip
    rename_i ty es
    cases ty <;> first | (exact absurd h Bool.false_ne_true) | skip
    rename_i ty q2
    cases es <;> first | (exact absurd h Bool.false_ne_true) | skip
    cases kws <;> first | (exact absurd h Bool.false_ne_true) | skip
    first | replace h := an h | skip
    try simp only [Bool.and_eq_true, decide_eq_true_eq, Bool.not_eq_true'] at h
    obtain ⟨⟨⟨⟨⟨h1, h2⟩, h3⟩, h4⟩, h5⟩, h6⟩ := h
    exact se_isi G h1 h2 h3 h4 h5 (sndO a W G sc _ h6)
  | .chn p q a b c, W, G, sc, e, h => by
    cases e <;> first | (exact absurd h Bool.false_ne_true) | skip
    rename_i x ops ys pos
    cases ops <;> first | (exact absurd h Bool.false_ne_true) | skip
    rename_i o1 ops
    cases ops <;> first | (exact absurd h Bool.false_ne_true) | skip
    rename_i o2 ops
    cases ops <;> first | (exact absurd h Bool.false_ne_true) | skip
    cases ys <;> first | (exact absurd h Bool.false_ne_true) | skip
    rename_i y ys
    cases ys <;> first | (exact absurd h Bool.false_ne_true) | skip
    rename_i z ys
    cases ys <;> first | (exact absurd h Bool.false_ne_true) | skip
    first | replace h := an h | skip
    try simp only [Bool.and_eq_true, decide_eq_true_eq, Bool.not_eq_true'] at h
    obtain ⟨⟨⟨⟨⟨h1, h2⟩, h3⟩, h4⟩, h5⟩, h6⟩ := h
    exact se_chn G h1 h2 (sndO a W G sc _ h4) (sndO b W G sc _ h5) (sndE c W G sc _ h6) h3
  | .pur x, W, G, sc, e, h => se_pur (sndE x W G sc e (an (a := notLC e) h).2)
  | .dls kvs, W, G, sc, e, h => by
    cases e <;> first | (exact absurd h Bool.false_ne_true) | skip
    rename_i ks vs pos
    first | replace h := an h | skip
    try simp only [Bool.and_eq_true, decide_eq_true_eq, Bool.not_eq_true'] at h
    exact se_dls h.1.1 (fun z => by rw [z] at h; exact absurd h.1.2 (Nat.lt_irrefl 0)) h.2
  | .mov i, W, G, sc, e, h => by
    cases e <;> first | (exact absurd h Bool.false_ne_true) | skip
    rename_i x pos
    first | replace h := an h | skip
    try simp only [Bool.and_eq_true, decide_eq_true_eq, Bool.not_eq_true'] at h
    exact se_mov h.1.1 h.1.2 h.2
  | .tupp s el, W, G, sc, e, h => by
    cases e <;> first | (exact absurd h Bool.false_ne_true) | skip
    rename_i es k pos
    cases es <;> first | (exact absurd h Bool.false_ne_true) | skip
    rename_i c es
    cases c <;> first | (exact absurd h Bool.false_ne_true) | skip
    rename_i c j p1
    cases c <;> first | (exact absurd h Bool.false_ne_true) | skip
    cases es <;> first | (exact absurd h Bool.false_ne_true) | skip
    rename_i x es
    cases es <;> first | (exact absurd h Bool.false_ne_true) | skip
    first | replace h := an h | skip
    try simp only [Bool.and_eq_true, decide_eq_true_eq, Bool.not_eq_true'] at h
    obtain ⟨⟨h1, h2⟩, h3⟩ := h
    subst h1
    exact se_tupp h2 (sndE el W G sc _ h3)
  | .fw s t n q, W, G, sc, e, h => by
    cases e <;> first | (exact absurd h Bool.false_ne_true) | skip
    rename_i f args kws pos
    cases f <;> first | (exact absurd h Bool.false_ne_true) | skip
    rename_i g p0
    cases args <;> first | (exact absurd h Bool.false_ne_true) | skip
    rename_i x args
    cases x <;> first | (exact absurd h Bool.false_ne_true) | skip
    rename_i x p1
    cases args <;> first | (exact absurd h Bool.false_ne_true) | skip
    rename_i y args
    cases y <;> first | (exact absurd h Bool.false_ne_true) | skip
    rename_i y p2
    cases args <;> first | (exact absurd h Bool.false_ne_true) | skip
    rename_i z args
    cases args <;> first | (exact absurd h Bool.false_ne_true) | skip
    rename_i u args
    cases u <;> first | (exact absurd h Bool.false_ne_true) | skip
    rename_i u p3
    cases args <;> first | (exact absurd h Bool.false_ne_true) | skip
    cases kws <;> first | (exact absurd h Bool.false_ne_true) | skip
    first | replace h := an h | skip
    try simp only [Bool.and_eq_true, decide_eq_true_eq, Bool.not_eq_true'] at h
    obtain ⟨⟨⟨⟨⟨⟨⟨⟨⟨⟨⟨⟨⟨h0, h1⟩, h2⟩, s1⟩, s2⟩, s3⟩, t1⟩, t2⟩, t3⟩, u1⟩, u2⟩, u3⟩, h4⟩, h5⟩ := h
    cases hU : W.G.U "find_worth" with
    | none => rw [hU] at h0; cases h0
    | some fn =>
      rw [hU] at h0
      simp only [Bool.and_eq_true, decide_eq_true_eq] at h0
      exact se_fw G hU h0.1 h0.2 h1 h2 s1 s2 s3 t1 t2 t3 u1 u2 u3 h4 (sndE n W G sc _ h5)
  | .xnew0 c el, W, G, sc, e, h => by
    cases e <;> first | (exact absurd h Bool.false_ne_true) | skip
    rename_i fn args kws pos
    cases fn <;> first | (exact absurd h Bool.false_ne_true) | skip
    rename_i k q
    cases args <;> first | (exact absurd h Bool.false_ne_true) | skip
    rename_i x es
    cases es <;> first | (exact absurd h Bool.false_ne_true) | skip
    cases kws <;> first | (exact absurd h Bool.false_ne_true) | skip
    first | replace h := an h | skip
    try simp only [Bool.and_eq_true, decide_eq_true_eq, Bool.not_eq_true'] at h
    obtain ⟨⟨⟨⟨⟨⟨h0, h1⟩, h2⟩, h3⟩, h4⟩, h5⟩, h6⟩ := h
    subst h0
    exact se_xnew0 G h1 h2 h3 h4 h5 (sndE el W G sc _ h6)
  | .xnew1 el, W, G, sc, e, h => by
    cases e <;> first | (exact absurd h Bool.false_ne_true) | skip
    rename_i fn args kws pos
    cases fn <;> first | (exact absurd h Bool.false_ne_true) | skip
    rename_i k q
    cases args <;> first | (exact absurd h Bool.false_ne_true) | skip
    rename_i x es
    cases es <;> first | (exact absurd h Bool.false_ne_true) | skip
    cases kws <;> first | (exact absurd h Bool.false_ne_true) | skip
    first | replace h := an h | skip
    try simp only [Bool.and_eq_true, decide_eq_true_eq, Bool.not_eq_true'] at h
    obtain ⟨⟨⟨⟨h0, h1⟩, h2⟩, h3⟩, h4⟩ := h
    exact se_xnew1 G h0 h1 h2 h3 (sndE el W G sc _ h4)
  | .tupm a j cc, W, G, sc, e, h => by
    cases e <;> first | (exact absurd h Bool.false_ne_true) | skip
    rename_i es k pos
    cases es <;> first | (exact absurd h Bool.false_ne_true) | skip
    rename_i x es
    cases es <;> first | (exact absurd h Bool.false_ne_true) | skip
    rename_i n es
    cases n <;> first | (exact absurd h Bool.false_ne_true) | skip
    rename_i z px
    cases es <;> first | (exact absurd h Bool.false_ne_true) | skip
    rename_i y es
    cases es <;> first | (exact absurd h Bool.false_ne_true) | skip
    first | replace h := an h | skip
    try simp only [Bool.and_eq_true, decide_eq_true_eq, Bool.not_eq_true'] at h
    obtain ⟨⟨⟨⟨⟨⟨h1, h2⟩, h3⟩, h4⟩, h5⟩, h6⟩, h7⟩ := h
    exact se_tupm h1 h2 h3 h4 h5 (sndE a W G sc _ h6) (sndE cc W G sc _ h7)
  | .calln f a el, W, G, sc, e, h => by
    cases e <;> first | (exact absurd h Bool.false_ne_true) | skip
    rename_i fn args kws pos
    cases fn <;> first | (exact absurd h Bool.false_ne_true) | skip
    rename_i g q
    cases args <;> first | (exact absurd h Bool.false_ne_true) | skip
    rename_i x es
    cases es <;> first | (exact absurd h Bool.false_ne_true) | skip
    rename_i y es
    cases es <;> first | (exact absurd h Bool.false_ne_true) | skip
    cases kws <;> first | (exact absurd h Bool.false_ne_true) | skip
    first | replace h := an h | skip
    try simp only [Bool.and_eq_true, decide_eq_true_eq, Bool.not_eq_true'] at h
    obtain ⟨⟨⟨⟨⟨⟨⟨h0, h1⟩, h2⟩, h3⟩, h4⟩, h5⟩, h6⟩, h7⟩ := h
    cases hU : W.G.U f with
    | none => rw [hU] at h1; cases h1
    | some fn =>
      rw [hU] at h1
      exact se_calln G h0 hU (of_decide_eq_true h1) h2 h3 h4 h5 (sndE a W G sc _ h6) (sndE el W G sc _ h7)
  | .dzip a b, W, G, sc, e, h => by
    cases e <;> first | (exact absurd h Bool.false_ne_true) | skip
    rename_i fn args kws pos
    cases fn <;> first | (exact absurd h Bool.false_ne_true) | skip
    rename_i f q
    cases args <;> first | (exact absurd h Bool.false_ne_true) | skip
    rename_i c es
    cases c <;> first | (exact absurd h Bool.false_ne_true) | skip
    rename_i fn2 args2 kws2 pos2
    cases fn2 <;> first | (exact absurd h Bool.false_ne_true) | skip
    rename_i g q2
    cases args2 <;> first | (exact absurd h Bool.false_ne_true) | skip
    rename_i x es2
    cases es2 <;> first | (exact absurd h Bool.false_ne_true) | skip
    rename_i y es2
    cases es2 <;> first | (exact absurd h Bool.false_ne_true) | skip
    cases kws2 <;> first | (exact absurd h Bool.false_ne_true) | skip
    cases es <;> first | (exact absurd h Bool.false_ne_true) | skip
    cases kws <;> first | (exact absurd h Bool.false_ne_true) | skip
    first | replace h := an h | skip
    try simp only [Bool.and_eq_true, decide_eq_true_eq, Bool.not_eq_true'] at h
    obtain ⟨⟨⟨⟨⟨⟨⟨h1, h2⟩, h3⟩, h4⟩, h5⟩, h6⟩, h7⟩, h8⟩ := h
    exact se_dzip G h1 h2 h3 h4 h5 h6 (sndO a W G sc _ h7) (sndO b W G sc _ h8)
  | .call f os, W, G, sc, e, h => by
    cases e <;> first | (exact absurd h Bool.false_ne_true) | skip
    rename_i fn args kws pos
    cases fn <;> first | (exact absurd h Bool.false_ne_true) | skip
    rename_i g q
    cases kws <;> first | (exact absurd h Bool.false_ne_true) | skip
    first | replace h := an h | skip
    try simp only [Bool.and_eq_true, decide_eq_true_eq, Bool.not_eq_true'] at h
    obtain ⟨⟨⟨⟨⟨h0, h1⟩, h2⟩, h3⟩, h4⟩, h5⟩ := h
    cases args with
    | nil => cases h4
    | cons a es =>
      cases hU : W.G.U f with
      | none => rw [hU] at h1; cases h1
      | some fn =>
        rw [hU] at h1
        exact se_fn G h0 hU (of_decide_eq_true h1) h2 h3 (sndOs os W G sc _ h5)
  | .draw o n, W, G, sc, e, h => by
    cases e <;> first | (exact absurd h Bool.false_ne_true) | skip
    rename_i fn args kws pos
    cases fn <;> first | (exact absurd h Bool.false_ne_true) | skip
    rename_i f q
    cases args <;> first | (exact absurd h Bool.false_ne_true) | skip
    rename_i x es
    cases es <;> first | (exact absurd h Bool.false_ne_true) | skip
    rename_i y es
    cases es <;> first | (exact absurd h Bool.false_ne_true) | skip
    cases kws <;> first | (exact absurd h Bool.false_ne_true) | skip
    first | replace h := an h | skip
    try simp only [Bool.and_eq_true, decide_eq_true_eq, Bool.not_eq_true'] at h
    obtain ⟨⟨⟨⟨⟨h1, h2⟩, h3⟩, h4⟩, h5⟩, h6⟩ := h
    exact se_draw G h1 h2 h3 h4 (sndE o W G sc _ h5) (sndE n W G sc _ h6)
  | .anew o, W, G, sc, e, h => by
    cases e <;> first | (exact absurd h Bool.false_ne_true) | skip
    rename_i fn args kws pos
    cases fn <;> first | (exact absurd h Bool.false_ne_true) | skip
    rename_i f q
    cases args <;> first | (exact absurd h Bool.false_ne_true) | skip
    rename_i x es
    cases es <;> first | (exact absurd h Bool.false_ne_true) | skip
    cases kws <;> first | (exact absurd h Bool.false_ne_true) | skip
    first | replace h := an h | skip
    try simp only [Bool.and_eq_true, decide_eq_true_eq, Bool.not_eq_true'] at h
    obtain ⟨⟨⟨h1, h2⟩, h3⟩, h4⟩ := h
    exact se_anew G h1 h2 h3 (sndE o W G sc _ h4)
  | .and a b, W, G, sc, e, h => by
    cases e <;> first | (exact absurd h Bool.false_ne_true) | skip
    rename_i op vs pos
    cases op <;> first | (exact absurd h Bool.false_ne_true) | skip
    cases vs <;> first | (exact absurd h Bool.false_ne_true) | skip
    rename_i x vs
    cases vs <;> first | (exact absurd h Bool.false_ne_true) | skip
    rename_i y vs
    cases vs with
    | nil =>
      first | replace h := an h | skip
      try simp only [Bool.and_eq_true, decide_eq_true_eq, Bool.not_eq_true'] at h
      exact se_and2 (sndE a W G sc _ h.1) (sndE b W G sc _ h.2)
    | cons z r =>
      first | replace h := an h | skip
      try simp only [Bool.and_eq_true, decide_eq_true_eq, Bool.not_eq_true'] at h
      exact se_and3 (sndE a W G sc _ h.1) (sndE b W G sc _ h.2)
  | .or a b, W, G, sc, e, h => by
    cases e <;> first | (exact absurd h Bool.false_ne_true) | skip
    rename_i op vs pos
    cases op <;> first | (exact absurd h Bool.false_ne_true) | skip
    cases vs <;> first | (exact absurd h Bool.false_ne_true) | skip
    rename_i x vs
    cases vs <;> first | (exact absurd h Bool.false_ne_true) | skip
    rename_i y vs
    cases vs with
    | nil =>
      first | replace h := an h | skip
      try simp only [Bool.and_eq_true, decide_eq_true_eq, Bool.not_eq_true'] at h
      exact se_or2 (sndE a W G sc _ h.1) (sndE b W G sc _ h.2)
    | cons z r =>
      first | replace h := an h | skip
      try simp only [Bool.and_eq_true, decide_eq_true_eq, Bool.not_eq_true'] at h
      exact se_or3 (sndE a W G sc _ h.1) (sndE b W G sc _ h.2)
  | .sset b o, W, G, sc, e, h => by
    cases e <;> first | (exact absurd h Bool.false_ne_true) | skip
    rename_i fn args kws pos
    cases fn <;> first | (exact absurd h Bool.false_ne_true) | skip
    rename_i f q
    cases args <;> first | (exact absurd h Bool.false_ne_true) | skip
    rename_i c es
    cases c <;> first | (exact absurd h Bool.false_ne_true) | skip
    rename_i fn2 args2 kws2 pos2
    cases fn2 <;> first | (exact absurd h Bool.false_ne_true) | skip
    rename_i g q2
    cases args2 <;> first | (exact absurd h Bool.false_ne_true) | skip
    rename_i x es2
    cases es2 <;> first | (exact absurd h Bool.false_ne_true) | skip
    cases kws2 <;> first | (exact absurd h Bool.false_ne_true) | skip
    cases es <;> first | (exact absurd h Bool.false_ne_true) | skip
    cases kws <;> first | (exact absurd h Bool.false_ne_true) | skip
    first | replace h := an h | skip
    try simp only [Bool.and_eq_true, decide_eq_true_eq, Bool.not_eq_true'] at h
    obtain ⟨⟨⟨⟨⟨h1, h2⟩, h3⟩, h4⟩, h5⟩, h6⟩ := h
    exact se_sset G h1 h2 h3 h4 h5 (sndO o W G sc _ h6)
  | .revx o, W, G, sc, e, h => by
    cases e <;> first | (exact absurd h Bool.false_ne_true) | skip
    rename_i x y pos
    cases y <;> first | (exact absurd h Bool.false_ne_true) | skip
    rename_i lo hi stp p2
    cases lo <;> first | (exact absurd h Bool.false_ne_true) | skip
    cases hi <;> first | (exact absurd h Bool.false_ne_true) | skip
    cases stp <;> first | (exact absurd h Bool.false_ne_true) | skip
    rename_i st
    cases st <;> first | (exact absurd h Bool.false_ne_true) | skip
    rename_i op z p3
    cases op <;> first | (exact absurd h Bool.false_ne_true) | skip
    cases z <;> first | (exact absurd h Bool.false_ne_true) | skip
    rename_i c j p4
    cases c <;> first | (exact absurd h Bool.false_ne_true) | skip
    rename_i k
    first | replace h := an h | skip
    try simp only [Bool.and_eq_true, decide_eq_true_eq, Bool.not_eq_true'] at h
    obtain ⟨rfl, h2⟩ := h
    exact se_revx (sndO o W G sc _ h2)
  | .not a, W, G, sc, e, h => by
    cases e <;> first | (exact absurd h Bool.false_ne_true) | skip
    rename_i op x pos
    cases op <;> first | (exact absurd h Bool.false_ne_true) | skip
    first | replace h := an h | skip
    try simp only [Bool.and_eq_true, decide_eq_true_eq, Bool.not_eq_true'] at h
    exact se_not (sndE a W G sc _ h)
  | .ife t a b, W, G, sc, e, h => by
    cases e <;> first | (exact absurd h Bool.false_ne_true) | skip
    rename_i c x y pos
    first | replace h := an h | skip
    try simp only [Bool.and_eq_true, decide_eq_true_eq, Bool.not_eq_true'] at h
    exact se_ife (sndT t W G sc _ h.1.1) (sndE a W G sc _ h.1.2) (sndE b W G sc _ h.2)
  | .lc own p it c el, W, G, sc, e, h => by
    cases e <;> first | (exact absurd h Bool.false_ne_true) | skip
    rename_i elt gens scope pos
    cases gens <;> first | (exact absurd h Bool.false_ne_true) | skip
    rename_i gen gens
    obtain ⟨tg, iter, ifs, asy⟩ := gen
    cases gens <;> first | (exact absurd h Bool.false_ne_true) | skip
    first | replace h := an h | skip
    try simp only [Bool.and_eq_true, decide_eq_true_eq, Bool.not_eq_true'] at h
    obtain ⟨⟨⟨⟨⟨⟨⟨rfl, h1⟩, h2⟩, h3⟩, h4⟩, h5⟩, h6⟩, h7⟩ := h
    refine se_lc G h1 h2 (sndI it W G sc tg iter h3) h4 h5 ?_ (sndE el W.nox G.nox _ _ h7)
    cases ifs with
    | nil => exact sts_isYes h6
    | cons t ts =>
      cases ts with
      | nil => exact sts_one (sndT c W.nox G.nox _ _ h6)
      | cons u us => exact absurd h6 Bool.false_ne_true
  | .rg1 tp a, W, G, sc, e, h => by
    cases e <;> first | (exact absurd h Bool.false_ne_true) | skip
    rename_i fn args kws pos
    cases fn <;> first | (exact absurd h Bool.false_ne_true) | skip
    rename_i f q
    cases args <;> first | (exact absurd h Bool.false_ne_true) | skip
    rename_i c es
    cases c <;> first | (exact absurd h Bool.false_ne_true) | skip
    rename_i fn2 args2 kws2 pos2
    cases fn2 <;> first | (exact absurd h Bool.false_ne_true) | skip
    rename_i g q2
    cases args2 <;> first | (exact absurd h Bool.false_ne_true) | skip
    rename_i x es2
    cases es2 <;> first | (exact absurd h Bool.false_ne_true) | skip
    cases kws2 <;> first | (exact absurd h Bool.false_ne_true) | skip
    cases es <;> first | (exact absurd h Bool.false_ne_true) | skip
    cases kws <;> first | (exact absurd h Bool.false_ne_true) | skip
    first | replace h := an h | skip
    try simp only [Bool.and_eq_true, decide_eq_true_eq, Bool.not_eq_true'] at h
    obtain ⟨⟨⟨⟨⟨h1, h2⟩, h3⟩, h4⟩, h5⟩, h6⟩ := h
    exact se_rg1 G h1 h2 h3 h4 h5 (sndE a W G sc _ h6)
  | .rg2 tp a b, W, G, sc, e, h => by
    cases e <;> first | (exact absurd h Bool.false_ne_true) | skip
    rename_i fn args kws pos
    cases fn <;> first | (exact absurd h Bool.false_ne_true) | skip
    rename_i f q
    cases args <;> first | (exact absurd h Bool.false_ne_true) | skip
    rename_i c es
    cases c <;> first | (exact absurd h Bool.false_ne_true) | skip
    rename_i fn2 args2 kws2 pos2
    cases fn2 <;> first | (exact absurd h Bool.false_ne_true) | skip
    rename_i g q2
    cases args2 <;> first | (exact absurd h Bool.false_ne_true) | skip
    rename_i x es2
    cases es2 <;> first | (exact absurd h Bool.false_ne_true) | skip
    rename_i y es2
    cases es2 <;> first | (exact absurd h Bool.false_ne_true) | skip
    cases kws2 <;> first | (exact absurd h Bool.false_ne_true) | skip
    cases es <;> first | (exact absurd h Bool.false_ne_true) | skip
    cases kws <;> first | (exact absurd h Bool.false_ne_true) | skip
    first | replace h := an h | skip
    try simp only [Bool.and_eq_true, decide_eq_true_eq, Bool.not_eq_true'] at h
    obtain ⟨⟨⟨⟨⟨⟨⟨h1, h2⟩, h3⟩, h4⟩, h5⟩, h6⟩, h7⟩, h8⟩ := h
    exact se_rg2 G h1 h2 h3 h4 h5 h6 (sndE a W G sc _ h7) (sndE b W G sc _ h8)
  | .cnt a b, W, G, sc, e, h => by
    cases e <;> first | (exact absurd h Bool.false_ne_true) | skip
    rename_i fn args kws p3
    cases fn <;> first | (exact absurd h Bool.false_ne_true) | skip
    rename_i o m p2
    cases o <;> first | (exact absurd h Bool.false_ne_true) | skip
    rename_i z q
    cases args <;> first | (exact absurd h Bool.false_ne_true) | skip
    rename_i y es
    cases es <;> first | (exact absurd h Bool.false_ne_true) | skip
    cases kws <;> first | (exact absurd h Bool.false_ne_true) | skip
    first | replace h := an h | skip
    try simp only [Bool.and_eq_true, decide_eq_true_eq, Bool.not_eq_true'] at h
    obtain ⟨⟨⟨⟨h1, h2⟩, h3⟩, h4⟩, h5⟩ := h
    exact se_cnt G h1 h2 h3 (sndO a W G sc _ h4) (sndO b W G sc _ h5)
  | .exi c o, W, G, sc, e, h => by
    cases e <;> first | (exact absurd h Bool.false_ne_true) | skip
    rename_i fn args kws pos
    cases fn <;> first | (exact absurd h Bool.false_ne_true) | skip
    rename_i f q
    cases args <;> first | (exact absurd h Bool.false_ne_true) | skip
    rename_i x es
    cases es <;> first | (exact absurd h Bool.false_ne_true) | skip
    rename_i k es
    cases k <;> first | (exact absurd h Bool.false_ne_true) | skip
    rename_i k q2
    cases es <;> first | (exact absurd h Bool.false_ne_true) | skip
    cases kws <;> first | (exact absurd h Bool.false_ne_true) | skip
    first | replace h := an h | skip
    try simp only [Bool.and_eq_true, decide_eq_true_eq, Bool.not_eq_true'] at h
    obtain ⟨⟨⟨⟨⟨⟨⟨h1, h2⟩, h3⟩, h4⟩, h5⟩, h6⟩, h7⟩, h8⟩ := h
    exact se_exi G h1 h2 h3 h4 h5 h6 h7 (sndO o W G sc _ h8)
  | .exn o, W, G, sc, e, h => by
    cases e <;> first | (exact absurd h Bool.false_ne_true) | skip
    rename_i x m pos
    first | replace h := an h | skip
    try simp only [Bool.and_eq_true, decide_eq_true_eq, Bool.not_eq_true'] at h
    exact se_exn G h.1.1 h.1.2 (sndO o W G sc _ h.2)
  | .idx a b, W, G, sc, e, h => by
    cases e <;> first | (exact absurd h Bool.false_ne_true) | skip
    rename_i fn args kws p3
    cases fn <;> first | (exact absurd h Bool.false_ne_true) | skip
    rename_i o m p2
    cases o <;> first | (exact absurd h Bool.false_ne_true) | skip
    rename_i z q
    cases args <;> first | (exact absurd h Bool.false_ne_true) | skip
    rename_i y es
    cases es <;> first | (exact absurd h Bool.false_ne_true) | skip
    cases kws <;> first | (exact absurd h Bool.false_ne_true) | skip
    first | replace h := an h | skip
    try simp only [Bool.and_eq_true, decide_eq_true_eq, Bool.not_eq_true'] at h
    obtain ⟨⟨⟨⟨h1, h2⟩, h3⟩, h4⟩, h5⟩ := h
    exact se_idx G h1 h2 h3 (sndO a W G sc _ h4) (sndO b W G sc _ h5)
  | .pop i, W, G, sc, e, h => by
    cases e <;> first | (exact absurd h Bool.false_ne_true) | skip
    rename_i fn args kws p3
    cases fn <;> first | (exact absurd h Bool.false_ne_true) | skip
    rename_i o m p2
    cases o <;> first | (exact absurd h Bool.false_ne_true) | skip
    rename_i z q
    cases args <;> first | (exact absurd h Bool.false_ne_true) | skip
    cases kws <;> first | (exact absurd h Bool.false_ne_true) | skip
    first | replace h := an h | skip
    try simp only [Bool.and_eq_true, decide_eq_true_eq, Bool.not_eq_true'] at h
    obtain ⟨⟨⟨⟨h1, h2⟩, h3⟩, h4⟩, h5⟩ := h
    exact se_pop G h1 h2 h3 h4 h5
  | .popi i k, W, G, sc, e, h => by
    cases e <;> first | (exact absurd h Bool.false_ne_true) | skip
    rename_i fn args kws p3
    cases fn <;> first | (exact absurd h Bool.false_ne_true) | skip
    rename_i o m p2
    cases o <;> first | (exact absurd h Bool.false_ne_true) | skip
    rename_i z q
    cases args <;> first | (exact absurd h Bool.false_ne_true) | skip
    rename_i y es
    cases es <;> first | (exact absurd h Bool.false_ne_true) | skip
    cases kws <;> first | (exact absurd h Bool.false_ne_true) | skip
    first | replace h := an h | skip
    try simp only [Bool.and_eq_true, decide_eq_true_eq, Bool.not_eq_true'] at h
    obtain ⟨⟨⟨⟨⟨⟨h1, h2⟩, h3⟩, h4⟩, h5⟩, h6⟩, h7⟩ := h
    exact se_popi G h1 h2 h3 h4 h5 h6 (sndE k W G sc _ h7)
  | .dnew, W, G, sc, e, h => by
    cases e <;> first | (exact absurd h Bool.false_ne_true) | skip
    rename_i ks vs pos
    cases ks <;> first | (exact absurd h Bool.false_ne_true) | skip
    cases vs <;> first | (exact absurd h Bool.false_ne_true) | skip
    exact se_dnew
  | .dlN k, W, G, sc, e, h => by
    cases e <;> first | (exact absurd h Bool.false_ne_true) | skip
    rename_i ks vs pos
    first | replace h := an h | skip
    try simp only [Bool.and_eq_true, decide_eq_true_eq, Bool.not_eq_true'] at h
    exact se_dlN h
  | .dlit kvs, W, G, sc, e, h => by
    cases e <;> first | (exact absurd h Bool.false_ne_true) | skip
    rename_i ks vs pos
    first | replace h := an h | skip
    try simp only [Bool.and_eq_true, decide_eq_true_eq, Bool.not_eq_true'] at h
    exact se_dlit h.1.1 (fun z => by rw [z] at h; exact absurd h.1.2 (Nat.lt_irrefl 0)) h.2
  | .dmk o, W, G, sc, e, h => by
    cases e <;> first | (exact absurd h Bool.false_ne_true) | skip
    rename_i fn args kws pos
    cases fn <;> first | (exact absurd h Bool.false_ne_true) | skip
    rename_i f q
    cases args <;> first | (exact absurd h Bool.false_ne_true) | skip
    rename_i x es
    cases es <;> first | (exact absurd h Bool.false_ne_true) | skip
    cases kws <;> first | (exact absurd h Bool.false_ne_true) | skip
    first | replace h := an h | skip
    try simp only [Bool.and_eq_true, decide_eq_true_eq, Bool.not_eq_true'] at h
    obtain ⟨⟨⟨h1, h2⟩, h3⟩, h4⟩ := h
    exact se_dmk G h1 h2 h3 (sndO o W G sc _ h4)
  | .dix a b, W, G, sc, e, h => by
    cases e <;> first | (exact absurd h Bool.false_ne_true) | skip
    rename_i x y pos
    first | replace h := an h | skip
    try simp only [Bool.and_eq_true, decide_eq_true_eq, Bool.not_eq_true'] at h
    exact se_dix G h.1.1 (sndO a W G sc _ h.1.2) (sndO b W G sc _ h.2)
  | .din p a b, W, G, sc, e, h => by
    cases e <;> first | (exact absurd h Bool.false_ne_true) | skip
    rename_i x ops ys pos
    cases ops <;> first | (exact absurd h Bool.false_ne_true) | skip
    rename_i op ops
    cases ops <;> first | (exact absurd h Bool.false_ne_true) | skip
    cases ys <;> first | (exact absurd h Bool.false_ne_true) | skip
    rename_i y ys
    cases ys <;> first | (exact absurd h Bool.false_ne_true) | skip
    first | replace h := an h | skip
    try simp only [Bool.and_eq_true, decide_eq_true_eq, Bool.not_eq_true'] at h
    exact se_din G h.1.1.1 h.1.1.2 (sndO a W G sc _ h.1.2) (sndO b W G sc _ h.2)
  | .dgt a b c, W, G, sc, e, h => by
    cases e <;> first | (exact absurd h Bool.false_ne_true) | skip
    rename_i fn args kws p3
    cases fn <;> first | (exact absurd h Bool.false_ne_true) | skip
    rename_i o m p2
    cases o <;> first | (exact absurd h Bool.false_ne_true) | skip
    rename_i z q
    cases args <;> first | (exact absurd h Bool.false_ne_true) | skip
    rename_i x es
    cases es <;> first | (exact absurd h Bool.false_ne_true) | skip
    rename_i y es
    cases es <;> first | (exact absurd h Bool.false_ne_true) | skip
    cases kws <;> first | (exact absurd h Bool.false_ne_true) | skip
    first | replace h := an h | skip
    try simp only [Bool.and_eq_true, decide_eq_true_eq, Bool.not_eq_true'] at h
    obtain ⟨⟨⟨⟨⟨⟨h1, h2⟩, h3⟩, h4⟩, h5⟩, h6⟩, h7⟩ := h
    exact se_dgt G h1 h2 h3 h4 (sndO a W G sc _ h5) (sndO b W G sc _ h6) (sndO c W G sc _ h7)
  | .upper a, W, G, sc, e, h => by
    cases e <;> first | (exact absurd h Bool.false_ne_true) | skip
    rename_i fn args kws p3
    cases fn <;> first | (exact absurd h Bool.false_ne_true) | skip
    rename_i o m p2
    cases o <;> first | (exact absurd h Bool.false_ne_true) | skip
    rename_i z q
    cases args <;> first | (exact absurd h Bool.false_ne_true) | skip
    cases kws <;> first | (exact absurd h Bool.false_ne_true) | skip
    first | replace h := an h | skip
    try simp only [Bool.and_eq_true, decide_eq_true_eq, Bool.not_eq_true'] at h
    obtain ⟨⟨h1, h2⟩, h3⟩ := h
    exact se_upper h1 h2 (sndO a W G sc _ h3)
  | .join a b, W, G, sc, e, h => by
    cases e <;> first | (exact absurd h Bool.false_ne_true) | skip
    rename_i fn args kws p3
    cases fn <;> first | (exact absurd h Bool.false_ne_true) | skip
    rename_i o m p2
    cases o <;> first | (exact absurd h Bool.false_ne_true) | skip
    rename_i k j q
    cases k <;> first | (exact absurd h Bool.false_ne_true) | skip
    rename_i z
    cases args <;> first | (exact absurd h Bool.false_ne_true) | skip
    rename_i y es
    cases es <;> first | (exact absurd h Bool.false_ne_true) | skip
    cases kws <;> first | (exact absurd h Bool.false_ne_true) | skip
    first | replace h := an h | skip
    try simp only [Bool.and_eq_true, decide_eq_true_eq, Bool.not_eq_true'] at h
    obtain ⟨⟨⟨⟨h1, h2⟩, h3⟩, h4⟩, h5⟩ := h
    exact se_join h1 h2 h3 (sndO a W G sc _ h4) (sndO b W G sc _ h5)
  | .split a b, W, G, sc, e, h => by
    cases e <;> first | (exact absurd h Bool.false_ne_true) | skip
    rename_i fn args kws p3
    cases fn <;> first | (exact absurd h Bool.false_ne_true) | skip
    rename_i o m p2
    cases o <;> first | (exact absurd h Bool.false_ne_true) | skip
    rename_i z q
    cases args <;> first | (exact absurd h Bool.false_ne_true) | skip
    rename_i y es
    cases es <;> first | (exact absurd h Bool.false_ne_true) | skip
    cases kws <;> first | (exact absurd h Bool.false_ne_true) | skip
    first | replace h := an h | skip
    try simp only [Bool.and_eq_true, decide_eq_true_eq, Bool.not_eq_true'] at h
    obtain ⟨⟨⟨⟨h1, h2⟩, h3⟩, h4⟩, h5⟩ := h
    exact se_split h1 h2 h3 (sndO a W G sc _ h4) (sndO b W G sc _ h5)
  | .chn3 p q s a b c e3, W, G, sc, e, h => by
    cases e <;> first | (exact absurd h Bool.false_ne_true) | skip
    rename_i x ops ys pos
    cases ops <;> first | (exact absurd h Bool.false_ne_true) | skip
    rename_i o1 ops
    cases ops <;> first | (exact absurd h Bool.false_ne_true) | skip
    rename_i o2 ops
    cases ops <;> first | (exact absurd h Bool.false_ne_true) | skip
    rename_i o3 ops
    cases ops <;> first | (exact absurd h Bool.false_ne_true) | skip
    cases ys <;> first | (exact absurd h Bool.false_ne_true) | skip
    rename_i y ys
    cases ys <;> first | (exact absurd h Bool.false_ne_true) | skip
    rename_i z ys
    cases ys <;> first | (exact absurd h Bool.false_ne_true) | skip
    rename_i u ys
    cases ys <;> first | (exact absurd h Bool.false_ne_true) | skip
    first | replace h := an h | skip
    try simp only [Bool.and_eq_true, decide_eq_true_eq, Bool.not_eq_true'] at h
    obtain ⟨⟨⟨⟨⟨⟨⟨h1, h2⟩, h3⟩, h4⟩, h5⟩, h6⟩, h7⟩, h8⟩ := h
    exact se_chn3 G h1 h2 h3 (sndO a W G sc _ h5) (sndO b W G sc _ h6) (sndO c W G sc _ h7) (sndE e3 W G sc _ h8) h4
theorem sndO : ∀ (ir : O) (W : Wd) (G : GOK W) (sc : Scope) (e : Expr), chO W.G W.N sc ir e = true → SO W sc ir e
  | .bor i, W, G, sc, e, h => by
    cases e <;> first | (exact absurd h Bool.false_ne_true) | skip
    rename_i x pos
    simp only [chO, Bool.and_eq_true, decide_eq_true_eq] at h
    exact so_bor h.1.1 h.1.2 h.2
  | .ex x, W, G, sc, e, h => by
    exact so_ex (sndE x W G sc e h)
theorem sndOs : ∀ (ir : Os) (W : Wd) (G : GOK W) (sc : Scope) (es : List Expr), chOs W.G W.N sc ir es = true → SOs W sc ir es
  | .nil, W, G, sc, es, h => by
    cases es <;> first | (exact absurd h Bool.false_ne_true) | skip
    exact sos_nil
  | .cons o os, W, G, sc, es, h => by
    cases es <;> first | (exact absurd h Bool.false_ne_true) | skip
    simp only [chOs, Bool.and_eq_true] at h
    exact sos_cons h.1.1 (sndO o W G sc _ h.1.2) (sndOs os W G sc _ h.2)
theorem sndT : ∀ (ir : T) (W : Wd) (G : GOK W) (sc : Scope) (e : Expr), chT W.G W.N sc ir e = true → ST W sc ir e
  | .yes, W, G, sc, e, h => by
    cases e <;> exact absurd h Bool.false_ne_true
  | .val a, W, G, sc, e, h => by
    simp only [chT, Bool.and_eq_true] at h
    exact st_val (sndE a W G sc e h.1) h.2
  | .not t, W, G, sc, e, h => by
    cases e <;> first | (exact absurd h Bool.false_ne_true) | skip
    rename_i op x pos
    cases op <;> first | (exact absurd h Bool.false_ne_true) | skip
    simp only [chT] at h
    exact st_not (sndT t W G sc _ h)
  | .and a b, W, G, sc, e, h => by
    cases e <;> first | (exact absurd h Bool.false_ne_true) | skip
    rename_i op vs pos
    cases op <;> first | (exact absurd h Bool.false_ne_true) | skip
    cases vs <;> first | (exact absurd h Bool.false_ne_true) | skip
    rename_i x vs
    cases vs <;> first | (exact absurd h Bool.false_ne_true) | skip
    rename_i y vs
    cases vs with
    | nil =>
      simp only [chT, Bool.and_eq_true] at h
      exact st_and2 (sndT a W G sc _ h.1) (sndT b W G sc _ h.2)
    | cons z r =>
      simp only [chT, Bool.and_eq_true] at h
      exact st_and3 (sndT a W G sc _ h.1) (sndT b W G sc _ h.2)
  | .or a b, W, G, sc, e, h => by
    cases e <;> first | (exact absurd h Bool.false_ne_true) | skip
    rename_i op vs pos
    cases op <;> first | (exact absurd h Bool.false_ne_true) | skip
    cases vs <;> first | (exact absurd h Bool.false_ne_true) | skip
    rename_i x vs
    cases vs <;> first | (exact absurd h Bool.false_ne_true) | skip
    rename_i y vs
    cases vs with
    | nil =>
      simp only [chT, Bool.and_eq_true] at h
      exact st_or2 (sndT a W G sc _ h.1) (sndT b W G sc _ h.2)
    | cons z r =>
      simp only [chT, Bool.and_eq_true] at h
      exact st_or3 (sndT a W G sc _ h.1) (sndT b W G sc _ h.2)
theorem sndI : ∀ (ir : I) (W : Wd) (G : GOK W) (sc : Scope) (tg e : Expr), chI W.G W.N sc ir tg e = true → SI W sc ir tg e
  | .seq a, W, G, sc, tg, e, h => by
    simp only [chI, Bool.and_eq_true, decide_eq_true_eq] at h
    exact si_seq (sndE a W G sc _ h.2) h.1.2
  | .txt a, W, G, sc, tg, e, h => by
    simp only [chI, Bool.and_eq_true, decide_eq_true_eq] at h
    exact si_txt (sndE a W G sc _ h.2) h.1.2
  | .rng1 a, W, G, sc, tg, e, h => by
    cases e <;> first | (exact absurd h Bool.false_ne_true) | skip
    rename_i fn args kws pos
    cases fn <;> first | (exact absurd h Bool.false_ne_true) | skip
    rename_i f q
    cases args <;> first | (exact absurd h Bool.false_ne_true) | skip
    rename_i x es
    cases es <;> first | (exact absurd h Bool.false_ne_true) | skip
    cases kws <;> first | (exact absurd h Bool.false_ne_true) | skip
    simp only [chI, Bool.and_eq_true, decide_eq_true_eq] at h
    exact si_rng1 G h.1.1.1 h.1.1.2 h.1.2 (sndE a W G sc _ h.2)
  | .rng2 a b, W, G, sc, tg, e, h => by
    cases e <;> first | (exact absurd h Bool.false_ne_true) | skip
    rename_i fn args kws pos
    cases fn <;> first | (exact absurd h Bool.false_ne_true) | skip
    rename_i f q
    cases args <;> first | (exact absurd h Bool.false_ne_true) | skip
    rename_i x es
    cases es <;> first | (exact absurd h Bool.false_ne_true) | skip
    rename_i y es
    cases es <;> first | (exact absurd h Bool.false_ne_true) | skip
    cases kws <;> first | (exact absurd h Bool.false_ne_true) | skip
    simp only [chI, Bool.and_eq_true, decide_eq_true_eq] at h
    obtain ⟨⟨⟨⟨⟨h1, h2⟩, h3⟩, h4⟩, h5⟩, h6⟩ := h
    exact si_rng2 G h1 h2 h3 h4 (sndE a W G sc _ h5) (sndE b W G sc _ h6)
  | .zip a b, W, G, sc, tg, e, h => by
    cases tg <;> first | (exact absurd h Bool.false_ne_true) | skip
    rename_i elts kk tpos
    cases e <;> first | (exact absurd h Bool.false_ne_true) | skip
    rename_i fn args kws pos
    cases fn <;> first | (exact absurd h Bool.false_ne_true) | skip
    rename_i f q
    cases args <;> first | (exact absurd h Bool.false_ne_true) | skip
    rename_i x es
    cases es <;> first | (exact absurd h Bool.false_ne_true) | skip
    rename_i y es
    cases es <;> first | (exact absurd h Bool.false_ne_true) | skip
    cases kws <;> first | (exact absurd h Bool.false_ne_true) | skip
    simp only [chI, Bool.and_eq_true, decide_eq_true_eq] at h
    obtain ⟨⟨⟨⟨⟨h1, h2⟩, h3⟩, h4⟩, h5⟩, h6⟩ := h
    exact si_zip G h1 h2 h3 h4 (sndE a W G sc _ h5) (sndE b W G sc _ h6)
  | .enum a, W, G, sc, tg, e, h => by
    cases tg <;> first | (exact absurd h Bool.false_ne_true) | skip
    rename_i elts kk tpos
    cases e <;> first | (exact absurd h Bool.false_ne_true) | skip
    rename_i fn args kws pos
    cases fn <;> first | (exact absurd h Bool.false_ne_true) | skip
    rename_i f q
    cases args <;> first | (exact absurd h Bool.false_ne_true) | skip
    rename_i x es
    cases es <;> first | (exact absurd h Bool.false_ne_true) | skip
    cases kws <;> first | (exact absurd h Bool.false_ne_true) | skip
    simp only [chI, Bool.and_eq_true, decide_eq_true_eq] at h
    exact si_enum G h.1.1.1 h.1.1.2 h.1.2 (sndE a W G sc _ h.2)
  | .zipn a b, W, G, sc, tg, e, h => by
    cases tg <;> first | (exact absurd h Bool.false_ne_true) | skip
    rename_i n tpos
    cases e <;> first | (exact absurd h Bool.false_ne_true) | skip
    rename_i fn args kws pos
    cases fn <;> first | (exact absurd h Bool.false_ne_true) | skip
    rename_i f q
    cases args <;> first | (exact absurd h Bool.false_ne_true) | skip
    rename_i x es
    cases es <;> first | (exact absurd h Bool.false_ne_true) | skip
    rename_i y es
    cases es <;> first | (exact absurd h Bool.false_ne_true) | skip
    cases kws <;> first | (exact absurd h Bool.false_ne_true) | skip
    simp only [chI, Bool.and_eq_true, decide_eq_true_eq] at h
    obtain ⟨⟨⟨⟨⟨h1, h2⟩, h3⟩, h4⟩, h5⟩, h6⟩ := h
    exact si_zipn G h1 h2 h3 h4 (sndE a W G sc _ h5) (sndE b W G sc _ h6)
  | .ezip a b, W, G, sc, tg, e, h => by
    cases tg <;> first | (exact absurd h Bool.false_ne_true) | skip
    rename_i elts kk tpos
    cases e <;> first | (exact absurd h Bool.false_ne_true) | skip
    rename_i fn args kws pos
    cases fn <;> first | (exact absurd h Bool.false_ne_true) | skip
    rename_i f q
    cases args <;> first | (exact absurd h Bool.false_ne_true) | skip
    rename_i z es
    cases z <;> first | (exact absurd h Bool.false_ne_true) | skip
    rename_i fn2 args2 kws2 pos2
    cases fn2 <;> first | (exact absurd h Bool.false_ne_true) | skip
    rename_i g q2
    cases args2 <;> first | (exact absurd h Bool.false_ne_true) | skip
    rename_i x es2
    cases es2 <;> first | (exact absurd h Bool.false_ne_true) | skip
    rename_i y es2
    cases es2 <;> first | (exact absurd h Bool.false_ne_true) | skip
    cases kws2 <;> first | (exact absurd h Bool.false_ne_true) | skip
    cases es <;> first | (exact absurd h Bool.false_ne_true) | skip
    cases kws <;> first | (exact absurd h Bool.false_ne_true) | skip
    simp only [chI, Bool.and_eq_true, decide_eq_true_eq] at h
    obtain ⟨⟨⟨⟨⟨⟨⟨h1, h2⟩, h3⟩, h4⟩, h5⟩, h6⟩, h7⟩, h8⟩ := h
    exact si_ezip G h1 h2 h3 h4 h5 h6 (sndE a W G sc _ h7) (sndE b W G sc _ h8)
  | .rng3 a b c, W, G, sc, tg, e, h => by
    cases e <;> first | (exact absurd h Bool.false_ne_true) | skip
    rename_i fn args kws pos
    cases fn <;> first | (exact absurd h Bool.false_ne_true) | skip
    rename_i f q
    cases args <;> first | (exact absurd h Bool.false_ne_true) | skip
    rename_i x es
    cases es <;> first | (exact absurd h Bool.false_ne_true) | skip
    rename_i y es
    cases es <;> first | (exact absurd h Bool.false_ne_true) | skip
    rename_i z es
    cases es <;> first | (exact absurd h Bool.false_ne_true) | skip
    cases kws <;> first | (exact absurd h Bool.false_ne_true) | skip
    simp only [chI, Bool.and_eq_true, decide_eq_true_eq] at h
    obtain ⟨⟨⟨⟨⟨⟨⟨h1, h2⟩, h3⟩, h4⟩, h5⟩, h6⟩, h7⟩, h8⟩ := h
    exact si_rng3 G h1 h2 h3 h4 h5 (sndE a W G sc _ h6) (sndE b W G sc _ h7) (sndE c W G sc _ h8)
  | .keys a, W, G, sc, tg, e, h => by
    cases tg <;> cases e <;> exact absurd h Bool.false_ne_true
end
end
end Wa

/-! statements -/
namespace Wa
open PySem PySem.Spec PyProof.Rows L2
variable [CM]

/-- a place among a def's statements -/
structure XSK (W : Wd) (sc : Scope) (X : Cx) : Prop where
  ok : XOK W sc X
  fn : X.fn = fun _ => true
  po : PassesOwn (model X.prog X.w) X.A X.env X.xe
  st : X.stack = X.env :: X.outer
  fr : X.env.frame = some X.env.locals
  ex : X.ex = []
/-! what names a statement may write -/
def wrL : L → List Nat
  | .ite _ a b => wrL a ++ wrL b
  | .asg i _ => [i]
  | .drop _ => []
mutual
def wrS : S → List Nat
  | .asg i _ => [i]
  | .unp p _ => pslots p
  | .unpk p _ _ _ => pslots p
  | .ite _ a b => wrB a ++ wrB b
  | .for_ p _ b => pslots p ++ wrB b
  | .while_ _ b => wrB b
  | .try_ i j b => i :: j :: wrL b
  | _ => []
def wrB : B → List Nat
  | .nil => []
  | .cons s b => wrS s ++ wrB b
  | .tells i _ _ => [i]
  | .loan b => wrB b
end
def Fx (ws : List Nat) (σ σ' : L2.St) : Prop := ∀ j, j ∉ ws → σ'[j]? = σ[j]?
theorem Fx.refl {ws : List Nat} {σ : L2.St} : Fx ws σ σ := fun _ _ => rfl
theorem Fx.mono {ws us : List Nat} {σ σ' : L2.St} (h : Fx ws σ σ') (k : ∀ j, j ∈ ws → j ∈ us) : Fx us σ σ' := fun j n => h j fun m => n (k j m)
theorem Fx.l {ws us : List Nat} {σ σ' : L2.St} (h : Fx ws σ σ') : Fx (ws ++ us) σ σ' := h.mono fun _ m => List.mem_append_left _ m
theorem Fx.r {ws us : List Nat} {σ σ' : L2.St} (h : Fx us σ σ') : Fx (ws ++ us) σ σ' := h.mono fun _ m => List.mem_append_right _ m
theorem Fx.trans {ws : List Nat} {σ σ1 σ2 : L2.St} (h : Fx ws σ σ1) (k : Fx ws σ1 σ2) : Fx ws σ σ2 := fun j n => (k j n).trans (h j n)
theorem fx_set {i : Nat} {σ : L2.St} {v : Option V} : Fx [i] σ (σ.set i v) := fun j n => List.getElem?_set_ne fun e => n (by rw [e]; exact List.mem_singleton.mpr rfl)
/-- what is told back: at find_worth's end with a dict and a list -/
def ResR (W : Wd) (c : Ctx) (F : Addr → Prop) (r : Env) (σ : L2.St) (H : Hp) (fl : Bool) (d : D) (v : V) : Prop :=
  (W.G.mu = false ∧ Res c F r σ H fl d v) ∨ (W.G.mu = true ∧ ∃ d0 kvs xs, d = .tup [d0, .dic kvs, .lst xs] ∧ Rep c.p F H d0 v ∧ r[1]? = some (.ow (.dic kvs)) ∧ r[3]? = some (.ow (.lst xs)))
def SemS (W : Wd) (ir : S) (t : TS) : Prop := ∀ {xp : D → Env → Prop} (c : Ctx) (F : Addr → Prop) (r : Env) (σ : L2.St) [∀ σ, XpOk W xp c σ] (H : Hp) (nx : Env → Prop) (rt : Bool → D → Env → Prop) (dn : Ends), Sim c F r σ H → evS W.cl xp ir r nx rt →
  (∀ r' F' σ' H', nx r' → Step F H F' H' → Sim c F' r' σ' H' → Fx (wrS ir) σ σ' → dn.nx σ' H') →
  (∀ fl d r' F' σ' H' v, rt fl d r' → Step F H F' H' → Sim c F' r' σ' H' → Fx (wrS ir) σ σ' → ResR W c F' r' σ' H' fl d v → dn.rt v H') → t dn σ H
def SemB (W : Wd) (ir : B) (t : TS) : Prop := ∀ {xp : D → Env → Prop} (c : Ctx) (F : Addr → Prop) (r : Env) (σ : L2.St) [∀ σ, XpOk W xp c σ] (H : Hp) (nx : Env → Prop) (rt : Bool → D → Env → Prop) (dn : Ends), Sim c F r σ H → evB W.cl xp ir r nx rt →
  (∀ r' F' σ' H', nx r' → Step F H F' H' → Sim c F' r' σ' H' → Fx (wrB ir) σ σ' → dn.nx σ' H') →
  (∀ fl d r' F' σ' H' v, rt fl d r' → Step F H F' H' → Sim c F' r' σ' H' → Fx (wrB ir) σ σ' → ResR W c F' r' σ' H' fl d v → dn.rt v H') → t dn σ H
def SS (W : Wd) (sc : Scope) (ir : S) (st : Stmt) : Prop := ∃ t, (∀ X, XSK W sc X → PS X st t) ∧ SemS W ir t
def SB (W : Wd) (sc : Scope) (ir : B) (st : List Stmt) : Prop := ∃ t, (∀ X, XSK W sc X → PSs X st t) ∧ SemB W ir t

section
variable {c : Ctx} {F F' : Addr → Prop} {r : Env} {σ : L2.St} {H H' : Hp}
/-- a name takes a value -/
theorem Sim.put (S : Sim c F r σ H) {i : Nat} {fl : Bool} {d : D} {v : V} (hi : i < r.length) (g : Res c F r σ H fl d v) : ∃ F', Step F H F' H ∧ Sim c F' (r.set i (owS fl d)) (σ.set i (some v)) H := by
  have sh : ∀ {F' : Addr → Prop} {r' : Env}, Sim c F' r' σ H → i < r'.length → Rep c.p F' H d v → Sim c F' (r'.set i (.sh d)) (σ.set i (some v)) H := fun {F' r'} S' hi' g' => by
    have hs : i < σ.length := by rw [← S'.len]; exact hi'
    exact S'.reslot (by rw [List.length_set]) (fun j hj => get_set_ne hj) (s := .sh d) ⟨v, get_set_eq hs, g'⟩ fun d e => by cases e
  have hs : i < σ.length := by rw [← S.len]; exact hi
  cases fl with
  | false => exact ⟨F, .refl, sh S hi g⟩
  | true =>
    rcases g with ⟨a, rfl, o, h1, h2, h3, h4, h5⟩ | h
    · have e : owS true d = .ow d := by
        cases d <;> first
          | rfl
          | exact False.elim o
      rw [e]
      refine ⟨F, .refl, S.reslot (by rw [List.length_set]) (fun j hj => get_set_ne hj) (s := .ow d) ⟨a, get_set_eq hs, o, h1, h2, h3, h4⟩ fun d' e b hb j e' hj hr hs' => ?_⟩
      rw [get_set_eq hs] at hb
      cases hb
      exact h5 j e' hr hs'
    · obtain ⟨F', st, S', R⟩ := S.frz (fl := true) (.inr h)
      obtain ⟨ds, _, rfl, _⟩ := h
      exact ⟨F', st, sh S' hi R⟩
end

section
variable {W : Wd} {sc : Scope}
theorem wr_of {X : Cx} (O : XSK W sc X) : WR sc (W.N.filter (isLc sc)) X := by
  intro x hx
  rw [List.mem_filter] at hx
  have h := isLc_ok hx.2
  exact ⟨h, .inl (by rw [O.fn])⟩
theorem ss_asg (G : GOK W) {i : Nat} {ir : E} {y : Str} {e : Expr} {py pos : Pos} (h1 : W.N[i]? = some y) (h2 : isLc sc y = true) (h3 : ∀ env, env.scope = sc → swapsWith e (some (.Name y py)) pos.line env = pure false) (he : SE W sc ir e) : SS W sc (.asg i ir) (.Assign [.Name y py] e pos) := by
  obtain ⟨te, a1, a2⟩ := he
  refine ⟨tAsg te (gName i), fun X O => ps_set (by rw [O.ok.N]; exact G.nd) (by rw [O.ok.N]; exact h1) (by rw [O.ok.sc]; exact isLc_ok h2) (a1 X O.ok).1 (h3 _ O.ok.sc) (.inl (by rw [O.fn])), fun {xp} c F r σ _ H nx rt dn S h hn hr => ?_⟩
  unfold evS at h
  refine a2 c F r σ H _ _ S h fun fl d r' F' H' v q st S' res => ?_
  obtain ⟨F2, st2, S2⟩ := S'.put q.1 res
  exact hn _ _ _ _ q.2 (st.trans st2) S2 fx_set
theorem ss_lc (G : GOK W) {i : Nat} {own : List (Str × Nat)} {p : Pat} {it : I} {cn : T} {el : E} {elt tg iter : Expr} {ifs : List Expr} {scope : Scope} {pos spos py : Pos} {y : Str} (hy : W.N[i]? = some y) (hyl : sc.names.lookup y = some .local) (hk : sc.kind = .function) (hl : (py.line == pos.line) = true)
    (ha : (scope.names.any fun (n, k) => n == y && (k == .local || k == .cell)) = false) (hb : blkC W.N sc scope own = true) (hw : (own.all fun q => isLc scope q.1) = true)
    (hi : SI W sc it tg iter) (hp : chPat W.N (own.map (·.1)) p tg = true) (hps : ((pslots p).all fun i => (own.map (·.2)).contains i) = true) (ht : STs W.nox (relS scope sc) cn ifs) (he : SE W.nox (relS scope sc) el elt) :
    SS W sc (.asg i (.lc own p it cn el)) (.Assign [.Name y py] (.ListComp elt [⟨tg, iter, ifs, 0⟩] scope pos) spos) := by
  obtain ⟨tl, _, h1, h2⟩ := lc_all G hb hw hi hp hps ht he (pos := pos)
  refine ⟨tAsg tl (gName i), fun X O => h1 X O.ok i y py spos hy hyl (sw_true (by rw [O.ok.sc]; exact hk) (by rw [O.ok.sc]; exact hyl) hl ha), fun {xp} c F r σ _ H nx rt dn S h hn hr => ?_⟩
  unfold evS at h
  refine h2 c F r σ H _ _ S h fun fl d r' F' H' v q st S' res => ?_
  obtain ⟨F2, st2, S2⟩ := S'.put q.1 res
  exact hn _ _ _ _ q.2 (st.trans st2) S2 fx_set
theorem ss_unp (G : GOK W) {p : Pat} {ir : E} {tg e : Expr} {pos : Pos} (hp : chPat W.N (W.N.filter (isLc sc)) p tg = true) (h1 : ∀ env, swapsWithSole [tg] e pos.line env = pure false) (h2 : ∀ env, swappedStores [tg] e env = pure none) (h3 : plainE tg = true) (he : SE W sc ir e) : SS W sc (.unp p ir) (.Assign [tg] e pos) := by
  obtain ⟨te, a1, a2⟩ := he
  obtain ⟨g, g1, g2⟩ := sp_ok (sc := sc) G p tg hp
  refine ⟨tAsg te g, fun X O => ps_asg (a1 X O.ok).1 (g1 X O.ok (wr_of O)) (h1 _) (h2 _) (by rw [assign1 h3]; rfl), fun {xp} c F r σ _ H nx rt dn S h hn hr => ?_⟩
  unfold evS at h
  refine a2 c F r σ H _ _ S h fun fl d r' F' H' v q st S' res => ?_
  cases hb : bindP p d r' with
  | none => rw [hb] at q; exact q.elim
  | some r2 =>
    rw [hb] at q
    obtain ⟨F2, st2, S2, R2⟩ := S'.frz res
    exact g2 c F2 r' σ H' d v r2 _ S2 R2 hb fun σ' S3 hf _ => hn _ _ _ _ q (st.trans st2) S3 hf
theorem ss_setix (G : GOK W) {i : Nat} {kx ir : E} {x : Str} {k e : Expr} {p1 p2 pos : Pos} (hk : plainE k = true) (h1 : W.N[i]? = some x) (h2 : isVis sc x = true) (h3 : okNm x = true) (hs : ∀ env, swapsWithSole [.Subscript (.Name x p1) k p2] e pos.line env = pure false) (hkx : SE W sc kx k) (he : SE W sc ir e) :
    SS W sc (.setix i kx ir) (.Assign [.Subscript (.Name x p1) k p2] e pos) := by
  obtain ⟨te, a1, a2⟩ := he
  obtain ⟨tk, b1, b2⟩ := hkx
  obtain ⟨g1, g2, _⟩ := okNm_ok h3
  refine ⟨tAsg te (gSub (tVar i) tk rSetL), fun X O => ps_asg (a1 X O.ok).1 (pg_sub (pe_var (by rw [O.ok.N]; exact h1) (by rw [O.ok.sc]; exact isVis_ok h2) g1 g2) (b1 X O.ok).1 set_list (fun _ => by cases k <;> first | rfl | (cases hk; done))) (hs _) rfl rfl, fun {xp} c F r σ _ H nx rt dn S h hn hr => ?_⟩
  unfold evS at h
  refine a2 c F r σ H _ _ S h fun fl d r1 F1 H1 v q st S1 res => ?_
  obtain ⟨ho, q⟩ := q
  obtain ⟨F2, st2, S2, R2⟩ := S1.frz res
  cases hx : owAt r1 i with
  | none => rw [hx] at ho; cases ho
  | some xs0 =>
    obtain ⟨a, vs0, ha, _⟩ := S2.at_ow hx
    refine ⟨_, ha, b2 c F2 r1 σ H1 _ _ S2 q fun fl2 n r2 F3 H3 kv q3 st3 S3 res3 => ?_⟩
    have q3' : ∃ (m : Int) (xs : List D) (j : Nat), n = .int m ∧ owAt r2 i = some xs ∧ ixN xs.length m = some j ∧ nx (r2.set i (.ow (.lst (xs.set j d)))) := by
      revert q3
      cases n <;> cases owAt r2 i <;> first
        | exact fun h => h.elim
        | skip
      rename_i m xs
      intro q3
      cases hj : ixN xs.length m with
      | none => simp only [hj] at q3
      | some j => simp only [hj] at q3; exact ⟨m, xs, j, rfl, rfl, hj, q3⟩
    obtain ⟨m, xs, j, rfl, hx2, hj, q4⟩ := q3'
    obtain ⟨a', vs, ha', hH, hl, hR⟩ := S3.at_ow hx2
    rw [ha] at ha'
    cases ha'
    have hv : kv = .int m := by
      cases fl2 with
      | false => exact res3
      | true =>
        rcases res3 with ⟨_, _, ho, _⟩ | ⟨_, _, e, _⟩
        · obtain ⟨_, e, _⟩ := ho.there
          cases e
        · cases e
    subst hv
    obtain ⟨st4, S4⟩ := S3.mut (ds := xs.set j d) (ys := vs.set j v) (owAt_ok hx2) ha (by rw [List.length_set]; exact hl) (Reps.set j hR (Rep.step st3 _ _ R2))
    refine ⟨a, vs, m, j, rfl, rfl, hH, by rw [hR.length]; exact hj, ?_⟩
    exact hn _ _ _ _ q4 (((st.trans st2).trans st3).trans st4) S4 .refl
theorem ss_setk (G : GOK W) {i : Nat} {kx ir : E} {x : Str} {k e : Expr} {p1 p2 pos : Pos} (hk : plainE k = true) (h1 : W.N[i]? = some x) (h2 : isVis sc x = true) (h3 : okNm x = true) (hs : ∀ env, swapsWith e (some (.Subscript (.Name x p1) k p2)) pos.line env = pure false) (hkx : SE W sc kx k) (he : SE W sc ir e) :
    SS W sc (.setk i kx ir) (.Assign [.Subscript (.Name x p1) k p2] e pos) := by
  obtain ⟨te, a1, a2⟩ := he
  obtain ⟨tk, b1, b2⟩ := hkx
  obtain ⟨g1, g2, _⟩ := okNm_ok h3
  refine ⟨sDPut (tVar i) tk te, fun X O => ps_dput (hu_ok G O.ok) (pe_var (by rw [O.ok.N]; exact h1) (by rw [O.ok.sc]; exact isVis_ok h2) g1 g2) (b1 X O.ok).1 (a1 X O.ok).1 (hs _), fun {xp} c F r σ _ H nx rt dn S h hn hr => ?_⟩
  unfold evS at h
  refine a2 c F r σ H _ _ S h fun fl d r1 F1 H1 v q st S1 res => ?_
  obtain ⟨ho, q⟩ := q
  obtain ⟨F2, st2, S2, R2⟩ := S1.frz res
  cases hx : dicAt r1 i with
  | none => rw [hx] at ho; cases ho
  | some xs0 =>
    obtain ⟨a, vs0, ha, _⟩ := S2.at_dic hx
    refine ⟨_, ha, b2 c F2 r1 σ H1 _ _ S2 q fun fl2 n r2 F3 H3 kv q3 st3 S3 res3 => ?_⟩
    have q3' : ∃ (m : Key) (xs : List (Key × D)), keyD n = some m ∧ dicAt r2 i = some xs ∧ xs.length < big ∧ nx (r2.set i (.ow (.dic (putD xs m d)))) := by
      revert q3
      cases keyD n <;> cases dicAt r2 i <;> first
        | exact fun h => h.elim
        | exact fun h => ⟨_, _, rfl, rfl, h⟩
    obtain ⟨m, xs, hm, hx2, hl, q4⟩ := q3'
    obtain ⟨a', vs, ha', hH, hl2, hR⟩ := S3.at_dic hx2
    rw [ha] at ha'
    cases ha'
    obtain ⟨F4, st4, S4, R4⟩ := S3.frz res3
    have hv : kv = kV m := key_of (Rep.top R4) hm
    subst hv
    have hR4 := Repk.step st4 _ _ hR
    obtain ⟨st5, S5⟩ := S4.mutO (o' := .dK (putK vs m v)) (d' := .dic (putD xs m d)) (dicAt_ok hx2) ha fun st => ⟨_, upd_same, by have := putD_len xs m d; rw [sizeLine_eq]; have e : big = 16777216 := rfl; omega, Repk.step st _ _ (Repk.put m (Rep.step st4 _ _ (Rep.step st3 _ _ R2)) hR4)⟩
    refine ⟨a, _, rfl, DPut.k hH (by rw [hR.length, sizeLine_eq]; exact hl), ?_⟩
    exact hn _ _ _ _ q4 ((((st.trans st2).trans st3).trans st4).trans st5) S5 .refl
theorem ss_unpk (G : GOK W) {i : Nat} {p : Pat} {kx ir : E} {x : Str} {tg k e : Expr} {p1 p2 tp pos : Pos} {kk : Nat} (ht : plainE tg = true) (hp : chPat W.N (W.N.filter (isLc sc)) p tg = true) (hk : plainE k = true) (h1 : W.N[i]? = some x) (h2 : isVis sc x = true) (h3 : okNm x = true)
    (hs : ∀ env, swapsWithSole [.Tuple [tg, .Subscript (.Name x p1) k p2] kk tp] e pos.line env = pure false) (hw : ∀ env, swappedStores [.Tuple [tg, .Subscript (.Name x p1) k p2] kk tp] e env = pure none) (hkx : SE W sc kx k) (he : SE W sc ir e) :
    SS W sc (.unpk p i kx ir) (.Assign [.Tuple [tg, .Subscript (.Name x p1) k p2] kk tp] e pos) := by
  obtain ⟨te, a1, a2⟩ := he
  obtain ⟨tk, b1, b2⟩ := hkx
  obtain ⟨g1, g2, _⟩ := okNm_ok h3
  obtain ⟨g, gx, gs⟩ := sp_ok (sc := sc) G p tg hp
  refine ⟨tAsg te (gTup W.K 2 (gCons g (gCons (gSub (tVar i) tk rSetD) gNil))), fun X O => ps_asg (a1 X O.ok).1 (by
    rw [← O.ok.K]
    exact pg_tup O.ok.calm (pgs_cons (gx X O.ok (wr_of O)) (pgs_cons (pg_sub (pe_var (by rw [O.ok.N]; exact h1) (by rw [O.ok.sc]; exact isVis_ok h2) g1 g2) (b1 X O.ok).1 (set_dict (hu_ok G O.ok)) (fun _ => by cases k <;> first | rfl | (cases hk; done))) pgs_nil (by rfl)) (by rw [assign1 ht]; rfl)) (by rw [assign1 ht]; rfl) (by rw [assign1 ht]; rfl)) (hs _) (hw _) rfl, fun {xp} c F r σ _ H nx rt dn S h hn hr => ?_⟩
  unfold evS at h
  refine a2 c F r σ H _ _ S h fun fl d r1 F1 H1 v q st S1 res => ?_
  split at q
  · rename_i a b
    obtain ⟨F2, st2, S2, R2⟩ := S1.frz res
    obtain ⟨A, xs, rfl, eA, lA, rA⟩ := R2
    obtain ⟨va, ws, rfl, ra, rB⟩ := rA
    obtain ⟨vb, ws, rfl, rb, rC⟩ := rB
    cases rC
    cases hb : bindP p a r1 with
    | none => rw [hb] at q; exact q.elim
    | some r2 =>
      rw [hb] at q
      refine ⟨A, [va, vb], rfl, SqT.of eA, rfl, va, [vb], rfl, gs c F2 r1 σ H1 a va r2 _ S2 ra hb fun σ' S3 hf _ => ⟨vb, [], rfl, ?_⟩⟩
      obtain ⟨ho, q⟩ := q
      cases hx : dicAt r2 i with
      | none => rw [hx] at ho; cases ho
      | some xs0 =>
        obtain ⟨a', vs0, ha, _⟩ := S3.at_dic hx
        refine ⟨_, ha, b2 c F2 r2 σ' H1 _ _ S3 q fun fl2 n r3 F3 H3 kv q3 st3 S4 res3 => ?_⟩
        have q3' : ∃ (m : Key) (xs : List (Key × D)), keyD n = some m ∧ dicAt r3 i = some xs ∧ xs.length < big ∧ nx (r3.set i (.ow (.dic (putD xs m b)))) := by
          revert q3
          cases keyD n <;> cases dicAt r3 i <;> first
            | exact fun h => h.elim
            | exact fun h => ⟨_, _, rfl, rfl, h⟩
        obtain ⟨m, xs, hm, hx2, hl, q4⟩ := q3'
        obtain ⟨a2', vs, ha', hH, hl2, hR⟩ := S4.at_dic hx2
        rw [ha] at ha'
        cases ha'
        obtain ⟨F4, st4, S5, R4⟩ := S4.frz res3
        have hv : kv = kV m := key_of (Rep.top R4) hm
        subst hv
        have hR4 := Repk.step st4 _ _ hR
        obtain ⟨st5, S6⟩ := S5.mutO (o' := .dK (putK vs m vb)) (d' := .dic (putD xs m b)) (dicAt_ok hx2) ha fun st => ⟨_, upd_same, by have := putD_len xs m b; rw [sizeLine_eq]; have e : big = 16777216 := rfl; omega, Repk.step st _ _ (Repk.put m (Rep.step st4 _ _ (Rep.step st3 _ _ rb)) hR4)⟩
        exact ⟨a', _, rfl, DPut.k hH (by rw [hR.length, sizeLine_eq]; exact hl), rfl, hn _ _ _ _ q4 ((((st.trans st2).trans st3).trans st4).trans st5) S6 hf⟩
  · exact q.elim
theorem ss_app (G : GOK W) {i : Nat} {ir : E} {x : Str} {e : Expr} {p1 p2 p3 pos : Pos} (hp : plainE e = true) (h1 : W.N[i]? = some x) (h2 : isVis sc x = true) (h3 : okNm x = true) (hl : (p2.endLine == p3.line) = true) (he : SE W sc ir e) :
    SS W sc (.app i ir) (.Expr (.Call (.Attribute (.Name x p1) "append" p2) [e] [] p3) pos) := by
  obtain ⟨te, a1, a2⟩ := he
  obtain ⟨g1, g2, _⟩ := okNm_ok h3
  refine ⟨tDrop (tBM W.K "list" rAppend (tVar i) (tCons te tNil)), fun X O => by rw [← O.ok.K]; exact ps_expr (pe_bm PySem.F.plainAttrs_list PySem.F.slot_list_append PySem.F.type_list_append mt_append (pe_var (by rw [O.ok.N]; exact h1) (by rw [O.ok.sc]; exact isVis_ok h2) g1 g2) (pa_cons (a1 X O.ok).1 pa_nil (star1 hp)) rfl (by rw [star1 hp]; rfl) hl (star1 hp) rfl) rfl, fun {xp} c F r σ _ H nx rt dn S h hn hr => ?_⟩
  unfold evS at h
  obtain ⟨ho, h⟩ := h
  cases hx : owAt r i with
  | none => rw [hx] at ho; cases ho
  | some xs0 =>
    obtain ⟨a, vs0, ha, hH0, _⟩ := S.at_ow hx
    refine ⟨_, ha, tyV_list hH0, ?_⟩
    refine a2 c F r σ H _ _ S h fun fl d r1 F1 H1 v q st S1 res => ?_
    obtain ⟨F2, st2, S2, R2⟩ := S1.frz res
    cases hx2 : owAt r1 i with
    | none => rw [hx2] at q; exact q.elim
    | some xs =>
      rw [hx2] at q
      obtain ⟨a', vs, ha', hH, hl, hR⟩ := S2.at_ow hx2
      rw [ha] at ha'
      cases ha'
      have hz : xs.length < 16777216 := q.1
      obtain ⟨st4, S4⟩ := S2.mut (ds := xs ++ [d]) (ys := vs ++ [v]) (owAt_ok hx2) ha (by rw [List.length_append, sizeLine_eq]; exact hz) (hR.append (Reps.one R2))
      refine ⟨a, vs, v, rfl, rfl, hH, by rw [hR.length, sizeLine_eq]; exact hz, ?_⟩
      exact hn _ _ _ _ q.2 ((st.trans st2).trans st4) S4 .refl
theorem ss_insl (G : GOK W) {i : Nat} {kr ir : E} {x m : Str} {k e : Expr} {p1 p2 p3 pos : Pos} (hm : m = ("insert" : Str)) (hk : plainE k = true) (hp : plainE e = true) (h1 : W.N[i]? = some x) (h2 : isVis sc x = true) (h3 : okNm x = true) (hl : (p2.endLine == p3.line) = true) (hkr : SE W sc kr k) (he : SE W sc ir e) :
    SS W sc (.insl i kr ir) (.Expr (.Call (.Attribute (.Name x p1) m p2) [k, e] [] p3) pos) := by
  subst hm
  obtain ⟨tk, b1, b2⟩ := hkr
  obtain ⟨te, a1, a2⟩ := he
  obtain ⟨g1, g2, _⟩ := okNm_ok h3
  have es : ∀ env, starEach [k, e] env = [(false, eval k env), (false, eval e env)] := fun env => by rw [star1 hk, star1 hp]; rfl
  refine ⟨tDrop (tBM W.K "list" (fun x vs H Q => ∃ (l : Addr) (xs : List V) (i : Int) (y : V), x = .ref l ∧ vs = [.int i, y] ∧ H l = some (.lst xs) ∧ xs.length < sizeLine ∧ 0 ≤ i ∧ i < 2 ^ 63 ∧ Q .non (upd H l (.lst (xs.take i.toNat ++ [y] ++ xs.drop i.toNat)))) (tVar i) (tCons tk (tCons te tNil))), fun X O => by
    rw [← O.ok.K]
    exact ps_expr (pe_bm PySem.F.plainAttrs_list PySem.F.slot_list_insert PySem.F.type_list_insert mt_insert (pe_var (by rw [O.ok.N]; exact h1) (by rw [O.ok.sc]; exact isVis_ok h2) g1 g2) (pa_cons (b1 X O.ok).1 (pa_cons (a1 X O.ok).1 pa_nil (star1 hp)) (star1 hk)) rfl (by rw [es]; rfl) hl (star1 hk) (by rw [star1 hp]; rfl)) rfl, fun {xp} c F r σ _ H nx rt dn S h hn hr => ?_⟩
  unfold evS at h
  obtain ⟨ho, h⟩ := h
  cases hx : owAt r i with
  | none => rw [hx] at ho; cases ho
  | some xs0 =>
    obtain ⟨a, vs0, ha, hH0, _⟩ := S.at_ow hx
    refine ⟨_, ha, tyV_list hH0, ?_⟩
    refine b2 c F r σ H _ _ S h fun fl0 n r0 F0 H0 kv q0 st0 S0 res0 => ?_
    refine a2 c F0 r0 σ H0 _ _ S0 q0 fun fl d r1 F1 H1 v q st S1 res => ?_
    obtain ⟨F2, st2, S2, R2⟩ := S1.frz res
    have q3 : ∃ (m : Int) (xs : List D), n = .int m ∧ owAt r1 i = some xs ∧ xs.length < big ∧ 0 ≤ m ∧ m ≤ (xs.length : Int) ∧ nx (r1.set i (.ow (.lst (xs.take m.toNat ++ [d] ++ xs.drop m.toNat)))) := by
      revert q
      cases n <;> cases owAt r1 i <;> first
        | exact fun h => h.elim
        | exact fun h => ⟨_, _, rfl, rfl, h⟩
    obtain ⟨m, xs, rfl, hx2, hz, m0, m1, q4⟩ := q3
    cases res_int res0
    obtain ⟨a', vs, ha', hH, hl, hR⟩ := S2.at_ow hx2
    rw [ha] at ha'
    cases ha'
    have hz : xs.length < 16777216 := hz
    have hlen := hR.length
    obtain ⟨st4, S4⟩ := S2.mut (ds := xs.take m.toNat ++ [d] ++ xs.drop m.toNat) (ys := vs.take m.toNat ++ [v] ++ vs.drop m.toNat) (owAt_ok hx2) ha (by rw [List.length_append, List.length_append, List.length_take, List.length_drop, List.length_singleton, sizeLine_eq]; omega) (((hR.take m.toNat).append (Reps.one R2)).append (hR.drop m.toNat))
    refine ⟨a, vs, m, v, rfl, rfl, hH, by rw [hR.length, sizeLine_eq]; exact hz, m0, by omega, ?_⟩
    exact hn _ _ _ _ q4 (((st0.trans st).trans st2).trans st4) S4 .refl
theorem ss_ext (G : GOK W) {i : Nat} {ir : E} {x : Str} {e : Expr} {p1 p2 p3 pos : Pos} (hp : plainE e = true) (h1 : W.N[i]? = some x) (h2 : isVis sc x = true) (h3 : okNm x = true) (hl : (p2.endLine == p3.line) = true) (he : SE W sc ir e) :
    SS W sc (.ext i ir) (.Expr (.Call (.Attribute (.Name x p1) "extend" p2) [e] [] p3) pos) := by
  obtain ⟨te, a1, a2⟩ := he
  obtain ⟨g1, g2, _⟩ := okNm_ok h3
  refine ⟨tDrop (tBM W.K "list" (rExtendA W.K) (tVar i) (tCons te tNil)), fun X O => by rw [← O.ok.K]; exact ps_expr (pe_bm PySem.F.plainAttrs_list PySem.F.slot_list_extend PySem.F.type_list_extend mt_extendA (pe_var (by rw [O.ok.N]; exact h1) (by rw [O.ok.sc]; exact isVis_ok h2) g1 g2) (pa_cons (a1 X O.ok).1 pa_nil (star1 hp)) rfl (by rw [star1 hp]; rfl) hl (star1 hp) rfl) rfl, fun {xp} c F r σ _ H nx rt dn S h hn hr => ?_⟩
  unfold evS at h
  obtain ⟨ho, h⟩ := h
  cases hx : owAt r i with
  | none => rw [hx] at ho; cases ho
  | some xs0 =>
    obtain ⟨a, vs0, ha, hH0, _⟩ := S.at_ow hx
    refine ⟨_, ha, tyV_list hH0, ?_⟩
    refine a2 c F r σ H _ _ S h fun fl d r1 F1 H1 v q st S1 res => ?_
    obtain ⟨F2, st2, S2, R2⟩ := S1.frz res
    cases hx2 : owAt r1 i with
    | none => rw [hx2] at q; cases d <;> exact q.elim
    | some xs =>
      rw [hx2] at q
      obtain ⟨a', vs, ha', hH, hl, hR⟩ := S2.at_ow hx2
      rw [ha] at ha'
      cases ha'
      cases d with
      | lst ys =>
        obtain ⟨b, us, rfl, hf, hb, hlb, hRb⟩ := R2
        have hz : xs.length + ys.length ≤ 16777216 := q.1
        obtain ⟨st4, S4⟩ := S2.mut (ds := xs ++ ys) (ys := vs ++ us) (owAt_ok hx2) ha (by rw [List.length_append, sizeLine_eq]; exact hz) (hR.append hRb)
        refine ⟨a, b, vs, us, rfl, rfl, hH, .inl hb, by rw [hR.length, hRb.length, sizeLine_eq]; exact hz, ?_⟩
        exact hn _ _ _ _ q.2 ((st.trans st2).trans st4) S4 .refl
      | tup ys =>
        obtain ⟨b, us, rfl, hb, hlb, hRb⟩ := R2
        have hz : xs.length + ys.length ≤ 16777216 := q.1
        obtain ⟨st4, S4⟩ := S2.mut (ds := xs ++ ys) (ys := vs ++ us) (owAt_ok hx2) ha (by rw [List.length_append, sizeLine_eq]; exact hz) (hR.append hRb)
        refine ⟨a, b, vs, us, rfl, rfl, hH, .inr (SqT.of hb), by rw [hR.length, hRb.length, sizeLine_eq]; exact hz, ?_⟩
        exact hn _ _ _ _ q.2 ((st.trans st2).trans st4) S4 .refl
      | _ => exact q.elim
theorem ss_clear (G : GOK W) {i : Nat} {x : Str} {p1 p2 p3 pos : Pos} (h1 : W.N[i]? = some x) (h2 : isVis sc x = true) (h3 : okNm x = true) (hl : (p2.endLine == p3.line) = true) :
    SS W sc (.clear i) (.Expr (.Call (.Attribute (.Name x p1) "clear" p2) [] [] p3) pos) := by
  obtain ⟨g1, g2, _⟩ := okNm_ok h3
  refine ⟨tDrop (tBM0 W.K "list" rClear (tVar i)), fun X O => by rw [← O.ok.K]; exact ps_expr (pe_bm0 PySem.F.plainAttrs_list PySem.F.slot_list_clear PySem.F.type_list_clear mt_clear (pe_var (by rw [O.ok.N]; exact h1) (by rw [O.ok.sc]; exact isVis_ok h2) g1 g2) rfl hl) rfl, fun {xp} c F r σ _ H nx rt dn S h hn hr => ?_⟩
  unfold evS at h
  cases hx : owAt r i with
  | none => rw [hx] at h; exact h.elim
  | some xs =>
    rw [hx] at h
    obtain ⟨a, vs, ha, hH, _⟩ := S.at_ow hx
    obtain ⟨st4, S4⟩ := S.mut (ds := []) (ys := []) (owAt_ok hx) ha (Nat.zero_le _) rfl
    exact ⟨_, ha, tyV_list hH, a, vs, rfl, rfl, hH, hn _ _ _ _ h st4 S4 .refl⟩
theorem ss_revl (G : GOK W) {i : Nat} {x : Str} {p1 p2 p3 pos : Pos} (h1 : W.N[i]? = some x) (h2 : isVis sc x = true) (h3 : okNm x = true) (hl : (p2.endLine == p3.line) = true) :
    SS W sc (.revl i) (.Expr (.Call (.Attribute (.Name x p1) "reverse" p2) [] [] p3) pos) := by
  obtain ⟨g1, g2, _⟩ := okNm_ok h3
  refine ⟨tDrop (tBM0 W.K "list" rReverse (tVar i)), fun X O => by rw [← O.ok.K]; exact ps_expr (pe_bm0 PySem.F.plainAttrs_list PySem.F.slot_list_reverse PySem.F.type_list_reverse mt_reverse (pe_var (by rw [O.ok.N]; exact h1) (by rw [O.ok.sc]; exact isVis_ok h2) g1 g2) rfl hl) rfl, fun {xp} c F r σ _ H nx rt dn S h hn hr => ?_⟩
  unfold evS at h
  cases hx : owAt r i with
  | none => rw [hx] at h; exact h.elim
  | some xs =>
    rw [hx] at h
    obtain ⟨a, vs, ha, hH, hl2, hR⟩ := S.at_ow hx
    obtain ⟨st4, S4⟩ := S.mut (ds := xs.reverse) (ys := vs.reverse) (owAt_ok hx) ha (by rw [List.length_reverse]; exact hl2) (Reps.reverse hR)
    exact ⟨_, ha, tyV_list hH, a, vs, rfl, rfl, hH, hn _ _ _ _ h st4 S4 .refl⟩
theorem ss_drop (G : GOK W) {ir : E} {e : Expr} {pos : Pos} (h1 : ∀ env, swapsWith e none pos.line env = pure false) (he : SE W sc ir e) : SS W sc (.dropE ir) (.Expr e pos) := by
  obtain ⟨te, a1, a2⟩ := he
  refine ⟨tDrop te, fun X O => ps_expr (a1 X O.ok).1 (h1 _), fun {xp} c F r σ _ H nx rt dn S h hn hr => ?_⟩
  unfold evS at h
  exact a2 c F r σ H _ _ S h fun fl d r' F' H' v q st S' res => hn _ _ _ _ q st S' .refl
theorem ss_pass {pos : Pos} : SS W sc .pass (.Pass pos) := ⟨tNext, fun X O => ps_pass, fun {xp} c F r σ _ H nx rt dn S h hn hr => by
  unfold evS at h
  exact hn _ _ _ _ h .refl S .refl⟩
theorem ss_doc {x : Str} {j : Nat} {p1 pos : Pos} : SS W sc .pass (.Expr (.Constant (.str x) j p1) pos) := ⟨tNext, fun X O => ps_doc, fun {xp} c F r σ _ H nx rt dn S h hn hr => by
  unfold evS at h
  exact hn _ _ _ _ h .refl S .refl⟩
theorem ss_ite {t : T} {a b : B} {e : Expr} {x y : List Stmt} {pos : Pos} (ht : ST W sc t e) (ha : SB W sc a x) (hb : SB W sc b y) : SS W sc (.ite t a b) (.If e x y pos) := by
  obtain ⟨tt, t1, t2⟩ := ht
  obtain ⟨ta, a1, a2⟩ := ha
  obtain ⟨tb, b1, b2⟩ := hb
  refine ⟨tIfS tt ta tb, fun X O => ps_if (t1 X O.ok).1 (a1 X O) (b1 X O), fun {xp} c F r σ _ H nx rt dn S h hn hr => ?_⟩
  unfold evS at h
  refine t2 c F r σ H _ _ S h fun k r1 F1 H1 q st S1 => ?_
  cases k with
  | true =>
    rw [if_pos rfl] at q ⊢
    exact a2 c F1 r1 σ H1 nx rt dn S1 q (fun r' F' σ' H' z st' S' fx => hn _ _ _ _ z (st.trans st') S' fx.l) fun fl d r' F' σ' H' v z st' S' fx res => hr _ _ _ _ _ _ _ z (st.trans st') S' fx.l res
  | false =>
    rw [if_neg Bool.false_ne_true] at q ⊢
    exact b2 c F1 r1 σ H1 nx rt dn S1 q (fun r' F' σ' H' z st' S' fx => hn _ _ _ _ z (st.trans st') S' fx.r) fun fl d r' F' σ' H' v z st' S' fx res => hr _ _ _ _ _ _ _ z (st.trans st') S' fx.r res
theorem forL_step {body : D → Env → (Env → Prop) → Prop} {xs : List D} {i : Nat} {x : D} {r : Env} {k : Env → Prop} (hx : xs[i]? = some x) (h : forL body (xs.drop i) r k) : body x r fun r' => forL body (xs.drop (i + 1)) r' k := by
  obtain ⟨hi, e⟩ := List.getElem?_eq_some_iff.mp hx
  rw [List.drop_eq_getElem_cons hi, e] at h
  unfold forL at h
  exact h
theorem ss_for (G : GOK W) {p : Pat} {it : I} {b : B} {tg iter : Expr} {body : List Stmt} {pos : Pos} (hp : chPat W.N (W.N.filter (isLc sc)) p tg = true) (hi : SI W sc it tg iter) (hb : SB W sc b body) : SS W sc (.for_ p it b) (.For tg iter body [] pos) := by
  obtain ⟨wi, i1, i2⟩ := hi
  obtain ⟨g, g1, g2⟩ := sp_ok (sc := sc) G p tg hp
  obtain ⟨tb, b1, b2⟩ := hb
  refine ⟨tFor wi g tb, fun X O => ps_for O.po O.ok.calm (i1 X O.ok).1 (g1 X O.ok (wr_of O)) (b1 X O) (i1 X O.ok).2, fun {xp} c F r σ _ H nx rt dn S h hn hr => ?_⟩
  unfold evS at h
  refine i2 c F r σ H _ _ S h fun items r1 F1 H1 J q1 st1 S1 wk => ?_
  obtain ⟨hsz, Gw, Y, wlk, wg, wy⟩ := wk
  generalize hbody : (fun (x : D) (r2 : Env) (k : Env → Prop) => match bindP p x r2 with
      | some r3 => evB W.cl xp b r3 k rt
      | none => False) = bd at q1
  refine for_it wlk (fun i σ2 H2 => ∃ F2 r2, forL bd (items.drop i) r2 nx ∧ Step F1 H1 F2 H2 ∧ Sim c F2 r2 σ2 H2 ∧ Fx (pslots p ++ wrB b) σ σ2) ?_ ?_ ?_ ?_
  · exact ⟨F1, r1, by rw [List.drop_zero]; exact q1, .refl, S1, .refl⟩
  · rintro i σ2 H2 hi ⟨F2, r2, _, st, _⟩
    exact wg F2 H2 st
  · rintro i x σ2 H2 H2' hi ⟨F2, r2, hl, st2, S2, fx2⟩ hy
    have hget : items[i]? = some items[i] := List.getElem?_eq_getElem hi
    obtain ⟨sm, rx⟩ := wy F2 H2 i x H2' _ st2 hget hy
    have hl' := forL_step hget hl
    have S2' := S2.same sm
    rw [← hbody] at hl'
    try simp only [] at hl'
    cases hbp : bindP p items[i] r2 with
    | none => rw [hbp] at hl'; exact hl'.elim
    | some r3 =>
      rw [hbp] at hl'
      try simp only [] at hl'
      refine g2 c F2 r2 σ2 H2' _ x r3 _ S2' rx hbp fun σ3 S3 hf _ => ?_
      rw [hbody] at hl'
      have st3 : Step F1 H1 F2 H2' := st2.trans (Step.of_same sm)
      have fx3 : Fx (pslots p ++ wrB b) σ σ3 := fx2.trans (Fx.l (ws := pslots p) hf)
      refine b2 c F2 r3 σ3 H2' _ rt _ S3 hl' (fun r' F' σ' H' z st' S' fx => ⟨F', r', z, st3.trans st', S', fx3.trans fx.r⟩) fun fl d r' F' σ' H' v z st' S' fx res => hr _ _ _ _ _ _ _ z ((st1.trans st3).trans st') S' (fx3.trans fx.r) res
  · rintro σ2 H2 ⟨F2, r2, hl, st2, S2, fx2⟩
    rw [List.drop_eq_nil_of_le (Nat.le_refl _)] at hl
    unfold forL at hl
    exact hn _ _ _ _ hl (st1.trans st2) S2 fx2
theorem ss_while {t : T} {b : B} {e : Expr} {body : List Stmt} {pos : Pos} (ht : ST W sc t e) (hb : SB W sc b body) : SS W sc (.while_ t b) (.While e body [] pos) := by
  obtain ⟨tt, t1, t2⟩ := ht
  obtain ⟨tb, b1, b2⟩ := hb
  refine ⟨tWhile tt tb, fun X O => ps_while O.po (t1 X O.ok).1 (b1 X O), fun {xp} c F r σ _ H nx rt dn S h hn hr => ?_⟩
  unfold evS at h
  obtain ⟨n0, h⟩ := h
  refine ⟨fun m σ2 H2 => ∃ F2 r2, whL (fun r1 k => evT W.cl xp t r1 k) (fun r1 k => evB W.cl xp b r1 k rt) m r2 nx ∧ Step F H F2 H2 ∧ Sim c F2 r2 σ2 H2 ∧ Fx (wrB b) σ σ2, ⟨n0, F, r, h, .refl, S, .refl⟩, ?_⟩
  rintro m σ2 H2 ⟨F2, r2, hw, st2, S2, fx2⟩
  cases m with
  | zero => unfold whL at hw; exact hw.elim
  | succ m =>
    unfold whL at hw
    refine t2 c F2 r2 σ2 H2 _ _ S2 hw fun k r3 F3 H3 q st3 S3 => ?_
    cases k with
    | true =>
      rw [if_pos rfl] at q ⊢
      refine ⟨fun σ' H' => ∃ F' r', whL (fun r1 k => evT W.cl xp t r1 k) (fun r1 k => evB W.cl xp b r1 k rt) m r' nx ∧ Step F H F' H' ∧ Sim c F' r' σ' H' ∧ Fx (wrB b) σ σ', fun σ' H' z => ⟨m, Nat.lt_succ_self _, z⟩, ?_⟩
      exact b2 c F3 r3 σ2 H3 _ rt _ S3 q (fun r' F' σ' H' z st' S' fx => ⟨F', r', z, (st2.trans st3).trans st', S', fx2.trans fx⟩) fun fl d r' F' σ' H' v z st' S' fx res => hr _ _ _ _ _ _ _ z ((st2.trans st3).trans st') S' (fx2.trans fx) res
    | false =>
      rw [if_neg Bool.false_ne_true] at q ⊢
      exact hn _ _ _ _ q (st2.trans st3) S3 fx2
theorem ss_ret (hm : W.G.mu = false) {ir : E} {e : Expr} {pos : Pos} (he : SE W sc ir e) : SS W sc (.ret ir) (.Return (some e) pos) := by
  obtain ⟨te, a1, a2⟩ := he
  refine ⟨tRet te, fun X O => ps_ret (a1 X O.ok).1, fun {xp} c F r σ _ H nx rt dn S h hn hr => ?_⟩
  unfold evS at h
  exact a2 c F r σ H _ _ S h fun fl d r' F' H' v q st S' res => hr _ _ _ _ _ _ _ q st S' .refl (.inl ⟨hm, res⟩)
theorem ss_retN (hm : W.G.mu = false) {pos : Pos} : SS W sc .retN (.Return none pos) := ⟨tRetN, fun X O => ps_retN, fun {xp} c F r σ _ H nx rt dn S h hn hr => by
  unfold evS at h
  exact hr _ _ _ _ _ _ _ h .refl S .refl (.inl ⟨hm, rfl⟩)⟩
theorem ss_retv (hm : W.G.mu = false) {i : Nat} {x : Str} {p1 pos : Pos} (h1 : W.N[i]? = some x) (h2 : isVis sc x = true) (h3 : okNm x = true) : SS W sc (.retv i) (.Return (some (.Name x p1)) pos) := by
  obtain ⟨g1, g2, _⟩ := okNm_ok h3
  refine ⟨tRet (tVar i), fun X O => ps_ret (pe_var (by rw [O.ok.N]; exact h1) (by rw [O.ok.sc]; exact isVis_ok h2) g1 g2), fun {xp} c F r σ _ H nx rt dn S h hn hr => ?_⟩
  unfold evS at h
  cases e : r[i]? with
  | none => rw [e] at h; exact h.elim
  | some s =>
    rw [e] at h
    have q := S.slot i s e
    cases s with
    | no => exact h.elim
    | sh d =>
      obtain ⟨v, h4, h5⟩ := q
      exact ⟨v, h4, hr _ _ _ _ _ _ _ h .refl S .refl (.inl ⟨hm, h5⟩)⟩
    | ow d =>
      obtain ⟨a, h4, o, h5, h6, h7, h8⟩ := q
      have hlt := lt_of_get e
      have S1 : Sim c F (r.set i .no) σ H := S.reslot rfl (fun _ _ => rfl) (s := .no) trivial fun d e => by cases e
      refine ⟨_, h4, hr _ _ _ _ _ _ _ h .refl S1 .refl (.inl ⟨hm, .inl ⟨a, rfl, o, h5, h6, h7, h8, fun j e' hj hs => ?_⟩⟩)⟩
      by_cases z : j = i
      · subst z
        rw [get_set_eq hlt] at hj
        cases hj
      · rw [get_set_ne z] at hj
        exact z (S.sep j i a e' d hj e hs h4)
theorem ss_never {st : Stmt} : SS W sc .never st := ⟨tNever, fun X O => ps_never, fun {xp} c F r σ _ H nx rt dn S h hn hr => by
  unfold evS at h
  exact h⟩
theorem ss_raise0 (G : GOK W) {cn m : Str} {j : Nat} {p1 p2 p3 pos : Pos} (hn : cn ≠ "NoWish") (hx : cn ∈ W.G.ex) (hg : isGl sc cn = true) (ho : okNm cn = true) : SS W sc (.raise cn none) (.Raise (some (.Call (.Name cn p1) [.Constant (.str m) j p2] [] p3)) none pos) := by
  obtain ⟨v, hv⟩ := G.ex cn hx
  obtain ⟨C, rfl, mC, F, _, _, _, ex, kC, tC⟩ := G.cm cn v hv
  refine ⟨_, fun X O => ps_raise O.ok.calm O.ok.tk (pmk_own PySem.F.excBase_ValueError (by rw [O.ok.K]; exact ex hn) (by rw [O.ok.mg]; exact mC) (by rw [O.ok.K]; exact kC) (raises_own (by rw [O.ok.K]; exact F.bs) (by rw [O.ok.K]; exact tC)) (isGl_ok O.ok hg) (okNm_ok ho).1), fun {xp} c F r σ _ H nx rt dn S h _ _ => ?_⟩
  unfold evS at h
  exact XpOk.ok cn none F r H (.ref C) none h S hv rfl
theorem ss_raise1 (G : GOK W) {ir : E} {e : Expr} {p1 p3 pos : Pos} (hx : ("NoWish" : Str) ∈ W.G.ex) (hg : isGl sc "NoWish" = true) (hp : plainE e = true) (he : SE W sc ir e) : SS W sc (.raise "NoWish" (some ir)) (.Raise (some (.Call (.Name "NoWish" p1) [e] [] p3)) none pos) := by
  obtain ⟨v, hv⟩ := G.ex _ hx
  obtain ⟨C0, rfl, mC, F, _, _, _, _, _, _⟩ := G.cm _ v hv
  obtain ⟨C, fI, fd, e0, T, iC, tI, F1, b1⟩ := G.nw _ hv
  cases e0
  obtain ⟨te, a1, a2⟩ := he
  have pm : ∀ X, XSK W sc X → PMk X (.Call (.Name "NoWish" p1) [e] [] p3) (tMkO C0 (spNw W.K "number") [] (tCons te tNil)) := fun X O => by
    have F1' : FnOk X.prog X.w X.K X.mg X.base (L2.CX X.prog X.w) 1 fI fd ["self", "number"] (spNw W.K "number") := by rw [O.ok.pr, O.ok.w, O.ok.K, O.ok.mg, O.ok.base]; exact F1
    exact pmk_oex (by rw [O.ok.K]; exact T) (by rw [O.ok.K]; exact iC) (by rw [O.ok.K]; exact tI) F1' (by rw [O.ok.A]; exact G.room.mono (by omega)) (by rw [O.ok.K]; exact b1) .nil (fun _ _ _ _ _ _ _ h => by
      obtain ⟨_, _, _, _, _, _, _, _, _, _, _, _, z⟩ := h
      exact z.elim) (isGl_ok O.ok hg) (by rw [O.ok.mg]; exact mC) (pa_cons (a1 X O.ok).1 pa_nil (star1 hp)) (by decide) (star1 hp) (star_any (by rfl))
  refine ⟨_, fun X O => ps_raise O.ok.calm O.ok.tk (pm X O), fun {xp} c F r σ _ H nx rt dn S h _ _ => ?_⟩
  unfold evS at h
  refine a2 c F r σ H _ _ S h fun fl d r1 F1 H1 v1 q1 st1 S1 res => ?_
  split at q1
  · rename_i i
    cases res_int res
    refine ⟨(show 1 ≤ 1000 by decide), fun a ha => ?_⟩
    refine ⟨a, C0, .int i, rfl, T, ‹ExF W.K C0›.nn, upd_same, fun dx hd hne => ⟨rfl, dx, [(("number" : Str), .int i)], upd_same, by rw [upd_ne hne, upd_same], ?_, ?_⟩⟩
    · rw [upd_ne hne] at hd
      exact hd
    · have hd1 : H1 dx = none := by rw [upd_ne hne] at hd; exact hd
      have eH : upd (del (upd (upd (upd H1 a (exo a C0 none)) dx (exd dx [(("number" : Str), .int i)])) a (exo a C0 (some dx))) a) dx (.xd [(("number" : Str), .int i)]) = upd H1 dx (.xd [(("number" : Str), .int i)]) := by
        funext b
        by_cases hb : b = dx
        · rw [hb, upd_same, upd_same]
        · rw [upd_ne hb, upd_ne hb]
          by_cases hba : b = a
          · rw [hba, del_same, ha]
          · rw [del_ne hba, upd_ne hba, upd_ne hb, upd_ne hba]
      rw [eH]
      have sm := same_new (o := .xd [(("number" : Str), V.int i)]) hd1
      have S2 := S1.same sm
      have S3 := S2.addF (a := dx) ⟨_, upd_same⟩ (S1.h0 hd1) (fun z => by
        obtain ⟨_, _, _, e1, _⟩ := S1.pen
        rw [← z, hd1] at e1
        cases e1) (fun z => by
        obtain ⟨_, _, _, _, e1, _⟩ := S1.pen
        rw [← z, hd1] at e1
        cases e1) fun k e hk hs => by
          obtain ⟨b, q1, q2, _⟩ := S1.slot k _ hk
          rw [hs] at q1
          cases q1
          obtain ⟨_, _, _, z⟩ := q2.there
          rw [hd1] at z
          cases z
      exact XpOk.ok "NoWish" (some i) _ r1 _ (.ref C0) (some dx) q1 S3 hv ⟨dx, rfl, .inr rfl, upd_same⟩
  · exact q1.elim
theorem sb_nil : SB W sc .nil [] := ⟨tNext, fun X O => pss_nil, fun {xp} c F r σ _ H nx rt dn S h hn hr => by
  unfold evB at h
  exact hn _ _ _ _ h .refl S .refl⟩
theorem sb_cons {s : S} {b : B} {st : Stmt} {rest : List Stmt} (hs : SS W sc s st) (hb : SB W sc b rest) : SB W sc (.cons s b) (st :: rest) := by
  obtain ⟨ts, a1, a2⟩ := hs
  obtain ⟨tb, b1, b2⟩ := hb
  refine ⟨tSeq ts tb, fun X O => pss_cons (a1 X O) (b1 X O), fun {xp} c F r σ _ H nx rt dn S h hn hr => ?_⟩
  unfold evB at h
  refine a2 c F r σ H _ rt _ S h (fun r1 F1 σ1 H1 q st S1 fx1 => ?_) fun fl d r' F' σ' H' v z st' S' fx res => hr _ _ _ _ _ _ _ z st' S' fx.l res
  exact b2 c F1 r1 σ1 H1 nx rt dn S1 q (fun r' F' σ' H' z st' S' fx => hn _ _ _ _ z (st.trans st') S' (Fx.trans (Fx.l fx1) (Fx.r fx))) fun fl d r' F' σ' H' v z st' S' fx res => hr _ _ _ _ _ _ _ z (st.trans st') S' (Fx.trans (Fx.l fx1) (Fx.r fx)) res

theorem ss_retm {ir : E} {e : Expr} {pos : Pos} (hm : W.G.mu = true) (he : SE W sc ir e) : SS W sc (.retm ir) (.Return (some e) pos) := by
  obtain ⟨te, a1, a2⟩ := he
  refine ⟨tRet te, fun X O => ps_ret (a1 X O.ok).1, fun {xp} c F r σ _ H nx rt dn S h hn hr => ?_⟩
  unfold evS at h
  refine a2 c F r σ H _ _ S h fun fl d r' F' H' v q st S' res => ?_
  cases hk : dicAt r' 1 with
  | none => rw [hk] at q; exact q.elim
  | some kvs =>
    cases hx : owAt r' 3 with
    | none => rw [hk, hx] at q; exact q.elim
    | some xs =>
      rw [hk, hx] at q
      obtain ⟨F2, st2, S2, R2⟩ := S'.frz res
      exact hr _ _ _ _ _ _ _ q (st.trans st2) S2 .refl (.inr ⟨hm, d, kvs, xs, rfl, R2, dicAt_ok hk, owAt_ok hx⟩)
/-! ### told back: lists within are changed -/
section
variable {c : Ctx} {F F' : Addr → Prop} {r : Env} {σ : L2.St} {H H' : Hp}
def lessG (F G : Addr → Prop) : Addr → Prop := fun a => F a ∧ ¬ G a
/-- lists of the told thing are changed, nothing else -/
def SpG (G : Addr → Prop) (H H' : Hp) : Prop := ∀ a o, H a = some o → H' a = some o ∨ (G a ∧ ∃ us us', o = .lst us ∧ H' a = some (.lst us'))
theorem SpG.refl {G : Addr → Prop} {H : Hp} : SpG G H H := fun _ _ h => .inl h
theorem SpG.tups {G : Addr → Prop} (h : SpG G H H') {a : Addr} {xs : List V} (e : H a = some (.tup xs)) : H' a = some (.tup xs) := by
  rcases h a _ e with q | ⟨_, us, us', e1, _⟩
  · exact q
  · cases e1
theorem SpG.off {G : Addr → Prop} (h : SpG G H H') {a : Addr} {o : HO} (e : H a = some o) (n : ¬ G a) : H' a = some o := by
  rcases h a o e with q | ⟨g, _⟩
  · exact q
  · exact absurd g n
theorem SpG.lst {G : Addr → Prop} (h : SpG G H H') {a : Addr} {us : List V} (e : H a = some (.lst us)) : ∃ us', H' a = some (.lst us') := by
  rcases h a _ e with q | ⟨_, _, us', _, e2⟩
  · exact ⟨us, q⟩
  · exact ⟨us', e2⟩
theorem SpG.upd {G : Addr → Prop} (h : SpG G H H') {a : Addr} {us ws : List V} (g : G a) (e : H a = some (.lst us)) : SpG G H (upd H' a (.lst ws)) := fun b o eb => by
  by_cases z : b = a
  · subst z
    rw [e] at eb
    cases eb
    exact .inr ⟨g, us, ws, rfl, upd_same⟩
  · rw [upd_ne z]; exact h b o eb
theorem SpG.same {G : Addr → Prop} {H'' : Hp} (h : SpG G H H') (s : Same H' H'') : SpG G H H'' := fun a o e => by
  rcases h a o e with q | ⟨g, us, us', e1, e2⟩
  · exact .inl (s a o q)
  · exact .inr ⟨g, us, us', e1, s _ _ e2⟩
/-- what is known from the assignment on -/
structure TZ (c : Ctx) (F1 : Addr → Prop) (r1 : Env) (σ : L2.St) (H1 : Hp) (G : Addr → Prop) (i : Nat) (fl : Bool) (d : D) (v : V) (F3 : Addr → Prop) (r3 : Env) (H3 : Hp) : Prop where
  S1 : Sim c F1 r1 σ H1
  hi : i < r1.length
  hG : ∀ a, G a → NewG c F1 r1 σ H1 a
  st : Step (orF F1 G) H1 F3 H3
  S3 : Sim c F3 r3 (σ.set i (some v)) H3
  rep : fl = true → isTupD d = true → Rep c.p (orF F1 G) H1 d v
  at_ : fl = true → isTupD d = true → ∀ p ys, okP d p = true → atD d p = some (.lst ys) → ∃ a, atV H1 v p = some (.ref a) ∧ G a
theorem fin_get {i j : Nat} {r1 r : Env} {s : Sl} (h : (finE i r1 r)[j]? = some s) : s = .no ∨ j ≠ i ∧ ∃ s1 s2, r1[j]? = some s1 ∧ r[j]? = some s2 ∧ s = finS s1 s2 := by
  unfold finE at h
  by_cases z : j = i
  · subst z
    rw [get_set_eq (by have := lt_of_get h; rw [List.length_set] at this; exact this)] at h
    cases h
    exact .inl rfl
  · rw [get_set_ne z, List.getElem?_zipWith] at h
    cases e1 : r1[j]? with
    | none => rw [e1] at h; cases h
    | some s1 =>
      cases e2 : r[j]? with
      | none => rw [e1, e2] at h; cases h
      | some s2 =>
        rw [e1, e2] at h
        cases h
        exact .inr ⟨z, s1, s2, rfl, rfl, rfl⟩
theorem finS_cases {s1 s2 : Sl} : finS s1 s2 = .no ∨ (∃ d, s1 = .sh d ∧ finS s1 s2 = .sh d) ∨ (∃ xs ys, s1 = .ow (.lst xs) ∧ s2 = .sh (.lst ys) ∧ noLsts ys = true ∧ finS s1 s2 = .sh (.lst ys)) ∨ ∃ xs ys, s1 = .ow (.lst xs) ∧ s2 = .ow (.lst ys) ∧ noLsts ys = true ∧ finS s1 s2 = .ow (.lst ys) := by
  cases s1 with
  | no => exact .inl rfl
  | sh d => exact .inr (.inl ⟨d, rfl, rfl⟩)
  | ow d =>
    cases d <;> first
      | exact .inl rfl
      | skip
    rename_i xs
    cases s2 with
    | no => exact .inl rfl
    | sh e =>
      cases e <;> first
        | exact .inl rfl
        | skip
      rename_i ys
      cases h : noLsts ys with
      | true => exact .inr (.inr (.inl ⟨xs, ys, rfl, rfl, h, by show (if noLsts ys = true then Sl.sh (.lst ys) else .no) = _; rw [h, if_pos rfl]⟩))
      | false => exact .inl (by show (if noLsts ys = true then Sl.sh (.lst ys) else .no) = _; rw [h, if_neg Bool.false_ne_true])
    | ow e =>
      cases e <;> first
        | exact .inl rfl
        | skip
      rename_i ys
      cases h : noLsts ys with
      | true => exact .inr (.inr (.inr ⟨xs, ys, rfl, rfl, h, by show (if noLsts ys = true then Sl.ow (.lst ys) else .no) = _; rw [h, if_pos rfl]⟩))
      | false => exact .inl (by show (if noLsts ys = true then Sl.ow (.lst ys) else .no) = _; rw [h, if_neg Bool.false_ne_true])
theorem TZ.fin {F1 F3 G : Addr → Prop} {r1 r3 : Env} {H1 H3 : Hp} {i : Nat} {fl : Bool} {d : D} {v : V} (T : TZ c F1 r1 σ H1 G i fl d v F3 r3 H3) (sp : SpG G H3 H') :
    Step F1 H1 (lessG F3 G) H' ∧ Sim c (lessG F3 G) (finE i r1 r3) (σ.set i (some v)) H' := by
  have off1 : ∀ a, F1 a → ¬ G a := fun a f g => (T.hG a g).1 f
  have st1 : Step F1 H1 F3 H3 := step_orF.trans T.st
  have st : Step F1 H1 (lessG F3 G) H' := by
    refine ⟨fun a f => ⟨T.st.mono a (.inl f), off1 a f⟩, fun a o f e => ?_, fun a xs e => sp.tups (T.st.tups a xs e)⟩
    obtain ⟨o', e', l⟩ := T.st.keep a o (.inl f) e
    exact ⟨o', sp.off e' (off1 a f), l⟩
  refine ⟨st, ?_⟩
  have l3 : r3.length = r1.length := by rw [T.S3.len, List.length_set, T.S1.len]
  have sett : ∀ {j : Nat}, j ≠ i → (σ.set i (some v))[j]? = σ[j]? := fun h => get_set_ne h
  -- the lists that names hold are none of the told ones
  have own : ∀ {j : Nat} {e : D} {b : Addr}, r1[j]? = some (.ow e) → σ[j]? = some (some (.ref b)) → ¬ G b := fun {j e b} h1 h2 g => (T.hG b g).2.2.2.2.2 j e h1 h2
  have frm : ∀ a o, H3 a = some o → ¬ G a → H' a = some o := fun a o e n => sp.off e n
  have st0 : Step (fun _ => False) H3 (lessG F3 G) H' := ⟨fun _ h => h.elim, fun _ _ h => h.elim, fun a xs e => sp.tups e⟩
  refine { len := ?_, slot := fun j s e => ?_, sep := fun j k a d1 e1 hj hk sj sk => ?_, frame := fun a o e n => ?_, fr0 := fun a f => ⟨T.S3.fr0 a f, off1 a (T.S1.fr0 a f)⟩, fnew := fun a f => T.S3.fnew a f.1, ftrk := fun a f => ?_, pen := ?_, npF := ⟨fun f => T.S3.npF.1 f.1, fun f => T.S3.npF.2 f.1⟩ }
  · unfold finE
    rw [List.length_set, List.length_zipWith, List.length_set, l3, Nat.min_self, T.S1.len]
  · rcases fin_get e with rfl | ⟨hne, s1, s2, g1, g2, rfl⟩
    · trivial
    · rw [sett hne]
      rcases finS_cases (s1 := s1) (s2 := s2) with q | ⟨d1, rfl, q⟩ | ⟨xs, ys, rfl, rfl, nl, q⟩ | ⟨xs, ys, rfl, rfl, nl, q⟩
      · rw [q]; trivial
      · rw [q]
        obtain ⟨w, h1, h2⟩ := T.S1.slot j _ g1
        exact ⟨w, h1, Rep.step st _ _ h2⟩
      · rw [q]
        obtain ⟨b, h1, _⟩ := T.S1.slot j _ g1
        obtain ⟨w, h2, a, vs, rfl, fa, ha, la, ra⟩ := T.S3.slot j _ g2
        rw [sett hne, h1] at h2
        cases h2
        have nb := own g1 h1
        exact ⟨.ref b, h1, b, vs, rfl, ⟨fa, nb⟩, frm b _ ha nb, la, Reps.step st0 _ _ (Reps.noL ys vs nl ra)⟩
      · rw [q]
        obtain ⟨b, h1, _⟩ := T.S1.slot j _ g1
        obtain ⟨b', h2, ⟨vs, ha, la, ra⟩, nf, h0, np, nc⟩ := T.S3.slot j _ g2
        rw [sett hne, h1] at h2
        cases h2
        have nb := own g1 h1
        exact ⟨b, h1, ⟨vs, frm b _ ha nb, la, Reps.step st0 _ _ (Reps.noL ys vs nl ra)⟩, fun f => nf f.1, h0, np, nc⟩
  · have ow : ∀ {j : Nat} {d1 : D}, (finE i r1 r3)[j]? = some (.ow d1) → ∃ e1, r3[j]? = some (.ow e1) := fun {j d1} h => by
      rcases fin_get h with z | ⟨_, s1, s2, g1, g2, z⟩
      · cases z
      · rcases finS_cases (s1 := s1) (s2 := s2) with q | ⟨_, _, q⟩ | ⟨_, _, _, _, _, q⟩ | ⟨_, ys, _, rfl, _, q⟩
        · rw [q] at z; cases z
        · rw [q] at z; cases z
        · rw [q] at z; cases z
        · exact ⟨_, g2⟩
    obtain ⟨_, h1⟩ := ow hj
    obtain ⟨_, h2⟩ := ow hk
    exact T.S3.sep j k a _ _ h1 h2 sj sk
  · obtain ⟨o', e1, l, k⟩ := T.S3.frame a o e n
    exact ⟨o', frm a _ e1 (fun g => by have z := (T.hG a g).2.1; rw [e] at z; cases z), l, k⟩
  · obtain ⟨o, e⟩ := T.S3.ftrk a f.1
    exact ⟨o, frm a _ e f.2⟩
  · obtain ⟨cells, at_, s_, e1, e2, e3⟩ := T.S3.pen
    exact ⟨cells, at_, s_, frm _ _ e1 (fun g => (T.hG _ g).2.2.1 rfl), frm _ _ e2 (fun g => (T.hG _ g).2.2.2.1 rfl), e3⟩
/-- a told list stands there -/
theorem TZ.at_lst {F1 F3 G : Addr → Prop} {r1 r3 : Env} {H1 H3 : Hp} {i : Nat} {fl : Bool} {d : D} {v : V} (T : TZ c F1 r1 σ H1 G i fl d v F3 r3 H3) (sp : SpG G H3 H') (h1 : fl = true) (h2 : isTupD d = true) {p : List Nat} (hp : okP d p = true) {ys : List D} (hy : atD d p = some (.lst ys)) :
    ∃ a us us3, atV H' v p = some (.ref a) ∧ G a ∧ H3 a = some (.lst us3) ∧ H' a = some (.lst us) ∧ us3.length = ys.length := by
  obtain ⟨a, e1, g⟩ := T.at_ h1 h2 p ys hp hy
  obtain ⟨w, e2, b, vs, rfl, _, hb, _, rs⟩ := rep_at (T.rep h1 h2) hy
  rw [e1] at e2
  cases e2
  have h3 := T.st.lst (.inr g) hb
  obtain ⟨us, e4⟩ := sp.lst h3
  exact ⟨a, us, vs, atV_tups (fun b xs e => sp.tups (T.st.tups b xs e)) e1, g, h3, e4, rs.length⟩
theorem TZ.at_str {F1 F3 G : Addr → Prop} {r1 r3 : Env} {H1 H3 : Hp} {i : Nat} {fl : Bool} {d : D} {v : V} (T : TZ c F1 r1 σ H1 G i fl d v F3 r3 H3) (sp : SpG G H3 H') (h1 : fl = true) (h2 : isTupD d = true) {p : List Nat} {s : Str} (hy : atD d p = some (.str s)) : atV H' v p = some (.str s) := by
  obtain ⟨w, e2, e3⟩ := rep_at (T.rep h1 h2) hy
  cases (show w = .str s from e3)
  exact atV_tups (fun b xs e => sp.tups (T.st.tups b xs e)) e2
end
/-- a path, read -/
def tPth (K : PySem.W.Frag) (i : Nat) : List Nat → TE
  | [] => tVar i
  | k :: p => tOp (rIx K) (tPth K i p) (tC (.int (k : Nat)))
theorem tPth_ok {K : PySem.W.Frag} {i : Nat} {v : V} {σ : L2.St} {H : Hp} (hi : σ[i]? = some (some v)) : ∀ {p : List Nat} {w : V} {Q : VK}, atV H v p = some w → Q w H → tPth K i p σ H Q
  | [], w, Q, e, h => by cases e; exact ⟨_, hi, h⟩
  | k :: p, w, Q, e, h => by
    obtain ⟨t, xs, e1, e2, e3⟩ := atV_cons e
    show tPth K i p σ H (fun x H1 => tC (.int ((k : Nat) : Int)) σ H1 fun y H2 => rIx K x y H2 Q)
    refine tPth_ok (p := p) hi e1 ?_
    have e4 : L2.atI xs ((k : Nat) : Int) = some w := by
      have hk := lt_of_get e3
      unfold L2.atI L2.ixN
      rw [if_pos (by omega), if_pos (by omega)]
      exact e3
    exact .inr (.inl ⟨t, xs, (k : Nat), w, rfl, rfl, SqT.of e2, e4, h⟩)
def chPth (y : Str) : List Nat → Expr → Bool
  | [], .Name z _ => decide (z = y)
  | k :: p, .Subscript e (.Constant (.int j) _ _) _ => decide (j = ((k : Nat) : Int)) && chPth y p e
  | _, _ => false
theorem pe_pth {sc : Scope} {i : Nat} {y : Str} (h1 : W.N[i]? = some y) (h2 : isVis sc y = true) (h3 : okNm y = true) : ∀ {p : List Nat} {e : Expr}, chPth y p e = true → ∀ X, XOK W sc X → PE X e (tPth W.K i p)
  | [], e, h, X, O => by
    obtain ⟨g1, g2, _⟩ := okNm_ok h3
    cases e <;> first | (exact absurd h Bool.false_ne_true) | skip
    rename_i z p1
    cases of_decide_eq_true (show decide (z = y) = true from h)
    exact pe_var (by rw [O.N]; exact h1) (by rw [O.sc]; exact isVis_ok h2) g1 g2
  | k :: p, e, h, X, O => by
    cases e <;> first | (exact absurd h Bool.false_ne_true) | skip
    rename_i o ix p1
    cases ix <;> first | (exact absurd h Bool.false_ne_true) | skip
    rename_i kc j p2
    cases kc <;> first | (exact absurd h Bool.false_ne_true) | skip
    rename_i m
    have hh : (decide (m = ((k : Nat) : Int)) && chPth y p o) = true := h
    rw [Bool.and_eq_true, decide_eq_true_eq] at hh
    obtain ⟨hm, hq⟩ := hh
    subst hm
    exact pe_ix (by rw [← O.K]; exact ix_seq) (pe_pth (p := p) (e := o) h1 h2 h3 hq X O) pe_int (plainIx rfl)
theorem att_pth {y m : Str} {p : List Nat} {e : Expr} (h : chPth y p e = true) (env : PySem.Env) (x : Sem Value) : attributeBase e m env x = x := by
  cases p <;> cases e <;> first
    | exact absurd h Bool.false_ne_true
    | rfl
def isStrC (w : Str) : Expr → Bool
  | .Constant (.str s) _ _ => decide (s = w)
  | _ => false
theorem isStrC_ok {w : Str} {e : Expr} (h : isStrC w e = true) : ∀ X, PE X e (tC (.str w)) := fun X => by
  cases e <;> first | (exact absurd h Bool.false_ne_true) | skip
  rename_i kc j p
  cases kc <;> first | (exact absurd h Bool.false_ne_true) | skip
  rename_i s
  have hs := of_decide_eq_true (show decide (s = w) = true from h)
  subst hs
  obtain ⟨v, h1, h2⟩ := cst_ok (d := .str s) (k := .str s) (c := ⟨0, 0, fun _ => False, fun _ => none⟩) (F := fun _ => False) (H := fun _ => none) (decide_eq_true rfl) (j := j) (pos := p)
  have h2' : v = .str s := h2 0 (fun _ => False) (fun _ => none)
  subst h2'
  exact h1 X
def chZ2 (y : Str) : Z2 → List Stmt → Bool
  | .done, [] => true
  | .clr p k, .Expr (.Call (.Attribute e m p2) [] [] p3) _ :: rest => decide (m = ("clear" : Str)) && (p2.endLine == p3.line) && chPth y p e && chZ2 y k rest
  | .ifw p w a k, .If (.Compare e [op] [x] _) body [] _ :: rest => isStrC w x && cmpIs .eq op && !(behindInMarks op x) && chPth y p e && chZ2 y a body && chZ2 y k rest
  | _, _ => false
def chZ1 (G : SG) (N : List Str) (sc : Scope) (y : Str) : Z1 → List Stmt → Bool
  | .stop, [] => true
  | .go z, sts => chZ2 y z sts
  | .goapp p e, .Expr (.Call (.Attribute x m p2) [a] [] p3) _ :: rest => rest.isEmpty && decide (m = ("append" : Str)) && plainE a && (p2.endLine == p3.line) && chPth y p x && chE G N sc e a
  | .chk t z, .If e [.Return (some (.Constant (.bool false) _ _)) _] [] _ :: rest => chT G N sc t e && chZ1 G N sc y z rest
  | .ift t z, .If e body [] _ :: rest => rest.isEmpty && chT G N sc t e && chZ1 G N sc y z body
  | _, _ => false
def SemZ2 (W : Wd) (i : Nat) (z : Z2) (t : TS) : Prop := ∀ {c : Ctx} {F1 : Addr → Prop} {r1 : Env} {σ : L2.St} {H1 : Hp} {G : Addr → Prop} {fl : Bool} {d : D} {v : V} {F3 : Addr → Prop} {r3 : Env} {H3 : Hp}, TZ c F1 r1 σ H1 G i fl d v F3 r3 H3 → fl = true → isTupD d = true →
  ∀ (H : Hp), SpG G H3 H → evZ2 z d → ∀ dn : Ends, (∀ H', SpG G H3 H' → dn.nx (σ.set i (some v)) H') → t dn (σ.set i (some v)) H
theorem sz2 (G : GOK W) {i : Nat} {y : Str} (h1 : W.N[i]? = some y) (h2 : isVis sc y = true) (h3 : okNm y = true) : ∀ (z : Z2) (sts : List Stmt), chZ2 y z sts = true → ∃ t : TS, (∀ X, XSK W sc X → PSs X sts t) ∧ SemZ2 W i z t
  | .done, sts, h => by
    cases sts <;> first | (exact absurd h Bool.false_ne_true) | skip
    exact ⟨tNext, fun X O => pss_nil, fun T _ _ H sp _ dn hn => hn H sp⟩
  | .clr p k, sts, h => by
    cases sts <;> first | (exact absurd h Bool.false_ne_true) | skip
    rename_i st rest
    cases st <;> first | (exact absurd h Bool.false_ne_true) | skip
    rename_i x pos
    cases x <;> first | (exact absurd h Bool.false_ne_true) | skip
    rename_i fn args kws p3
    cases fn <;> first | (exact absurd h Bool.false_ne_true) | skip
    rename_i e m p2
    cases args <;> first | (exact absurd h Bool.false_ne_true) | skip
    cases kws <;> first | (exact absurd h Bool.false_ne_true) | skip
    simp only [chZ2, Bool.and_eq_true, decide_eq_true_eq] at h
    obtain ⟨⟨⟨rfl, hl⟩, hp⟩, hk⟩ := h
    obtain ⟨tk, b1, b2⟩ := sz2 G h1 h2 h3 k rest hk
    refine ⟨tSeq (tDrop (tBM0 W.K "list" rClear (tPth W.K i p))) tk, fun X O => pss_cons ?_ (b1 X O), fun {c F1 r1 σ H1 G fl d v F3 r3 H3} T f1 f2 H sp ev dn hn => ?_⟩
    · have pp := pe_pth (sc := sc) h1 h2 h3 hp X O.ok
      rw [← O.ok.K] at pp ⊢
      exact ps_expr (pe_bm0 PySem.F.plainAttrs_list PySem.F.slot_list_clear PySem.F.type_list_clear mt_clear pp (att_pth hp _ _) hl) rfl
    · obtain ⟨o1, o2, o3⟩ := ev
      cases hy : atD d p with
      | none => rw [hy] at o2; cases o2
      | some e =>
        rw [hy] at o2
        cases e <;> first | (exact absurd o2 Bool.false_ne_true) | skip
        rename_i ys
        obtain ⟨a, us, us3, e1, g, e3, e4, _⟩ := T.at_lst sp f1 f2 o1 hy
        have hs : i < σ.length := by rw [← T.S1.len]; exact T.hi
        refine tPth_ok (get_set_eq hs) e1 ⟨tyV_list e4, a, us, rfl, rfl, e4, ?_⟩
        exact b2 T f1 f2 _ (sp.upd g e3) o3 dn hn
  | .ifw p w a k, sts, h => by
    cases sts <;> first | (exact absurd h Bool.false_ne_true) | skip
    rename_i st rest
    cases st <;> first | (exact absurd h Bool.false_ne_true) | skip
    rename_i x body els pos
    cases x <;> first | (exact absurd h Bool.false_ne_true) | skip
    rename_i e ops xs p2
    cases ops <;> first | (exact absurd h Bool.false_ne_true) | skip
    rename_i op ops
    cases ops <;> first | (exact absurd h Bool.false_ne_true) | skip
    cases xs <;> first | (exact absurd h Bool.false_ne_true) | skip
    rename_i x xs
    cases xs <;> first | (exact absurd h Bool.false_ne_true) | skip
    cases els <;> first | (exact absurd h Bool.false_ne_true) | skip
    simp only [chZ2, Bool.and_eq_true, decide_eq_true_eq, Bool.not_eq_true'] at h
    obtain ⟨⟨⟨⟨⟨hw, ho⟩, hm⟩, hp⟩, ha⟩, hk⟩ := h
    obtain ⟨tk, b1, b2⟩ := sz2 G h1 h2 h3 k rest hk
    obtain ⟨ta, a1, a2⟩ := sz2 G h1 h2 h3 a body ha
    obtain ⟨r, kr, o⟩ := cmp_rule (sc := sc) G ho
    refine ⟨tSeq (tIfS (tTest (tOp r (tPth W.K i p) (tC (.str w)))) ta tNext) tk, fun X O => pss_cons (ps_if (pt_cmpR (o X O.ok) (pe_pth (sc := sc) h1 h2 h3 hp X O.ok) (isStrC_ok hw X) hm) (a1 X O) pss_nil) (b1 X O), fun {c F1 r1 σ H1 G fl d v F3 r3 H3} T f1 f2 H sp ev dn hn => ?_⟩
    obtain ⟨o1, o2⟩ := ev
    cases hy : atD d p with
    | none => rw [hy] at o1; exact o1.elim
    | some e =>
      rw [hy] at o1
      cases e <;> first | (exact o1.elim) | skip
      rename_i s
      obtain ⟨b, pe, q⟩ := o1
      have e1 := T.at_str sp f1 f2 hy
      have hs : i < σ.length := by rw [← T.S1.len]; exact T.hi
      refine tPth_ok (get_set_eq hs) e1 ?_
      refine kr (p := c.p) (F := F3) (H := H) (d := .str s) (e := .str w) (show V.str s = V.str s from rfl) (show V.str w = V.str w from rfl) pe fun v' H' sm gv => ?_
      have gv : v' = .bl b := gv
      refine ⟨b, gv, ?_⟩
      have sp' := sp.same sm
      cases b with
      | true =>
        show ta { dn with nx := tk dn } (σ.set i (some v)) H'
        exact a2 T f1 f2 H' sp' (q rfl) _ fun H4 sp4 => b2 T f1 f2 H4 sp4 o2 dn hn
      | false =>
        show tk dn (σ.set i (some v)) H'
        exact b2 T f1 f2 H' sp' o2 dn hn
theorem TZ.next {c : Ctx} {F1 F3 F4 G : Addr → Prop} {r1 r3 r4 : Env} {σ : L2.St} {H1 H3 H4 : Hp} {i : Nat} {fl : Bool} {d : D} {v : V} (T : TZ c F1 r1 σ H1 G i fl d v F3 r3 H3) (st : Step F3 H3 F4 H4) (S : Sim c F4 r4 (σ.set i (some v)) H4) : TZ c F1 r1 σ H1 G i fl d v F4 r4 H4 :=
  ⟨T.S1, T.hi, T.hG, T.st.trans st, S, T.rep, T.at_⟩
def SemZ1 (W : Wd) (i : Nat) (z : Z1) (t : TS) : Prop := ∀ {xp : D → Env → Prop} {c : Ctx} {F1 : Addr → Prop} {r1 : Env} {σ : L2.St} [∀ σ, XpOk W xp c σ] {H1 : Hp} {G : Addr → Prop} {fl : Bool} {d : D} {v : V} {F3 : Addr → Prop} {r3 : Env} {H3 : Hp}, TZ c F1 r1 σ H1 G i fl d v F3 r3 H3 →
  ∀ (nx : Env → Prop) (rt : Bool → D → Env → Prop) (dn : Ends), evZ1 W.cl xp i fl d r1 z r3 nx rt →
  (∀ r' F' σ' H', nx r' → Step F1 H1 F' H' → Sim c F' r' σ' H' → Fx [i] σ σ' → dn.nx σ' H') →
  (∀ fl d r' F' σ' H' v, rt fl d r' → Step F1 H1 F' H' → Sim c F' r' σ' H' → Fx [i] σ σ' → ResR W c F' r' σ' H' fl d v → dn.rt v H') → t dn (σ.set i (some v)) H3
theorem sz1 (G : GOK W) (hm : W.G.mu = false) {i : Nat} {y : Str} (h1 : W.N[i]? = some y) (h2 : isVis sc y = true) (h3 : okNm y = true) : ∀ (z : Z1) (sts : List Stmt), chZ1 W.G W.N sc y z sts = true → ∃ t : TS, (∀ X, XSK W sc X → PSs X sts t) ∧ SemZ1 W i z t
  | .stop, sts, h => by
    cases sts <;> first | (exact absurd h Bool.false_ne_true) | skip
    refine ⟨tNext, fun X O => pss_nil, fun {xp c F1 r1 σ _ H1 Gs fl d v F3 r3 H3} T nx rt dn ev hn hr => ?_⟩
    obtain ⟨a1, a2⟩ := T.fin .refl
    exact hn _ _ _ _ ev a1 a2 fx_set
  | .go z, sts, h => by
    obtain ⟨t, b1, b2⟩ := sz2 (sc := sc) G h1 h2 h3 z sts h
    refine ⟨t, b1, fun {xp c F1 r1 σ _ H1 Gs fl d v F3 r3 H3} T nx rt dn ev hn hr => ?_⟩
    obtain ⟨⟨f1, f2, ez⟩, ev⟩ := ev
    refine b2 T f1 f2 H3 .refl ez dn fun H' sp => ?_
    obtain ⟨a1, a2⟩ := T.fin sp
    exact hn _ _ _ _ ev a1 a2 fx_set
  | .goapp p e, sts, h => by
    cases sts <;> first | (exact absurd h Bool.false_ne_true) | skip
    rename_i st rest
    cases st <;> first | (exact absurd h Bool.false_ne_true) | skip
    rename_i x pos
    cases x <;> first | (exact absurd h Bool.false_ne_true) | skip
    rename_i fn args kws p3
    cases fn <;> first | (exact absurd h Bool.false_ne_true) | skip
    rename_i o m p2
    cases args <;> first | (exact absurd h Bool.false_ne_true) | skip
    rename_i a args
    cases args <;> first | (exact absurd h Bool.false_ne_true) | skip
    cases kws <;> first | (exact absurd h Bool.false_ne_true) | skip
    simp only [chZ1, Bool.and_eq_true, decide_eq_true_eq] at h
    obtain ⟨⟨⟨⟨⟨hr0, rfl⟩, pl⟩, hl⟩, hp⟩, he⟩ := h
    cases List.isEmpty_iff.mp hr0
    obtain ⟨te, a1, a2⟩ := sndE e W G sc a he
    refine ⟨tSeq (tDrop (tBM W.K "list" rAppend (tPth W.K i p) (tCons te tNil))) tNext, fun X O => pss_cons ?_ pss_nil, fun {xp c F1 r1 σ _ H1 Gs fl d v F3 r3 H3} T nx rt dn ev hn hr => ?_⟩
    · have pp := pe_pth (sc := sc) h1 h2 h3 hp X O.ok
      rw [← O.ok.K] at pp ⊢
      exact ps_expr (pe_bm PySem.F.plainAttrs_list PySem.F.slot_list_append PySem.F.type_list_append mt_append pp (pa_cons (a1 X O.ok).1 pa_nil (star1 pl)) (att_pth hp _ _) (by rw [star1 pl]; rfl) hl (star1 pl) rfl) rfl
    · obtain ⟨⟨f1, f2, f3, f4⟩, ev⟩ := ev
      cases hy : atD d p with
      | none => rw [hy] at f4; exact f4.elim
      | some e0 =>
        rw [hy] at f4
        cases e0 <;> first | (exact f4.elim) | skip
        rename_i ys
        have hs : i < σ.length := by rw [← T.S1.len]; exact T.hi
        obtain ⟨b, us, us3, e1, g, e3, e4, el⟩ := T.at_lst .refl f1 f2 f3 hy
        refine tPth_ok (get_set_eq hs) e1 ⟨tyV_list e4, ?_⟩
        refine a2 c F3 r3 _ H3 _ _ T.S3 ev fun fl4 d4 r4 F4 H4 v4 q st4 S4 res => ?_
        obtain ⟨F5, st5, S5, _⟩ := S4.frz res
        have T5 := T.next (st4.trans st5) S5
        have h5 := (st4.trans st5).lst (T.st.mono _ (.inr g)) e4
        rw [e3] at e4
        cases e4
        refine ⟨b, us, v4, rfl, rfl, h5, by rw [el, sizeLine_eq]; exact f4, ?_⟩
        obtain ⟨z1, z2⟩ := T5.fin (SpG.refl.upd g h5)
        exact hn _ _ _ _ q z1 z2 fx_set
  | .chk t z, sts, h => by
    cases sts <;> first | (exact absurd h Bool.false_ne_true) | skip
    rename_i st rest
    cases st <;> first | (exact absurd h Bool.false_ne_true) | skip
    rename_i e bd els pos
    cases bd <;> first | (exact absurd h Bool.false_ne_true) | skip
    rename_i s1 bd
    cases s1 <;> first | (exact absurd h Bool.false_ne_true) | skip
    rename_i ro q2
    cases ro <;> first | (exact absurd h Bool.false_ne_true) | skip
    rename_i rc
    cases rc <;> first | (exact absurd h Bool.false_ne_true) | skip
    rename_i kc j1 q1
    cases kc <;> first | (exact absurd h Bool.false_ne_true) | skip
    rename_i bc
    cases bc <;> first | (exact absurd h Bool.false_ne_true) | skip
    cases bd <;> first | (exact absurd h Bool.false_ne_true) | skip
    cases els <;> first | (exact absurd h Bool.false_ne_true) | skip
    simp only [chZ1, Bool.and_eq_true] at h
    obtain ⟨tt, u1, u2⟩ := sndT t W G sc e h.1
    obtain ⟨tk, b1, b2⟩ := sz1 G hm h1 h2 h3 z rest h.2
    refine ⟨tSeq (tIfS tt (tSeq (tRet (tC (.bl false))) tNext) tNext) tk, fun X O => pss_cons (ps_if (u1 X O.ok).1 (pss_cons (ps_ret pe_bl) pss_nil) pss_nil) (b1 X O), fun {xp c F1 r1 σ _ H1 Gs fl d v F3 r3 H3} T nx rt dn ev hn hr => ?_⟩
    refine u2 c F3 r3 _ H3 _ _ T.S3 ev fun k r4 F4 H4 q st4 S4 => ?_
    cases k with
    | true =>
      rw [if_pos rfl] at q ⊢
      exact hr _ _ _ _ _ _ _ q ((step_orF.trans T.st).trans st4) S4 fx_set (.inl ⟨hm, rfl⟩)
    | false =>
      rw [if_neg Bool.false_ne_true] at q ⊢
      exact b2 (T.next st4 S4) nx rt dn q hn hr
  | .ift t z, sts, h => by
    cases sts <;> first | (exact absurd h Bool.false_ne_true) | skip
    rename_i st rest
    cases st <;> first | (exact absurd h Bool.false_ne_true) | skip
    rename_i e bd els pos
    cases els <;> first | (exact absurd h Bool.false_ne_true) | skip
    simp only [chZ1, Bool.and_eq_true] at h
    cases List.isEmpty_iff.mp h.1.1
    obtain ⟨tt, u1, u2⟩ := sndT t W G sc e h.1.2
    obtain ⟨tk, b1, b2⟩ := sz1 G hm h1 h2 h3 z bd h.2
    refine ⟨tSeq (tIfS tt tk tNext) tNext, fun X O => pss_cons (ps_if (u1 X O.ok).1 (b1 X O) pss_nil) pss_nil, fun {xp c F1 r1 σ _ H1 Gs fl d v F3 r3 H3} T nx rt dn ev hn hr => ?_⟩
    refine u2 c F3 r3 _ H3 _ _ T.S3 ev fun k r4 F4 H4 q st4 S4 => ?_
    have T4 := T.next st4 S4
    cases k with
    | true =>
      rw [if_pos rfl] at q ⊢
      exact b2 T4 nx rt _ q hn hr
    | false =>
      rw [if_neg Bool.false_ne_true] at q ⊢
      obtain ⟨z1, z2⟩ := T4.fin .refl
      exact hn _ _ _ _ q z1 z2 fx_set
theorem sb_tells (G : GOK W) {i : Nat} {ir : E} {z : Z1} {y : Str} {e : Expr} {rest : List Stmt} {py p0 : Pos} (h1 : W.N[i]? = some y) (h2 : isLc sc y = true) (h3 : ∀ env, swapsWith e (some (.Name y py)) p0.line env = pure false) (he : SE W sc ir e)
    (hz : ∃ t : TS, (∀ X, XSK W sc X → PSs X rest t) ∧ SemZ1 W i z t) : SB W sc (.tells i ir z) (.Assign [.Name y py] e p0 :: rest) := by
  obtain ⟨te, a1, a2⟩ := he
  obtain ⟨tz, b1, b2⟩ := hz
  refine ⟨tSeq (tAsg te (gName i)) tz, fun X O => pss_cons (ps_set (by rw [O.ok.N]; exact G.nd) (by rw [O.ok.N]; exact h1) (by rw [O.ok.sc]; exact isLc_ok h2) (a1 X O.ok).1 (h3 _) (.inl (by rw [O.fn]))) (b1 X O), fun {xp} c F r σ _ H nx rt dn S h hn hr => ?_⟩
  unfold evB at h
  refine a2 c F r σ H _ _ S h fun fl d r1 F1 H1 v q st1 S1 res => ?_
  obtain ⟨hi, q⟩ := q
  have hs : i < σ.length := by rw [← S1.len]; exact hi
  have key : ∃ (F2 G : Addr → Prop), Step (orF F1 G) H1 F2 H1 ∧ Sim c F2 r1 σ H1 ∧ Rep c.p F2 H1 d v ∧ (∀ a, G a → NewG c F1 r1 σ H1 a) ∧ (fl = true → isTupD d = true → Rep c.p (orF F1 G) H1 d v) ∧ (fl = true → isTupD d = true → ∀ p ys, okP d p = true → atD d p = some (.lst ys) → ∃ a, atV H1 v p = some (.ref a) ∧ G a) := by
    cases fl with
    | false => exact ⟨F1, fun _ => False, ⟨fun a h => h.elim id fun z => z.elim, fun _ o _ h => ⟨o, h, .refl o⟩, fun _ _ h => h⟩, S1, res, fun a h => h.elim, (fun z => by cases z), fun z => by cases z⟩
    | true =>
      rcases res with h | ⟨ds, G, rfl, hG, R, hat⟩
      · obtain ⟨F2, st, S2, R⟩ := S1.frz (fl := true) (.inl h)
        have nt : isTupD d = false := by
          obtain ⟨a, _, o, _⟩ := h
          obtain ⟨_, hd, _⟩ := o.there
          cases d <;> first
            | rfl
            | (cases hd; done)
        exact ⟨F2, fun _ => False, ⟨fun a h => h.elim (st.mono a) fun z => z.elim, fun a o h e => h.elim (fun z => st.keep a o z e) fun z => z.elim, st.tups⟩, S2, R, fun a h => h.elim, (fun _ z => by rw [nt] at z; cases z), fun _ z => by rw [nt] at z; cases z⟩
      · exact ⟨orF F1 G, G, .refl, S1.addG hG, R, hG, fun _ _ => R, fun _ _ => hat⟩
  obtain ⟨F2, Gs, st2, S2, R2, hG, hrep, hat⟩ := key
  have S2' : Sim c F2 (r1.set i (.sh d)) (σ.set i (some v)) H1 := S2.reslot (by rw [List.length_set]) (fun j hj => get_set_ne hj) (s := .sh d) ⟨v, get_set_eq hs, R2⟩ fun d e => by cases e
  exact b2 ⟨S1, hi, hG, st2, S2', hrep, hat⟩ nx rt dn q (fun r' F' σ' H' q' st' S' fx => hn _ _ _ _ q' (st1.trans st') S' fx) fun fl d r' F' σ' H' v q' st' S' fx res => hr _ _ _ _ _ _ _ q' (st1.trans st') S' fx res

/-! ### looks at statements -/
def noComp : Expr → Bool
  | .ListComp _ _ _ _ => false
  | .SetComp _ _ _ _ => false
  | .DictComp _ _ _ _ _ => false
  | _ => true
def notTup : Expr → Bool
  | .Tuple _ _ _ => false
  | _ => true
def isTup : Expr → Bool
  | .Tuple _ _ _ => true
  | _ => false
def isFun (sc : Scope) : Bool := match sc.kind with
  | .function => true
  | _ => false
def isLo (sc : Scope) (x : Str) : Bool := match sc.names.lookup x with
  | some .local => true
  | _ => false
def isCe (sc : Scope) (x : Str) : Bool := match sc.names.lookup x with
  | some .cell => true
  | _ => false
theorem isCe_ok {x : Str} (h : isCe sc x = true) : sc.names.lookup x = some .cell := by
  unfold isCe at h
  split at h
  · assumption
  · cases h
theorem cell_sw {e : Expr} {y : Str} {py : Pos} {l : Nat} {env : PySem.Env} (h : env.scope.names.lookup y = some .cell) : swapsWith e (some (.Name y py)) l env = pure false := by
  have hk : env.kindOf y = some .cell := h
  have h2 : (env.kindOf y == some NameKind.local) = false := by rw [hk]; rfl
  cases e <;> first
    | rfl
    | (show (pure (env.blockKind == .function && env.kindOf y == some .local && _ && _) : Sem Bool) = pure false
       rw [h2, Bool.and_false, Bool.false_and, Bool.false_and])
theorem noComp_sw {e : Expr} (h : noComp e = true) (tg : Option Expr) (l : Nat) (env : PySem.Env) : swapsWith e tg l env = pure false := by
  cases e <;> first
    | rfl
    | (cases h; done)
def lcLine (y : Str) (py : Pos) : Expr → Bool
  | .ListComp _ _ scope pos => (py.line == pos.line) && !(scope.names.any fun (n, k) => n == y && (k == .local || k == .cell))
  | _ => false
theorem isLo_ok {x : Str} (h : isLo sc x = true) : sc.names.lookup x = some .local := by
  unfold isLo at h
  split at h
  · assumption
  · cases h
theorem isFun_ok (h : isFun sc = true) : sc.kind = .function := by
  unfold isFun at h
  split at h
  · assumption
  · cases h
theorem noSt {tg e : Expr} (h1 : isTup tg = true) (h2 : notTup e = true) (env : PySem.Env) : swappedStores [tg] e env = pure none := by
  cases tg <;> first
    | (cases h1; done)
    | skip
  cases e <;> first
    | rfl
    | (cases h2; done)
theorem isTup_plain {tg : Expr} (h1 : isTup tg = true) : plainE tg = true := by
  cases tg <;> first
    | rfl
    | (cases h1; done)
def chL (G : SG) (N : List Str) (sc : Scope) : L → List Stmt → Bool
  | .ite t a b, [.If e x y _] => chT G N sc t e && chL G N sc a x && chL G N sc b y
  | .asg i e, [.Assign [.Name y _] x _] => decide (N[i]? = some y) && isLc sc y && noComp x && chE G N sc e x
  | .drop e, [.Expr x _] => noComp x && chE G N sc e x
  | _, _ => false
/-! ### a suite that is tried -/
def SemL (W : Wd) (ir : L) (t : TS) : Prop := ∀ {xp : D → Env → Prop} (c : Ctx) (F : Addr → Prop) (r : Env) (σ : L2.St) [XpOk W xp c σ] (H : Hp) (nx : Env → Prop) (dn : Ends), Sim c F r σ H → evL W.cl xp ir r nx →
  (∀ r' F' σ' H', nx r' → Step F H F' H' → Sim c F' r' σ' H' → Fx (wrL ir) σ σ' → dn.nx σ' H') → t dn σ H
def SLs (W : Wd) (sc : Scope) (ir : L) (st : List Stmt) : Prop := ∃ t, (∀ X, XSK W sc X → PSs X st t) ∧ SemL W ir t
theorem sl_ite {t : T} {a b : L} {e : Expr} {x y : List Stmt} {pos : Pos} (ht : ST W sc t e) (ha : SLs W sc a x) (hb : SLs W sc b y) : SLs W sc (.ite t a b) [.If e x y pos] := by
  obtain ⟨tt, t1, t2⟩ := ht
  obtain ⟨ta, a1, a2⟩ := ha
  obtain ⟨tb, b1, b2⟩ := hb
  refine ⟨_, fun X O => pss_one (ps_if (t1 X O.ok).1 (a1 X O) (b1 X O)), fun {xp} c F r σ _ H nx dn S h hn => ?_⟩
  unfold evL at h
  refine t2 c F r σ H _ _ S h fun b r1 F1 H1 q1 st1 S1 => ?_
  cases b with
  | true =>
    rw [if_pos rfl] at q1 ⊢
    exact a2 c F1 r1 σ H1 _ _ S1 q1 fun r' F' σ' H' q st S' fx => hn r' F' σ' H' q (st1.trans st) S' (by unfold wrL; exact fx.l)
  | false =>
    rw [if_neg Bool.false_ne_true] at q1 ⊢
    exact b2 c F1 r1 σ H1 _ _ S1 q1 fun r' F' σ' H' q st S' fx => hn r' F' σ' H' q (st1.trans st) S' (by unfold wrL; exact fx.r)
theorem sl_asg (G : GOK W) {i : Nat} {ir : E} {y : Str} {e : Expr} {py pos : Pos} (h1 : W.N[i]? = some y) (h2 : isLc sc y = true) (h3 : ∀ env, swapsWith e (some (.Name y py)) pos.line env = pure false) (he : SE W sc ir e) : SLs W sc (.asg i ir) [.Assign [.Name y py] e pos] := by
  obtain ⟨te, a1, a2⟩ := he
  refine ⟨_, fun X O => pss_one (ps_set (i := i) (by rw [O.ok.N]; exact G.nd) (by rw [O.ok.N]; exact h1) (by rw [O.ok.sc]; exact isLc_ok h2) (a1 X O.ok).1 (h3 _) (.inl (by rw [O.fn]))), fun {xp} c F r σ _ H nx dn S h hn => ?_⟩
  unfold evL at h
  refine a2 c F r σ H _ _ S h fun fl d r' F' H' v q st S' res => ?_
  obtain ⟨F2, st2, S2⟩ := S'.put q.1 res
  exact hn _ _ _ _ q.2 (st.trans st2) S2 fx_set
theorem sl_drop {ir : E} {e : Expr} {pos : Pos} (h1 : ∀ env, swapsWith e none pos.line env = pure false) (he : SE W sc ir e) : SLs W sc (.drop ir) [.Expr e pos] := by
  obtain ⟨te, a1, a2⟩ := he
  refine ⟨_, fun X O => pss_one (ps_expr (a1 X O.ok).1 (h1 _)), fun {xp} c F r σ _ H nx dn S h hn => ?_⟩
  unfold evL at h
  exact a2 c F r σ H _ _ S h fun fl d r' F' H' v q st S' res => hn _ _ _ _ q st S' Fx.refl
theorem sndL : ∀ (ir : L) (W : Wd) (G : GOK W) (sc : Scope) (st : List Stmt), chL W.G W.N sc ir st = true → SLs W sc ir st
  | .ite t a b, W, G, sc, st, h => by
    cases st <;> first | (exact absurd h Bool.false_ne_true) | skip
    rename_i s0 rest
    cases s0 <;> first | (exact absurd h Bool.false_ne_true) | skip
    rename_i e x y pos
    cases rest <;> first | (exact absurd h Bool.false_ne_true) | skip
    simp only [chL, Bool.and_eq_true] at h
    exact sl_ite (sndT t W G sc _ h.1.1) (sndL a W G sc _ h.1.2) (sndL b W G sc _ h.2)
  | .asg i e, W, G, sc, st, h => by
    cases st <;> first | (exact absurd h Bool.false_ne_true) | skip
    rename_i s0 rest
    cases s0 <;> first | (exact absurd h Bool.false_ne_true) | skip
    rename_i tgs x pos
    cases tgs <;> first | (exact absurd h Bool.false_ne_true) | skip
    rename_i tg tgs
    cases tg <;> first | (exact absurd h Bool.false_ne_true) | skip
    rename_i y py
    cases tgs <;> first | (exact absurd h Bool.false_ne_true) | skip
    cases rest <;> first | (exact absurd h Bool.false_ne_true) | skip
    simp only [chL, Bool.and_eq_true, decide_eq_true_eq] at h
    exact sl_asg G h.1.1.1 h.1.1.2 (fun env => noComp_sw h.1.2 _ _ env) (sndE e W G sc _ h.2)
  | .drop e, W, G, sc, st, h => by
    cases st <;> first | (exact absurd h Bool.false_ne_true) | skip
    rename_i s0 rest
    cases s0 <;> first | (exact absurd h Bool.false_ne_true) | skip
    rename_i x pos
    cases rest <;> first | (exact absurd h Bool.false_ne_true) | skip
    simp only [chL, Bool.and_eq_true] at h
    exact sl_drop (noComp_sw h.1 _ _) (sndE e W G sc _ h.2)
/-! the slots' own lists are set apart while a suite is tried -/
open Classical in
noncomputable def Ctx.sub (c : Ctx) (F : Addr → Prop) (r : Env) (σ : L2.St) (H : Hp) : Ctx := ⟨c.p, c.c0, F, fun a => if ∃ (i : Nat) (d : D), r[i]? = some (.ow d) ∧ σ[i]? = some (some (.ref a)) then none else H a⟩
theorem Ctx.sub_own {c : Ctx} {F : Addr → Prop} {r : Env} {σ : L2.St} {H : Hp} {a : Addr} (h : ∃ (i : Nat) (d : D), r[i]? = some (.ow d) ∧ σ[i]? = some (some (.ref a))) : (c.sub F r σ H).H0 a = none := if_pos h
theorem Ctx.sub_not {c : Ctx} {F : Addr → Prop} {r : Env} {σ : L2.St} {H : Hp} {a : Addr} (h : ¬ ∃ (i : Nat) (d : D), r[i]? = some (.ow d) ∧ σ[i]? = some (some (.ref a))) : (c.sub F r σ H).H0 a = H a := if_neg h
theorem Ctx.sub_some {c : Ctx} {F : Addr → Prop} {r : Env} {σ : L2.St} {H : Hp} {a : Addr} {o : HO} (h : (c.sub F r σ H).H0 a = some o) : H a = some o := by
  by_cases z : ∃ (i : Nat) (d : D), r[i]? = some (.ow d) ∧ σ[i]? = some (some (.ref a))
  · rw [Ctx.sub_own z] at h; cases h
  · rw [Ctx.sub_not z] at h; exact h
section
variable {c : Ctx} {F F' : Addr → Prop} {r r' : Env} {σ σ' : L2.St} {H H' : Hp}
theorem Sim.ownAt (S : Sim c F r σ H) {a : Addr} (h : ∃ (i : Nat) (d : D), r[i]? = some (.ow d) ∧ σ[i]? = some (some (.ref a))) : ¬ F a ∧ c.H0 a = none ∧ a ≠ c.p ∧ a ≠ c.c0 ∧ ∃ o, ownO o ∧ H a = some o := by
  obtain ⟨i, d, h1, h2⟩ := h
  obtain ⟨b, q1, q2, q3, q4, q5, q6⟩ := S.slot i _ h1
  rw [h2] at q1
  cases q1
  obtain ⟨o, _, k1, k2⟩ := q2.there
  exact ⟨q3, q4, q5, q6, o, k1, k2⟩
theorem Sim.into (S : Sim c F r σ H) : Sim (c.sub F r σ H) F r σ H where
  len := S.len
  slot := fun i s e => by
    have q := S.slot i s e
    cases s with
    | no => trivial
    | sh d => exact q
    | ow d =>
      obtain ⟨a, h1, h2, h3, h4, h5, h6⟩ := q
      exact ⟨a, h1, h2, h3, Ctx.sub_own ⟨i, d, e, h1⟩, h5, h6⟩
  sep := S.sep
  frame := fun a o e _ => ⟨o, Ctx.sub_some e, .refl o, .inl rfl⟩
  fr0 := fun a h => h
  fnew := fun a h => .inl h
  ftrk := S.ftrk
  pen := S.pen
  npF := S.npF
theorem Sim.outof (S : Sim c F r σ H) (S' : Sim (c.sub F r σ H) F' r' σ' H') : Step F H F' H' ∧ Sim c F' r' σ' H' := by
  have no : ∀ a, F a → ¬ ∃ (i : Nat) (d : D), r[i]? = some (.ow d) ∧ σ[i]? = some (some (.ref a)) := fun a f z => (S.ownAt z).1 f
  have back : ∀ a, (c.sub F r σ H).H0 a = none → c.H0 a = none := fun a h => by
    by_cases z : ∃ (i : Nat) (d : D), r[i]? = some (.ow d) ∧ σ[i]? = some (some (.ref a))
    · exact (S.ownAt z).2.1
    · rw [Ctx.sub_not z] at h
      exact S.h0 h
  refine ⟨⟨fun a f => S'.fr0 a f, fun a o f e => ?_, fun a xs e => ?_⟩, { len := S'.len, slot := fun i s e => ?_, sep := S'.sep, frame := fun a o e n => ?_, fr0 := fun a f => S'.fr0 a (S.fr0 a f), fnew := fun a f => ?_, ftrk := S'.ftrk, pen := S'.pen, npF := S'.npF }⟩
  · obtain ⟨o', e1, l, _⟩ := S'.frame a o (by rw [Ctx.sub_not (no a f)]; exact e) fun z => S.npF.1 (show F c.p from by have z : a = c.p := z; rw [← z]; exact f)
    exact ⟨o', e1, l⟩
  · have n1 : ¬ ∃ (i : Nat) (d : D), r[i]? = some (.ow d) ∧ σ[i]? = some (some (.ref a)) := fun z => by
      obtain ⟨_, _, _, _, o, k1, k2⟩ := S.ownAt z
      rw [e] at k2
      cases k2
      exact k1
    have n2 : a ≠ c.p := fun z => by
      obtain ⟨_, _, _, e1, _⟩ := S.pen
      rw [← z, e] at e1
      cases e1
    obtain ⟨o', e1, l, _⟩ := S'.frame a _ (by rw [Ctx.sub_not n1]; exact e) n2
    rw [e1]
    cases l
    rfl
  · have q := S'.slot i s e
    cases s with
    | no => trivial
    | sh d => exact q
    | ow d =>
      obtain ⟨a, h1, h2, h3, h4, h5, h6⟩ := q
      exact ⟨a, h1, h2, h3, back a h4, h5, h6⟩
  · obtain ⟨o1, e1, l1, k1⟩ := S.frame a o e n
    have n1 : ¬ ∃ (i : Nat) (d : D), r[i]? = some (.ow d) ∧ σ[i]? = some (some (.ref a)) := fun z => by
      have := (S.ownAt z).2.1
      rw [e] at this
      cases this
    obtain ⟨o2, e2, l2, k2⟩ := S'.frame a o1 (by rw [Ctx.sub_not n1]; exact e1) n
    refine ⟨o2, e2, l1.trans l2, ?_⟩
    rcases k1 with k1 | k1
    · rcases k2 with k2 | k2
      · exact .inl (k2.trans k1)
      · rcases S.fnew a k2 with z | z
        · exact .inr z
        · rw [e] at z; cases z
    · exact .inr k1
  · rcases S'.fnew a f with z | z
    · exact S.fnew a z
    · exact .inr (back a z)
end
theorem ss_try (G : GOK W) (hne : ∃ k, k ∈ W.G.ex) {i j : Nat} {b : L} {y n x : Str} {body : List Stmt} {np q1 q2 q3 hpos tpos : Pos} (hx : x = ("WishError" : Str)) (hg : isGl sc x = true) (hi : W.N[i]? = some y) (hj : W.N[j]? = some n) (hij : i ≠ j) (hly : isLo sc y = true) (hln : isLo sc n = true) (hn : okNm n = true)
    (hb : ∀ W' : Wd, GOK W' → W'.G = W.G → W'.N = W.N → SLs W' sc b body) : SS W sc (.try_ i j b) (.Try body [.ExceptHandler (some (.Name x np)) (some n) [.Assign [.Name y q1] (.Name n q2) q3] hpos] [] [] tpos) := by
  subst hx
  obtain ⟨g1, g2, _⟩ := okNm_ok hn
  have hb' : ∀ w : WX, SLs { W with wx := w } sc b body := fun w => hb _ (G.wx w) rfl rfl
  obtain ⟨tb, c1, c2⟩ : ∃ tb : WX → TS, (∀ (w : WX) X, XSK { W with wx := w } sc X → PSs X body (tb w)) ∧ ∀ w : WX, SemL { W with wx := w } b (tb w) :=
    ⟨fun w => Classical.choose (hb' w), fun w => (Classical.choose_spec (hb' w)).1, fun w => (Classical.choose_spec (hb' w)).2⟩
  · obtain ⟨xn0, hx0⟩ := hne
    obtain ⟨v0, hv0⟩ := G.ex xn0 hx0
    obtain ⟨_, _, _, _, _, _, ⟨Cw, mw, _⟩, _⟩ := G.cm xn0 v0 hv0
    refine ⟨fun D σ H => tb (wKeep W.K (.ref Cw) i j W.wx D) D σ H, fun X O => ?_, fun {xp} c F r σ _ H nx rt dn S h hn' hr => ?_⟩
    · have z := ps_try_keep (tb := tb) (c := .ref Cw) (np := np) (q1 := q1) (q2 := q2) (q3 := q3) (hpos := hpos) (tpos := tpos) O.st O.fr O.ex (by rw [O.ok.N]; exact G.nd) (by rw [O.ok.N]; exact hj) (by rw [O.ok.N]; exact hi) hij (by show X.env.scope.names.lookup n = _; rw [O.ok.sc]; exact isLo_ok hln) (by show X.env.scope.names.lookup y = _; rw [O.ok.sc]; exact isLo_ok hly) g1 g2
        (fun env => noComp_sw rfl _ _ env) ⟨isGl_ok O.ok hg, by decide +kernel, .inl (by rw [O.ok.mg]; exact mw)⟩ O.ok.tk fun w pn xe tk po => c1 w _ ⟨⟨O.ok.sc, O.ok.N, O.ok.pr, O.ok.w, O.ok.K, O.ok.mg, O.ok.base, O.ok.A, O.ok.calm, tk⟩, O.fn, po, O.st, O.fr, O.ex⟩
      rw [O.ok.K] at z
      exact z
    · unfold evS at h
      have inst : XpOk { W with wx := wKeep W.K (.ref Cw) i j W.wx dn } (fun x r1 => i < r1.length ∧ nx ((r1.set i (.sh x)).set j .no)) (c.sub F r σ H) σ := ⟨fun cn m F' r' H' cls d hx' Sc hm hd => by
        obtain ⟨C, rfl, _, _, _, _, ⟨C', mw', em⟩, _⟩ := G.cm cn cls hm
        rw [mw] at mw'
        cases mw'
        refine ⟨true, em, fun _ a ha => ?_, fun z => nomatch z⟩
        obtain ⟨st1, S1⟩ := S.outof Sc
        have sm := same_new (o := XO (.ref C) d a) ha
        have S2 := S1.same sm
        have S3 := S2.addF (a := a) ⟨_, upd_same⟩ (S1.h0 ha) (fun z => by
          obtain ⟨_, _, _, e1, _⟩ := S1.pen
          rw [← z, ha] at e1
          cases e1) (fun z => by
          obtain ⟨_, _, _, _, e1, _⟩ := S1.pen
          rw [← z, ha] at e1
          cases e1) fun k e hk hs => by
            obtain ⟨_, _, _, _, o, _, z⟩ := S1.ownAt ⟨k, e, hk, hs⟩
            rw [ha] at z
            cases z
        have li : i < σ.length := by rw [← S3.len]; exact hx'.1
        have R : Rep c.p (Wa.addF F' a) (upd H' a (XO (.ref C) d a)) (.exc cn m) (.ref a) := by
          refine ⟨a, .ref C, d, rfl, .inr rfl, upd_same, hm, ?_⟩
          cases m with
          | none => exact hd
          | some k =>
            obtain ⟨dx, e1, f1, e2⟩ := hd
            exact ⟨dx, e1, .inl f1, sm _ _ e2⟩
        have S4 := S3.reslot (i := i) (s := .sh (.exc cn m)) (σ' := σ.set i (some (.ref a))) (by rw [List.length_set]) (fun k hk => List.getElem?_set_ne (Ne.symm hk)) ⟨.ref a, List.getElem?_set_self li, R⟩ fun d e => by cases e
        have S5 := S4.reslot (i := j) (s := .no) (σ' := (σ.set i (some (.ref a))).set j none) (by rw [List.length_set]) (fun k hk => List.getElem?_set_ne (Ne.symm hk)) trivial fun d e => by cases e
        refine hn' _ _ _ _ hx'.2 ((st1.trans (Step.of_same sm)).trans step_addF) S5 fun k hk => ?_
        have hki : i ≠ k := fun z => hk (by unfold wrS; rw [z]; exact List.mem_cons_self)
        have hkj : j ≠ k := fun z => hk (by unfold wrS; rw [z]; exact List.mem_cons_of_mem _ List.mem_cons_self)
        rw [List.getElem?_set_ne hkj, List.getElem?_set_ne hki]⟩
      refine c2 _ (xp := fun x r1 => i < r1.length ∧ nx ((r1.set i (.sh x)).set j .no)) (c.sub F r σ H) F r σ H nx dn S.into h fun r' F' σ' H' q _ Sc fx => ?_
      obtain ⟨st1, S1⟩ := S.outof Sc
      exact hn' r' F' σ' H' q st1 S1 (fx.mono fun k hk => by unfold wrS; exact List.mem_cons_of_mem _ (List.mem_cons_of_mem _ hk))
mutual
def chS (G : SG) (N : List Str) (sc : Scope) : S → Stmt → Bool
  | .asg i e, .Assign [.Name y py] x _ => decide (N[i]? = some y) && isLc sc y && chE G N sc e x && (noComp x || isCe sc y || (isLo sc y && isFun sc && lcLine y py x))
  | .unp p e, .Assign [tg] x _ => isTup tg && notTup x && noComp x && chPat N (N.filter (isLc sc)) p tg && chE G N sc e x
  | .setix i k e, .Assign [.Subscript (.Name x _) y _] z _ => plainE y && decide (N[i]? = some x) && isVis sc x && okNm x && noComp z && chE G N sc k y && chE G N sc e z
  | .setk i k e, .Assign [.Subscript (.Name x _) y _] z _ => plainE y && decide (N[i]? = some x) && isVis sc x && okNm x && noComp z && chE G N sc k y && chE G N sc e z
  | .unpk p i k e, .Assign [.Tuple [tg, .Subscript (.Name x _) y _] _ _] z _ => plainE tg && chPat N (N.filter (isLc sc)) p tg && plainE y && decide (N[i]? = some x) && isVis sc x && okNm x && noComp z && notTup z && chE G N sc k y && chE G N sc e z
  | .app i e, .Expr (.Call (.Attribute (.Name x _) m p2) [y] [] p3) _ => decide (m = ("append" : Str)) && plainE y && decide (N[i]? = some x) && isVis sc x && okNm x && (p2.endLine == p3.line) && chE G N sc e y
  | .ext i e, .Expr (.Call (.Attribute (.Name x _) m p2) [y] [] p3) _ => decide (m = ("extend" : Str)) && plainE y && decide (N[i]? = some x) && isVis sc x && okNm x && (p2.endLine == p3.line) && chE G N sc e y
  | .insl i k e, .Expr (.Call (.Attribute (.Name x _) m p2) [z, y] [] p3) _ => decide (m = ("insert" : Str)) && plainE z && plainE y && decide (N[i]? = some x) && isVis sc x && okNm x && (p2.endLine == p3.line) && chE G N sc k z && chE G N sc e y
  | .clear i, .Expr (.Call (.Attribute (.Name x _) m p2) [] [] p3) _ => decide (m = ("clear" : Str)) && decide (N[i]? = some x) && isVis sc x && okNm x && (p2.endLine == p3.line)
  | .revl i, .Expr (.Call (.Attribute (.Name x _) m p2) [] [] p3) _ => decide (m = ("reverse" : Str)) && decide (N[i]? = some x) && isVis sc x && okNm x && (p2.endLine == p3.line)
  | .dropE e, .Expr x _ => noComp x && chE G N sc e x
  | .pass, .Pass _ => true
  | .pass, .Expr (.Constant (.str _) _ _) _ => true
  | .ite t a b, .If e x y _ => chT G N sc t e && chB G N sc a x && chB G N sc b y
  | .for_ p it b, .For tg iter body [] _ => chPat N (N.filter (isLc sc)) p tg && chI G N sc it tg iter && chB G N sc b body
  | .while_ t b, .While e body [] _ => chT G N sc t e && chB G N sc b body
  | .ret e, .Return (some x) _ => !G.mu && chE G N sc e x
  | .retv i, .Return (some (.Name x _)) _ => !G.mu && decide (N[i]? = some x) && isVis sc x && okNm x
  | .retN, .Return none _ => !G.mu
  | .retm e, .Return (some x) _ => G.mu && chE G N sc e x
  | .never, _ => true
  | .raise c none, .Raise (some (.Call (.Name k _) [.Constant (.str _) _ _] [] _)) none _ => decide (c = k) && decide (k ≠ "NoWish") && decide (k ∈ G.ex) && isGl sc k && okNm k
  | .raise c (some e), .Raise (some (.Call (.Name k _) [x] [] _)) none _ => decide (c = k) && decide (k = "NoWish") && decide (k ∈ G.ex) && isGl sc k && plainE x && chE G N sc e x
  | .try_ i j b, .Try body [.ExceptHandler (some (.Name x _)) (some n) [.Assign [.Name y _] (.Name n2 _) _] _] [] [] _ => !G.ex.isEmpty && decide (x = "WishError") && isGl sc x && decide (n2 = n) && decide (N[i]? = some y) && decide (N[j]? = some n) && decide (i ≠ j) && isLo sc y && isLo sc n && okNm n && chL G N sc b body
  | _, _ => false
def chB (G : SG) (N : List Str) (sc : Scope) : B → List Stmt → Bool
  | .nil, [] => true
  | .cons s b, st :: rest => chS G N sc s st && chB G N sc b rest
  | .tells i e z, .Assign [.Name y _] x _ :: rest => !G.mu && decide (N[i]? = some y) && isLc sc y && isVis sc y && okNm y && noComp x && chE G N sc e x && chZ1 G N sc y z rest
  | _, _ => false
end
mutual
theorem sndS (G : GOK W) : ∀ (ir : S) (st : Stmt), chS W.G W.N sc ir st = true → SS W sc ir st
  | .asg i e, st, h => by
    cases st <;> first | (exact absurd h Bool.false_ne_true) | skip
    rename_i tgs x pos
    cases tgs <;> first | (exact absurd h Bool.false_ne_true) | skip
    rename_i tg tgs
    cases tg <;> first | (exact absurd h Bool.false_ne_true) | skip
    rename_i y py
    cases tgs <;> first | (exact absurd h Bool.false_ne_true) | skip
    simp only [chS, Bool.and_eq_true, decide_eq_true_eq] at h
    obtain ⟨⟨⟨h1, h2⟩, h3⟩, h4⟩ := h
    cases hc : noComp x with
    | true => exact ss_asg G h1 h2 (fun env _ => noComp_sw hc _ _ env) (sndE e W G sc x h3)
    | false =>
     rw [hc, Bool.false_or] at h4
     cases hce : isCe sc y with
     | true => exact ss_asg G h1 h2 (fun env he => cell_sw (by rw [he]; exact isCe_ok hce)) (sndE e W G sc x h3)
     | false =>
      rw [hce, Bool.false_or, Bool.and_eq_true, Bool.and_eq_true] at h4
      obtain ⟨⟨h5, h6⟩, h7⟩ := h4
      cases x <;> first | (exact absurd h7 Bool.false_ne_true) | skip
      rename_i elt gens scope lpos
      simp only [lcLine, Bool.and_eq_true, Bool.not_eq_true'] at h7
      cases e <;> first | (exact absurd h3 Bool.false_ne_true) | skip
      rename_i own p it c el
      cases gens <;> first | (exact absurd h3 Bool.false_ne_true) | skip
      rename_i gen gens
      obtain ⟨tg, iter, ifs, asy⟩ := gen
      cases gens <;> first | (exact absurd h3 Bool.false_ne_true) | skip
      replace h3 := an h3
      simp only [Bool.and_eq_true, decide_eq_true_eq] at h3
      obtain ⟨⟨⟨⟨⟨⟨⟨rfl, g1⟩, g2⟩, g3⟩, g4⟩, g5⟩, g6⟩, g7⟩ := h3
      refine ss_lc G h1 (isLo_ok h5) (isFun_ok h6) h7.1 h7.2 g1 g2 (sndI it W G sc tg iter g3) g4 g5 ?_ (sndE el W.nox G.nox _ _ g7)
      cases ifs with
      | nil => exact sts_isYes g6
      | cons t ts =>
        cases ts with
        | nil => exact sts_one (sndT c W.nox G.nox _ _ g6)
        | cons u us => exact absurd g6 Bool.false_ne_true
  | .unp p e, st, h => by
    cases st <;> first | (exact absurd h Bool.false_ne_true) | skip
    rename_i tgs x pos
    cases tgs <;> first | (exact absurd h Bool.false_ne_true) | skip
    rename_i tg tgs
    cases tgs <;> first | (exact absurd h Bool.false_ne_true) | skip
    simp only [chS, Bool.and_eq_true, decide_eq_true_eq] at h
    obtain ⟨⟨⟨⟨h1, h2⟩, h3⟩, h4⟩, h5⟩ := h
    exact ss_unp G h4 (noComp_sw h3 _ _) (noSt h1 h2) (isTup_plain h1) (sndE e W G sc x h5)
  | .setix i k e, st, h => by
    cases st <;> first | (exact absurd h Bool.false_ne_true) | skip
    rename_i tgs x pos
    cases tgs <;> first | (exact absurd h Bool.false_ne_true) | skip
    rename_i tg tgs
    cases tg <;> first | (exact absurd h Bool.false_ne_true) | skip
    rename_i o y p2
    cases o <;> first | (exact absurd h Bool.false_ne_true) | skip
    rename_i nm p1
    cases tgs <;> first | (exact absurd h Bool.false_ne_true) | skip
    simp only [chS, Bool.and_eq_true, decide_eq_true_eq] at h
    obtain ⟨⟨⟨⟨⟨⟨h1, h2⟩, h3⟩, h4⟩, h5⟩, h6⟩, h7⟩ := h
    exact ss_setix G h1 h2 h3 h4 (fun env => noComp_sw h5 (some (.Subscript (.Name nm p1) y p2)) pos.line env) (sndE k W G sc _ h6) (sndE e W G sc _ h7)
  | .setk i k e, st, h => by
    cases st <;> first | (exact absurd h Bool.false_ne_true) | skip
    rename_i tgs x pos
    cases tgs <;> first | (exact absurd h Bool.false_ne_true) | skip
    rename_i tg tgs
    cases tg <;> first | (exact absurd h Bool.false_ne_true) | skip
    rename_i o y p2
    cases o <;> first | (exact absurd h Bool.false_ne_true) | skip
    rename_i nm p1
    cases tgs <;> first | (exact absurd h Bool.false_ne_true) | skip
    simp only [chS, Bool.and_eq_true, decide_eq_true_eq] at h
    obtain ⟨⟨⟨⟨⟨⟨h1, h2⟩, h3⟩, h4⟩, h5⟩, h6⟩, h7⟩ := h
    exact ss_setk G h1 h2 h3 h4 (fun env => noComp_sw h5 (some (.Subscript (.Name nm p1) y p2)) pos.line env) (sndE k W G sc _ h6) (sndE e W G sc _ h7)
  | .unpk p i k e, st, h => by
    cases st <;> first | (exact absurd h Bool.false_ne_true) | skip
    rename_i tgs z pos
    cases tgs <;> first | (exact absurd h Bool.false_ne_true) | skip
    rename_i tg tgs
    cases tg <;> first | (exact absurd h Bool.false_ne_true) | skip
    rename_i es kk tp
    cases es <;> first | (exact absurd h Bool.false_ne_true) | skip
    rename_i tg es
    cases es <;> first | (exact absurd h Bool.false_ne_true) | skip
    rename_i sb es
    cases sb <;> first | (exact absurd h Bool.false_ne_true) | skip
    rename_i o y p2
    cases o <;> first | (exact absurd h Bool.false_ne_true) | skip
    rename_i nm p1
    cases es <;> first | (exact absurd h Bool.false_ne_true) | skip
    cases tgs <;> first | (exact absurd h Bool.false_ne_true) | skip
    simp only [chS, Bool.and_eq_true, decide_eq_true_eq] at h
    obtain ⟨⟨⟨⟨⟨⟨⟨⟨⟨h1, h2⟩, h3⟩, h4⟩, h5⟩, h6⟩, h7⟩, h8⟩, h9⟩, h10⟩ := h
    exact ss_unpk G h1 h2 h3 h4 h5 h6 (fun env => noComp_sw h7 (some (.Tuple [tg, .Subscript (.Name nm p1) y p2] kk tp)) pos.line env) (noSt rfl h8) (sndE k W G sc _ h9) (sndE e W G sc _ h10)
  | .app i e, st, h => by
    cases st <;> first | (exact absurd h Bool.false_ne_true) | skip
    rename_i x pos
    cases x <;> first | (exact absurd h Bool.false_ne_true) | skip
    rename_i fn args kws p3
    cases fn <;> first | (exact absurd h Bool.false_ne_true) | skip
    rename_i o m p2
    cases o <;> first | (exact absurd h Bool.false_ne_true) | skip
    rename_i x p1
    cases args <;> first | (exact absurd h Bool.false_ne_true) | skip
    rename_i y args
    cases args <;> first | (exact absurd h Bool.false_ne_true) | skip
    cases kws <;> first | (exact absurd h Bool.false_ne_true) | skip
    simp only [chS, Bool.and_eq_true, decide_eq_true_eq] at h
    obtain ⟨⟨⟨⟨⟨⟨rfl, h2⟩, h3⟩, h4⟩, h5⟩, h6⟩, h7⟩ := h
    exact ss_app G h2 h3 h4 h5 h6 (sndE e W G sc _ h7)
  | .ext i e, st, h => by
    cases st <;> first | (exact absurd h Bool.false_ne_true) | skip
    rename_i x pos
    cases x <;> first | (exact absurd h Bool.false_ne_true) | skip
    rename_i fn args kws p3
    cases fn <;> first | (exact absurd h Bool.false_ne_true) | skip
    rename_i o m p2
    cases o <;> first | (exact absurd h Bool.false_ne_true) | skip
    rename_i x p1
    cases args <;> first | (exact absurd h Bool.false_ne_true) | skip
    rename_i y args
    cases args <;> first | (exact absurd h Bool.false_ne_true) | skip
    cases kws <;> first | (exact absurd h Bool.false_ne_true) | skip
    simp only [chS, Bool.and_eq_true, decide_eq_true_eq] at h
    obtain ⟨⟨⟨⟨⟨⟨rfl, h2⟩, h3⟩, h4⟩, h5⟩, h6⟩, h7⟩ := h
    exact ss_ext G h2 h3 h4 h5 h6 (sndE e W G sc _ h7)
  | .clear i, st, h => by
    cases st <;> first | (exact absurd h Bool.false_ne_true) | skip
    rename_i x pos
    cases x <;> first | (exact absurd h Bool.false_ne_true) | skip
    rename_i fn args kws p3
    cases fn <;> first | (exact absurd h Bool.false_ne_true) | skip
    rename_i o m p2
    cases o <;> first | (exact absurd h Bool.false_ne_true) | skip
    rename_i x p1
    cases args <;> first | (exact absurd h Bool.false_ne_true) | skip
    cases kws <;> first | (exact absurd h Bool.false_ne_true) | skip
    simp only [chS, Bool.and_eq_true, decide_eq_true_eq] at h
    obtain ⟨⟨⟨⟨rfl, h3⟩, h4⟩, h5⟩, h6⟩ := h
    exact ss_clear G h3 h4 h5 h6
  | .revl i, st, h => by
    cases st <;> first | (exact absurd h Bool.false_ne_true) | skip
    rename_i x pos
    cases x <;> first | (exact absurd h Bool.false_ne_true) | skip
    rename_i fn args kws p3
    cases fn <;> first | (exact absurd h Bool.false_ne_true) | skip
    rename_i o m p2
    cases o <;> first | (exact absurd h Bool.false_ne_true) | skip
    rename_i x p1
    cases args <;> first | (exact absurd h Bool.false_ne_true) | skip
    cases kws <;> first | (exact absurd h Bool.false_ne_true) | skip
    simp only [chS, Bool.and_eq_true, decide_eq_true_eq] at h
    obtain ⟨⟨⟨⟨rfl, h3⟩, h4⟩, h5⟩, h6⟩ := h
    exact ss_revl G h3 h4 h5 h6
  | .dropE e, st, h => by
    cases st <;> first | (exact absurd h Bool.false_ne_true) | skip
    simp only [chS, Bool.and_eq_true, decide_eq_true_eq] at h
    exact ss_drop G (noComp_sw h.1 _ _) (sndE e W G sc _ h.2)
  | .insl i k e, st, h => by
    cases st <;> first | (exact absurd h Bool.false_ne_true) | skip
    rename_i x pos
    cases x <;> first | (exact absurd h Bool.false_ne_true) | skip
    rename_i fn args kws p3
    cases fn <;> first | (exact absurd h Bool.false_ne_true) | skip
    rename_i o m p2
    cases o <;> first | (exact absurd h Bool.false_ne_true) | skip
    rename_i x p1
    cases args <;> first | (exact absurd h Bool.false_ne_true) | skip
    rename_i z args
    cases args <;> first | (exact absurd h Bool.false_ne_true) | skip
    rename_i y args
    cases args <;> first | (exact absurd h Bool.false_ne_true) | skip
    cases kws <;> first | (exact absurd h Bool.false_ne_true) | skip
    simp only [chS, Bool.and_eq_true, decide_eq_true_eq] at h
    obtain ⟨⟨⟨⟨⟨⟨⟨⟨h1, hz⟩, h2⟩, h3⟩, h4⟩, h5⟩, h6⟩, h7⟩, h8⟩ := h
    exact ss_insl G h1 hz h2 h3 h4 h5 h6 (sndE k W G sc _ h7) (sndE e W G sc _ h8)
  | .pass, st, h => by
    cases st <;> first | (exact absurd h Bool.false_ne_true) | exact ss_pass | skip
    rename_i x pos
    cases x <;> first | (exact absurd h Bool.false_ne_true) | skip
    rename_i k j p
    cases k <;> first | (exact absurd h Bool.false_ne_true) | skip
    exact ss_doc
  | .ite t a b, st, h => by
    cases st <;> first | (exact absurd h Bool.false_ne_true) | skip
    simp only [chS, Bool.and_eq_true, decide_eq_true_eq] at h
    exact ss_ite (sndT t W G sc _ h.1.1) (sndB G a _ h.1.2) (sndB G b _ h.2)
  | .for_ p it b, st, h => by
    cases st <;> first | (exact absurd h Bool.false_ne_true) | skip
    rename_i tg iter body orelse pos
    cases orelse <;> first | (exact absurd h Bool.false_ne_true) | skip
    simp only [chS, Bool.and_eq_true, decide_eq_true_eq] at h
    exact ss_for G h.1.1 (sndI it W G sc _ _ h.1.2) (sndB G b _ h.2)
  | .while_ t b, st, h => by
    cases st <;> first | (exact absurd h Bool.false_ne_true) | skip
    rename_i e body orelse pos
    cases orelse <;> first | (exact absurd h Bool.false_ne_true) | skip
    simp only [chS, Bool.and_eq_true, decide_eq_true_eq] at h
    exact ss_while (sndT t W G sc _ h.1) (sndB G b _ h.2)
  | .ret e, st, h => by
    cases st <;> first | (exact absurd h Bool.false_ne_true) | skip
    rename_i x pos
    cases x <;> first | (exact absurd h Bool.false_ne_true) | skip
    simp only [chS, Bool.and_eq_true, Bool.not_eq_true'] at h
    exact ss_ret h.1 (sndE e W G sc _ h.2)
  | .retv i, st, h => by
    cases st <;> first | (exact absurd h Bool.false_ne_true) | skip
    rename_i x pos
    cases x <;> first | (exact absurd h Bool.false_ne_true) | skip
    rename_i x
    cases x <;> first | (exact absurd h Bool.false_ne_true) | skip
    simp only [chS, Bool.and_eq_true, decide_eq_true_eq, Bool.not_eq_true'] at h
    exact ss_retv h.1.1.1 h.1.1.2 h.1.2 h.2
  | .retN, st, h => by
    cases st <;> first | (exact absurd h Bool.false_ne_true) | skip
    rename_i x pos
    cases x <;> first | (exact absurd h Bool.false_ne_true) | skip
    simp only [chS, Bool.not_eq_true'] at h
    exact ss_retN h
  | .retm e, st, h => by
    cases st <;> first | (exact absurd h Bool.false_ne_true) | skip
    rename_i x pos
    cases x <;> first | (exact absurd h Bool.false_ne_true) | skip
    simp only [chS, Bool.and_eq_true] at h
    exact ss_retm h.1 (sndE e W G sc _ h.2)
  | .never, st, h => ss_never
  | .raise c n, st, h => by
    cases n with
    | none =>
      cases st <;> first | (exact absurd h Bool.false_ne_true) | skip
      rename_i ex cause pos
      cases ex <;> first | (exact absurd h Bool.false_ne_true) | skip
      rename_i x
      cases x <;> first | (exact absurd h Bool.false_ne_true) | skip
      rename_i fn args kws p3
      cases fn <;> first | (exact absurd h Bool.false_ne_true) | skip
      rename_i k p1
      cases args <;> first | (exact absurd h Bool.false_ne_true) | skip
      rename_i a args
      cases a <;> first | (exact absurd h Bool.false_ne_true) | skip
      rename_i kc j p2
      cases kc <;> first | (exact absurd h Bool.false_ne_true) | skip
      rename_i m
      cases args <;> first | (exact absurd h Bool.false_ne_true) | skip
      cases kws <;> first | (exact absurd h Bool.false_ne_true) | skip
      cases cause <;> first | (exact absurd h Bool.false_ne_true) | skip
      simp only [chS, Bool.and_eq_true, decide_eq_true_eq] at h
      obtain ⟨⟨⟨⟨h1, h2⟩, h3⟩, h4⟩, h5⟩ := h
      subst h1
      exact ss_raise0 G h2 h3 h4 h5
    | some e =>
      cases st <;> first | (exact absurd h Bool.false_ne_true) | skip
      rename_i ex cause pos
      cases ex <;> first | (exact absurd h Bool.false_ne_true) | skip
      rename_i x
      cases x <;> first | (exact absurd h Bool.false_ne_true) | skip
      rename_i fn args kws p3
      cases fn <;> first | (exact absurd h Bool.false_ne_true) | skip
      rename_i k p1
      cases args <;> first | (exact absurd h Bool.false_ne_true) | skip
      rename_i a args
      cases args <;> first | (exact absurd h Bool.false_ne_true) | skip
      cases kws <;> first | (exact absurd h Bool.false_ne_true) | skip
      cases cause <;> first | (exact absurd h Bool.false_ne_true) | skip
      simp only [chS, Bool.and_eq_true, decide_eq_true_eq] at h
      obtain ⟨⟨⟨⟨⟨h1, h2⟩, h3⟩, h4⟩, h5⟩, h6⟩ := h
      subst h1 h2
      exact ss_raise1 G h3 h4 h5 (sndE e W G sc _ h6)
  | .try_ i j b, st, h => by
    cases st <;> first | (exact absurd h Bool.false_ne_true) | skip
    rename_i body hs els fin tpos
    cases hs <;> first | (exact absurd h Bool.false_ne_true) | skip
    rename_i h0 hs
    cases h0 <;> first | (exact absurd h Bool.false_ne_true) | skip
    rename_i ty nm suite hpos
    cases ty <;> first | (exact absurd h Bool.false_ne_true) | skip
    rename_i ty
    cases ty <;> first | (exact absurd h Bool.false_ne_true) | skip
    rename_i x np
    cases nm <;> first | (exact absurd h Bool.false_ne_true) | skip
    rename_i n
    cases suite <;> first | (exact absurd h Bool.false_ne_true) | skip
    rename_i s0 suite
    cases s0 <;> first | (exact absurd h Bool.false_ne_true) | skip
    rename_i tgs val q3
    cases tgs <;> first | (exact absurd h Bool.false_ne_true) | skip
    rename_i tg tgs
    cases tg <;> first | (exact absurd h Bool.false_ne_true) | skip
    rename_i y q1
    cases tgs <;> first | (exact absurd h Bool.false_ne_true) | skip
    cases val <;> first | (exact absurd h Bool.false_ne_true) | skip
    rename_i n2 q2
    cases suite <;> first | (exact absurd h Bool.false_ne_true) | skip
    cases hs <;> first | (exact absurd h Bool.false_ne_true) | skip
    cases els <;> first | (exact absurd h Bool.false_ne_true) | skip
    cases fin <;> first | (exact absurd h Bool.false_ne_true) | skip
    simp only [chS, Bool.and_eq_true, decide_eq_true_eq, Bool.not_eq_true'] at h
    obtain ⟨⟨⟨⟨⟨⟨⟨⟨⟨⟨h0, h1⟩, h2⟩, h3⟩, h4⟩, h5⟩, h6⟩, h7⟩, h8⟩, h9⟩, h10⟩ := h
    subst h3
    refine ss_try G ?_ h1 h2 h4 h5 h6 h7 h8 h9 fun W' G' e1 e2 => sndL b W' G' sc _ (by rw [e1, e2]; exact h10)
    cases hh : W.G.ex with
    | nil => rw [hh] at h0; cases h0
    | cons k r => exact ⟨k, List.mem_cons_self⟩
theorem sndB (G : GOK W) : ∀ (ir : B) (st : List Stmt), chB W.G W.N sc ir st = true → SB W sc ir st
  | .nil, st, h => by
    cases st <;> first | (exact absurd h Bool.false_ne_true) | exact sb_nil
  | .cons s b, st, h => by
    cases st <;> first | (exact absurd h Bool.false_ne_true) | skip
    simp only [chB, Bool.and_eq_true] at h
    exact sb_cons (sndS G s _ h.1) (sndB G b _ h.2)
  | .loan b, st, h => by
    cases st <;> exact absurd h Bool.false_ne_true
  | .tells i e z, st, h => by
    cases st <;> first | (exact absurd h Bool.false_ne_true) | skip
    rename_i s0 st
    cases s0 <;> first | (exact absurd h Bool.false_ne_true) | skip
    rename_i tgs x p0
    cases tgs <;> first | (exact absurd h Bool.false_ne_true) | skip
    rename_i tg tgs
    cases tg <;> first | (exact absurd h Bool.false_ne_true) | skip
    rename_i y py
    cases tgs <;> first | (exact absurd h Bool.false_ne_true) | skip
    simp only [chB, Bool.and_eq_true, decide_eq_true_eq, Bool.not_eq_true'] at h
    obtain ⟨⟨⟨⟨⟨⟨⟨hm, h1⟩, h2⟩, h3⟩, h4⟩, h5⟩, h6⟩, h7⟩ := h
    exact sb_tells G h1 h2 (fun env => noComp_sw h5 _ _ env) (sndE e W G sc _ h6) (sz1 G hm h1 h3 h4 z st h7)
end
end
end Wa

/-! the defs of a program -/
namespace Wa
open PySem PySem.Spec PyProof.Rows L2
variable [CM]

/-- what the program's names stand for -/
structure GB (G : SG) (mg : Str → Option Value) : Prop where
  b1 : mg "len" = none
  b2 : mg "all" = none
  b3 : mg "any" = none
  b4 : mg "tuple" = none
  b5 : mg "list" = none
  b6 : mg "sorted" = none
  b7 : mg "sum" = none
  b8 : mg "max" = none
  b9 : mg "min" = none
  b10 : mg "isinstance" = none
  b11 : mg "range" = none
  b12 : mg "zip" = none
  b13 : mg "enumerate" = none
  b14 : mg "set" = none
  b15 : mg "abs" = none
  ty : ∀ t : Ty, mg (tyN t : Str) = none
  cs : ∀ q ∈ G.cs, ∃ t, mg q.1 = some (.int q.2 t)
/-- what is known of the classes of exceptions -/
structure GX (P : Program) (w : World) (K : PySem.W.Frag) (mg : Str → Option Value) (base : Heap) (G : SG) : Prop where
  b16 : mg "ValueError" = none
  cm : ∀ (x : Str) (v : Value), CM.mg x = some v → ∃ C, v = .ref C ∧ mg x = some (.ref C) ∧ ExF K C ∧ (∀ k ∈ G.ex, ∃ C', mg k = some (.ref C') ∧ PySem.W.kitOne K (.ref C) (.ref C') = some (exIs x k)) ∧ PySem.W.kitOne K (.ref C) (.type "ValueError") = some true ∧
    (∃ C', mg "WishError" = some (.ref C') ∧ PySem.W.exmOne K (.ref C) (.ref C') = some true) ∧ (x ≠ "NoWish" → PySem.W.excIn K C [.type "ValueError", .type "Exception", .type "BaseException", .type "object"] "ValueError.__new__" = true) ∧
    PySem.W.keepIn K (.ref C) = true ∧ PySem.W.typeIn K (.ref C) = some (.type "type")
  ex : ∀ x ∈ G.ex, ∃ v, CM.mg x = some v
  xn : ∀ k ∈ G.ex, ∀ C : Addr, mg k = some (.ref C) → PySem.W.kitOne K (.type "NoneType") (.ref C) = some false
  nw : ∀ v : Value, CM.mg "NoWish" = some v → ∃ C fI fd, v = .ref C ∧ OexC K C ∧ PySem.W.findIn K (.ref C) "__init__" = some (some (.ref fI)) ∧ PySem.W.typeIn K (.ref fI) = some (.type "function") ∧
    FnOk P w K mg base (L2.CX P w) 1 fI fd ["self", "number"] (spNw K "number") ∧ Binds K fd ["self", "number"] []
/-- .. looked up in the text -/
def exfB (K : PySem.W.Frag) (cn : Str) (D Cw : Addr) : Bool :=
  decide (PySem.W.findIn K (.ref D) "__getattribute__" = some (some (.builtin "BaseException.__getattribute__"))) && (decide (PySem.W.findIn K (.ref D) "__getattr__" = some none) && (decide (PySem.W.subIn K (.ref D) (.type "BaseException") = some true) && (PySem.W.hasDictIn K D &&
  (decide (PySem.W.findIn K (.ref D) "__class__" = some (some (.builtin "object.__class__"))) && (decide (PySem.W.specialIn K (.builtin "object.__class__") "__get__" = some (some (.builtin "getset_descriptor.__get__"))) && (decide (PySem.W.takesIn K (.builtin "object.__class__") = some true) &&
  (decide (PySem.W.mroIn K D (.type "object") = some true) && (decide (PySem.W.findIn K (.ref D) "number" = some none) && (decide (PySem.W.kitOne K (.ref D) (.type "ValueError") = some true) && (decide (PySem.W.exmOne K (.ref D) (.ref Cw) = some true) &&
  ((decide (cn = "NoWish") || PySem.W.excIn K D [.type "ValueError", .type "Exception", .type "BaseException", .type "object"] "ValueError.__new__") && (PySem.W.keepIn K (.ref D) && decide (PySem.W.typeIn K (.ref D) = some (.type "type"))))))))))))))
def kitB (K : PySem.W.Frag) (l : List (Str × Addr)) : Bool := (l.all fun p => l.all fun q => decide (PySem.W.kitOne K (.ref p.2) (.ref q.2) = some (exIs p.1 q.1))) && l.all fun q => decide (PySem.W.kitOne K (.type "NoneType") (.ref q.2) = some false)
theorem lookup_mem {l : List (Str × Addr)} {x : Str} {a : Addr} (h : l.lookup x = some a) : (x, a) ∈ l := by
  induction l with
  | nil => cases h
  | cons q l ih =>
    rw [List.lookup_cons] at h
    split at h
    · rename_i e
      cases h
      rw [eq_of_beq e]
      exact List.mem_cons_self
    · exact List.mem_cons_of_mem _ (ih h)
theorem mem_lookup {l : List (Str × Addr)} {x : Str} (h : x ∈ l.map (·.1)) : ∃ a, l.lookup x = some a := by
  induction l with
  | nil => cases h
  | cons q l ih =>
    rw [List.lookup_cons]
    by_cases e : x = q.1
    · exact ⟨q.2, by rw [e, beq_self_eq_true]⟩
    · have e2 : (x == q.1) = false := by simpa using e
      rw [e2]
      rw [List.map_cons] at h
      rcases List.mem_cons.mp h with z | z
      · exact absurd z e
      · exact ih z
theorem gx_of {P : Program} {w : World} {K : PySem.W.Frag} {mg : Str → Option Value} {base : Heap} {G : SG} {l : List (Str × Addr)} {Cw : Addr} (hm : ∀ q ∈ l, mg q.1 = some (.ref q.2)) (hG : G.ex = l.map (·.1)) (hc : ∀ x, CM.mg x = (l.lookup x).map Value.ref) (hw : mg "WishError" = some (.ref Cw))
    (hB : (l.all fun q => exfB K q.1 q.2 Cw) = true) (hk : kitB K l = true) (hv : mg "ValueError" = none)
    (nw : ∀ C, l.lookup ("NoWish" : Str) = some C → ∃ fI fd, OexC K C ∧ PySem.W.findIn K (.ref C) "__init__" = some (some (.ref fI)) ∧ PySem.W.typeIn K (.ref fI) = some (.type "function") ∧ FnOk P w K mg base (L2.CX P w) 1 fI fd ["self", "number"] (spNw K "number") ∧ Binds K fd ["self", "number"] []) : GX P w K mg base G where
  b16 := hv
  xn := fun x hx C hC => by
    rw [hG] at hx
    obtain ⟨a, e⟩ := mem_lookup hx
    have hq := lookup_mem e
    have e2 := hm _ hq
    rw [hC] at e2
    cases e2
    unfold kitB at hk
    rw [Bool.and_eq_true] at hk
    exact of_decide_eq_true (List.all_eq_true.mp hk.2 _ hq)
  ex := fun x hx => by
    rw [hG] at hx
    obtain ⟨a, e⟩ := mem_lookup hx
    exact ⟨_, by rw [hc, e]; rfl⟩
  cm := fun x v hx => by
    rw [hc] at hx
    cases e : l.lookup x with
    | none => rw [e] at hx; cases hx
    | some C =>
      rw [e] at hx
      cases hx
      have hq := lookup_mem e
      have h := List.all_eq_true.mp hB _ hq
      simp only [exfB, Bool.and_eq_true, Bool.or_eq_true, decide_eq_true_eq] at h
      obtain ⟨h1, h2, h3, h4, h5, h6, h7, h8, h9, h10, h11, h12, h13, h14⟩ := h
      refine ⟨C, rfl, hm _ hq, ⟨h1, h2, h3, h4, h5, h6, h7, h8, h9⟩, fun k hk2 => ?_, h10, ⟨Cw, hw, h11⟩, fun hne => h12.elim (fun z => absurd z hne) id, h13, h14⟩
      rw [hG] at hk2
      obtain ⟨a, e2⟩ := mem_lookup hk2
      have hq2 := lookup_mem e2
      unfold kitB at hk
      rw [Bool.and_eq_true] at hk
      exact ⟨a, hm _ hq2, of_decide_eq_true (List.all_eq_true.mp (List.all_eq_true.mp hk.1 _ hq) _ hq2)⟩
  nw := fun v hx => by
    rw [hc] at hx
    cases e : l.lookup ("NoWish" : Str) with
    | none => rw [e] at hx; cases hx
    | some C =>
      rw [e] at hx
      cases hx
      obtain ⟨fI, fd, h⟩ := nw C e
      exact ⟨C, fI, fd, rfl, h⟩
/-- since the entry -/
theorem sim_step {c : Ctx} {F : Addr → Prop} {r : Env} {σ : L2.St} {H : Hp} (S : Sim c F r σ H) (hp : PenAt c.p c.c0 c.H0) (n1 : ¬ c.F0 c.p) : Step c.F0 c.H0 F H where
  mono := S.fr0
  keep := fun a o f e => by
    obtain ⟨o', e1, l, _⟩ := S.frame a o e fun z => n1 (by rw [← z]; exact f)
    exact ⟨o', e1, l⟩
  tups := fun a xs e => by
    obtain ⟨o', e1, l, _⟩ := S.frame a _ e fun z => by
      obtain ⟨_, _, _, e2, _⟩ := hp
      rw [← z, e] at e2
      cases e2
    rw [e1]
    cases l
    rfl
/-- a def of the program -/
structure DefIn (K : PySem.W.Frag) (mg : Str → Option Value) (G : SG) (fn : Fn) (a : Addr) (fd : FuncData) (st : Stmt) : Prop where
  F : Fun K fn.name fn.name st a fd
  b : Binds K fd fn.ps []
  m : mg fn.name = some (.ref a)
  sc : FnScope fn.N fn.ps (defScope st)
  ch : chB G fn.N (defScope st) fn.body (defBody st) = true

theorem env0_get {fn : Fn} {ds : List D} {i : Nat} {s : Sl} (h : (env0 fn ds)[i]? = some s) : (∃ d, ds[i]? = some d ∧ s = .sh d) ∨ s = .no := by
  unfold env0 at h
  by_cases hi : i < ds.length
  · rw [List.getElem?_append_left (by rw [List.length_map]; exact hi), List.getElem?_map, List.getElem?_eq_getElem hi] at h
    cases h
    exact .inl ⟨ds[i], List.getElem?_eq_getElem hi, rfl⟩
  · rw [List.getElem?_append_right (by rw [List.length_map]; omega), List.getElem?_replicate] at h
    split at h
    · cases h; exact .inr rfl
    · cases h
theorem sim_start {p c0 : Addr} {F : Addr → Prop} {H : Hp} {fn : Fn} {ds : List D} {vs : List V} (hr : Reps p F H ds vs) (hp : PenAt p c0 H) (h1 : ¬ F p) (h2 : ¬ F c0) (h3 : ∀ a, F a → ∃ o, H a = some o) : Sim ⟨p, c0, F, H⟩ F (env0 fn ds) (L2.start fn.N vs) H where
  len := by
    unfold env0 L2.start
    rw [List.length_append, List.length_append, List.length_map, List.length_map, List.length_replicate, List.length_replicate, hr.length]
  slot := fun i s e => by
    rcases env0_get e with ⟨d, h, rfl⟩ | rfl
    · obtain ⟨v, hv, rv⟩ := hr.get h
      refine ⟨v, ?_, rv⟩
      have hi : i < vs.length := (List.getElem?_eq_some_iff.mp hv).1
      unfold L2.start
      rw [List.getElem?_append_left (by rw [List.length_map]; exact hi), List.getElem?_map, hv] <;> rfl
    · trivial
  sep := fun i j a d e hi hj _ _ => by
    rcases env0_get hi with ⟨_, _, h⟩ | h <;> cases h
  frame := fun a o e _ => ⟨o, e, .refl o, .inl rfl⟩
  fr0 := fun a h => h
  fnew := fun a h => .inl h
  ftrk := h3
  pen := hp
  npF := ⟨h1, h2⟩
section
variable {P : Program} {w : World} {K : PySem.W.Frag} {mg : Str → Option Value} {base : Heap} {G : SG}
/-- find_worth: it changes a dict and a list of its caller's -/
structure DefFw (K : PySem.W.Frag) (mg : Str → Option Value) (G : SG) (fn : Fn) (a : Addr) (fd : FuncData) (st : Stmt) : Prop where
  F : Fun K fn.name fn.name st a fd
  b : Binds K fd fn.ps []
  m : mg fn.name = some (.ref a)
  sc : FnScope fn.N fn.ps (defScope st)
  ps : fn.ps.length = 4
  ch : ∃ b, fn.body = .loan b ∧ chB { G with mu := true } fn.N (defScope st) b (defBody st) = true ∧ 1 ∉ wrB b ∧ 3 ∉ wrB b
/-- what is wanted of every def's call -/
def AllOk (P : Program) (w : World) (K : PySem.W.Frag) (mg : Str → Option Value) (base : Heap) (G : SG) (n : Nat) : Prop :=
  (∀ f fn, f ≠ "find_worth" → G.U f = some fn → ∃ a fd, mg fn.name = some (.ref a) ∧ PySem.W.keepIn K (.ref a) = true ∧ Binds K fd fn.ps [] ∧ FnOk P w K mg base (L2.CX P w) (n + 3) a fd fn.ps (spOf fn.ps f (run G.U n)))
  ∧ (∀ fn, G.U "find_worth" = some fn → ∃ a fd, mg fn.name = some (.ref a) ∧ PySem.W.keepIn K (.ref a) = true ∧ Binds K fd fn.ps [] ∧ FnOk P w K mg base CX0 (n + 3) a fd fn.ps (spFw (run G.U n)))
theorem gok_of {N : List Str} {A : Around} {n : Nat} (wx : WX) (gb : GB G mg) (gx : GX P w K mg base G) (nd : N.Nodup) (hr : Room (n + 3) A)
    (ht : ∃ a fd, mg "_law_take" = some (.ref a) ∧ PySem.W.keepIn K (.ref a) = true ∧ Binds K fd ["pen", "many"] [] ∧ FnOk P w K mg base CX0 3 a fd ["pen", "many"] spTake)
    (ha : ∃ a fd, mg "_law_anew" = some (.ref a) ∧ PySem.W.keepIn K (.ref a) = true ∧ Binds K fd ["pen"] [] ∧ FnOk P w K mg base CX0 3 a fd ["pen"] spAnew) (ih : AllOk P w K mg base G n) :
    GOK ⟨G, N, P, w, K, mg, base, A, n, wx⟩ := by
  obtain ⟨ta, tfd, t1, t2, t3, t4⟩ := ht
  obtain ⟨aa, afd, a1, a2, a3, a4⟩ := ha
  exact ⟨gx.b16, gx.cm, gx.nw, gx.ex, gx.xn, nd, hr, gb.b1, gb.b2, gb.b3, gb.b4, gb.b5, gb.b6, gb.b7, gb.b8, gb.b9, gb.b10, gb.b11, gb.b12, gb.b13, gb.b14, gb.b15, gb.ty, gb.cs, ih.2, ih.1, ⟨ta, tfd, t1, t2, t3, t4.mono (by omega)⟩, ⟨aa, afd, a1, a2, a3, a4.mono (by omega)⟩⟩
theorem fn_ok {n : Nat} {f : String} {fn : Fn} (gb : GB G mg) (gx : GX P w K mg base G) (hU : G.U f = some fn) (hd : ∃ a fd st, DefIn K mg G fn a fd st) (hm : G.mu = false)
    (ht : ∃ a fd, mg "_law_take" = some (.ref a) ∧ PySem.W.keepIn K (.ref a) = true ∧ Binds K fd ["pen", "many"] [] ∧ FnOk P w K mg base CX0 3 a fd ["pen", "many"] spTake)
    (ha : ∃ a fd, mg "_law_anew" = some (.ref a) ∧ PySem.W.keepIn K (.ref a) = true ∧ Binds K fd ["pen"] [] ∧ FnOk P w K mg base CX0 3 a fd ["pen"] spAnew) (ih : AllOk P w K mg base G n) :
    ∃ a fd, mg fn.name = some (.ref a) ∧ PySem.W.keepIn K (.ref a) = true ∧ Binds K fd fn.ps [] ∧ FnOk P w K mg base (L2.CX P w) (n + 1 + 3) a fd fn.ps (spOf fn.ps f (run G.U (n + 1))) := by
  obtain ⟨a, fd, st, Dn⟩ := hd
  refine ⟨a, fd, Dn.m, Dn.F.kp, Dn.b, ?_⟩
  refine Dn.F.okX Dn.sc (fun vs H Q E h => ?_) (fun cdv A outer s H vs Q E hr h => ?_)
  · obtain ⟨p, c0, F, ds, R, _, h1, _, _, _, _, h2, _⟩ := h
    rw [h1.length, h2]
  obtain ⟨p, c0, F, ds, R, xp, hreps, hpen, hFp, hFc, htrk, hl, hrun, hpost, hpostX⟩ := h
  have hrun' : ds.length = fn.ps.length ∧ evB (run G.U n) (fun x _ => xp x) fn.body (env0 fn ds) (fun _ => R false .non) (fun fl d _ => R fl d) := by
    rw [run_succ, hU] at hrun
    exact hrun
  have GK : GOK ⟨G, fn.N, P, w, K, mg, base, A.deeper (envOfC fn.name (defScope st) s.heap.objs.size a cdv), n, fun cls d _ H => E cls d H⟩ := gok_of _ gb gx Dn.sc.nd hr ht ha ih
  obtain ⟨t, h1, h2⟩ := sndB (sc := defScope st) GK fn.body (defBody st) Dn.ch
  have inst : ∀ σ, XpOk ⟨G, fn.N, P, w, K, mg, base, A.deeper (envOfC fn.name (defScope st) s.heap.objs.size a cdv), n, fun cls d _ H => E cls d H⟩ (fun x _ => xp x) ⟨p, c0, F, H⟩ σ := fun σ =>
    ⟨fun cn m F' r' H' cls d hx S' hm hd => hpostX cn m hx cls d F' H' (sim_step S' hpen hFp) S'.frame S'.fnew S'.ftrk S'.pen S'.npF.1 S'.npF.2 hm hd⟩
  refine ⟨t, h1 _ ⟨⟨rfl, rfl, rfl, rfl, rfl, rfl, rfl, rfl, rfl, L2.takes_of rfl rfl rfl rfl⟩, rfl, L2.passes_of rfl, rfl, rfl, rfl⟩, ?_⟩
  refine h2 ⟨p, c0, F, H⟩ F (env0 fn ds) (L2.start fn.N vs) H _ _ _ (sim_start hreps hpen hFp hFc htrk) hrun'.2 (fun r' F' σ' H' q st' S' _ => ?_) fun fl d r' F' σ' H' v q st' S' _ res => ?_
  · exact hpost _ _ q .non F' H' st' S'.frame S'.fnew S'.ftrk S'.pen S'.npF.1 S'.npF.2 rfl
  · refine hpost _ _ q v F' H' st' S'.frame S'.fnew S'.ftrk S'.pen S'.npF.1 S'.npF.2 ?_
    rcases res with ⟨_, res⟩ | ⟨z, _⟩
    · cases fl with
      | false => exact res
      | true =>
        rcases res with ⟨b, e, o, h3, h4, h5, h6, _⟩ | ⟨dx, Gx, e, hG, R, hat⟩
        · exact .inl ⟨b, e, o, h3, h4, h5, h6⟩
        · exact .inr ⟨dx, Gx, e, fun a ga => let ⟨g1, g2, g3, g4, g5, _⟩ := hG a ga; ⟨g1, g2, g3, g4, g5⟩, R, hat⟩
    · rw [show (⟨G, fn.N, P, w, K, mg, base, A.deeper (envOfC fn.name (defScope st) s.heap.objs.size a cdv), n, fun cls d _ H => E cls d H⟩ : Wd).G.mu = G.mu from rfl, hm] at z
      cases z
def lessH (H : Hp) (t q : Addr) : Hp := fun a => if a = t ∨ a = q then none else H a
theorem lessH_some {H : Hp} {t q a : Addr} {o : HO} (h : lessH H t q a = some o) : a ≠ t ∧ a ≠ q ∧ H a = some o := by
  unfold lessH at h
  by_cases c : a = t ∨ a = q
  · rw [if_pos c] at h; cases h
  · rw [if_neg c] at h
    exact ⟨fun e => c (.inl e), fun e => c (.inr e), h⟩
theorem lessH_none {H : Hp} {t q a : Addr} (h : lessH H t q a = none) : a = t ∨ a = q ∨ H a = none := by
  unfold lessH at h
  by_cases c : a = t ∨ a = q
  · rcases c with c | c
    · exact .inl c
    · exact .inr (.inl c)
  · rw [if_neg c] at h
    exact .inr (.inr h)
theorem fw_ok {n : Nat} {fn : Fn} (gb : GB G mg) (gx : GX P w K mg base G) (hU : G.U "find_worth" = some fn) (hd : ∃ a fd st, DefFw K mg G fn a fd st)
    (ht : ∃ a fd, mg "_law_take" = some (.ref a) ∧ PySem.W.keepIn K (.ref a) = true ∧ Binds K fd ["pen", "many"] [] ∧ FnOk P w K mg base CX0 3 a fd ["pen", "many"] spTake)
    (ha : ∃ a fd, mg "_law_anew" = some (.ref a) ∧ PySem.W.keepIn K (.ref a) = true ∧ Binds K fd ["pen"] [] ∧ FnOk P w K mg base CX0 3 a fd ["pen"] spAnew) (ih : AllOk P w K mg base G n) :
    ∃ a fd, mg fn.name = some (.ref a) ∧ PySem.W.keepIn K (.ref a) = true ∧ Binds K fd fn.ps [] ∧ FnOk P w K mg base CX0 (n + 1 + 3) a fd fn.ps (spFw (run G.U (n + 1))) := by
  obtain ⟨a, fd, st, Dn⟩ := hd
  refine ⟨a, fd, Dn.m, Dn.F.kp, Dn.b, ?_⟩
  refine Dn.F.ok Dn.sc (fun vs H Q E h => ?_) (fun cdv A outer s H vs Q E hr h => ?_)
  · obtain ⟨_, _, _, _, _, _, _, _, _, _, _, rfl, _⟩ := h
    rw [Dn.ps]; rfl
  obtain ⟨p, c0, F, tt, qq, sd, kvs, nm, xs, vst, R, rfl, hR, oT, oQ, nT, nQ, tp, tc, qp, qc, hpen, hFp, hFc, htrk, hrun, hpost⟩ := h
  obtain ⟨bd, hbody, hch, w1, w3⟩ := Dn.ch
  have hrun' : evB (run G.U n) X0 (.loan bd) (env0 fn [sd, .dic kvs, .int nm, .lst xs]) (fun _ => R false .non) (fun fl d _ => R fl d) := by
    rw [run_succ, hU] at hrun
    rw [← hbody]
    exact hrun.2
  have hrun2 : evB (run G.U n) X0 bd (((env0 fn [sd, .dic kvs, .int nm, .lst xs]).set 1 (.ow (.dic kvs))).set 3 (.ow (.lst xs))) (fun _ => R false .non) (fun fl d _ => R fl d) := by
    unfold evB at hrun'
    exact hrun'
  have GK : GOK ⟨{ G with mu := true }, fn.N, P, w, K, mg, base, A.deeper (envOfC fn.name (defScope st) s.heap.objs.size a cdv), n, fun _ _ _ _ => False⟩ := gok_of (G := { G with mu := true }) _ ⟨gb.b1, gb.b2, gb.b3, gb.b4, gb.b5, gb.b6, gb.b7, gb.b8, gb.b9, gb.b10, gb.b11, gb.b12, gb.b13, gb.b14, gb.b15, gb.ty, gb.cs⟩ ⟨gx.b16, gx.cm, gx.ex, gx.xn, gx.nw⟩ Dn.sc.nd hr ht ha ih
  obtain ⟨t, h1, h2⟩ := sndB (sc := defScope st) GK bd (defBody st) hch
  refine ⟨t, h1 _ ⟨⟨rfl, rfl, rfl, rfl, rfl, rfl, rfl, rfl, rfl, L2.takes0⟩, rfl, fun _ _ h => h.elim, rfl, rfl, rfl⟩, ?_⟩
  have S0 : Sim ⟨p, c0, F, lessH H tt qq⟩ F (((env0 fn [sd, .dic kvs, .int nm, .lst xs]).set 1 (.ow (.dic kvs))).set 3 (.ow (.lst xs))) (L2.start fn.N [vst, .ref tt, .int nm, .ref qq]) H := by
    have hr : ((env0 fn [sd, .dic kvs, .int nm, .lst xs]).set 1 (.ow (.dic kvs))).set 3 (.ow (.lst xs)) = [.sh sd, .ow (.dic kvs), .sh (.int nm), .ow (.lst xs)] ++ List.replicate (fn.N.length - 4) .no := rfl
    have hσ : L2.start fn.N [vst, .ref tt, .int nm, .ref qq] = [some vst, some (.ref tt), some (.int nm), some (.ref qq)] ++ List.replicate (fn.N.length - 4) none := rfl
    rw [hr, hσ]
    have hne : tt ≠ qq := fun e => by
      obtain ⟨_, e1, _⟩ := oT
      obtain ⟨_, e2, _⟩ := oQ
      rw [e, e2] at e1; cases e1
    have big : ∀ (j : Nat) (s : Sl), ([.sh sd, .ow (.dic kvs), .sh (.int nm), .ow (.lst xs)] ++ List.replicate (fn.N.length - 4) .no)[j + 4]? = some s → s = .no := fun j s e => by
      rw [List.getElem?_append_right (by show 4 ≤ j + 4; omega), List.getElem?_replicate] at e
      split at e
      · cases e; rfl
      · cases e
    refine ⟨by rw [List.length_append, List.length_append, List.length_replicate, List.length_replicate]; rfl, fun j s e => ?_, fun i j a d e hi hj si sj => ?_, fun a o e n => ?_, fun a h => h, fun a h => .inl h, htrk, hpen, hFp, hFc⟩
    · match j, e with
      | 0, e => cases e; exact ⟨vst, rfl, hR⟩
      | 1, e => cases e; exact ⟨tt, rfl, oT, nT, if_pos (.inl rfl), tp, tc⟩
      | 2, e => cases e; exact ⟨.int nm, rfl, rfl⟩
      | 3, e => cases e; exact ⟨qq, rfl, oQ, nQ, if_pos (.inr rfl), qp, qc⟩
      | j + 4, e => rw [big j s e]; trivial
    · match i, hi, si with
      | 0, hi, _ => cases hi
      | 2, hi, _ => cases hi
      | i + 4, hi, _ => cases big i _ hi
      | 1, hi, si =>
        match j, hj, sj with
        | 0, hj, _ => cases hj
        | 2, hj, _ => cases hj
        | j + 4, hj, _ => cases big j _ hj
        | 1, _, _ => rfl
        | 3, _, sj => cases si; cases sj; exact absurd rfl hne
      | 3, hi, si =>
        match j, hj, sj with
        | 0, hj, _ => cases hj
        | 2, hj, _ => cases hj
        | j + 4, hj, _ => cases big j _ hj
        | 3, _, _ => rfl
        | 1, _, sj => cases si; cases sj; exact absurd rfl hne
    · exact ⟨o, (lessH_some e).2.2, .refl o, .inl rfl⟩
  refine h2 _ F _ _ H _ _ _ S0 hrun2 (fun r' F' σ' H' q st' S' _ => ?_) fun fl d r' F' σ' H' v q st' S' fx res => ?_
  · obtain ⟨_, _, _, e, _⟩ := hpost _ _ q
    cases e
  · rcases res with ⟨z, _⟩ | ⟨_, d0, kvs', xs', rfl, Rv, s1, s3⟩
    · cases z
    · obtain ⟨b, _, _, e, PW⟩ := hpost _ _ q
      cases e
      cases (show v = .bl b from Rv)
      obtain ⟨a1, e1, o1, f1, _⟩ := S'.slot 1 _ s1
      obtain ⟨a3, e3, o3, f3, _⟩ := S'.slot 3 _ s3
      rw [fx 1 w1] at e1
      rw [fx 3 w3] at e3
      cases e1
      cases e3
      refine PW F' H' st' (fun a o e n1 n2 n3 => S'.frame a o (by show lessH H tt qq a = some o; unfold lessH; rw [if_neg (fun z => z.elim n2 n3)]; exact e) n1) (fun a h => ?_) S'.ftrk S'.pen S'.npF.1 S'.npF.2 o1 o3 f1 f3
      rcases S'.fnew a h with z | z
      · exact .inl z
      · rcases lessH_none z with z | z | z
        · rw [z] at h; exact absurd h f1
        · rw [z] at h; exact absurd h f3
        · exact .inr z
theorem all_ok (gb : GB G mg) (gx : GX P w K mg base G) (hm : G.mu = false) (hnd : ∀ f fn, f ≠ "find_worth" → G.U f = some fn → ∃ a fd st, DefIn K mg G fn a fd st) (hfw : ∀ fn, G.U "find_worth" = some fn → ∃ a fd st, DefFw K mg G fn a fd st)
    (ht : ∃ a fd, mg "_law_take" = some (.ref a) ∧ PySem.W.keepIn K (.ref a) = true ∧ Binds K fd ["pen", "many"] [] ∧ FnOk P w K mg base CX0 3 a fd ["pen", "many"] spTake)
    (ha : ∃ a fd, mg "_law_anew" = some (.ref a) ∧ PySem.W.keepIn K (.ref a) = true ∧ Binds K fd ["pen"] [] ∧ FnOk P w K mg base CX0 3 a fd ["pen"] spAnew) :
    ∀ (n : Nat), AllOk P w K mg base G n
  | 0 => by
    refine ⟨fun f fn hf hU => ?_, fun fn hU => ?_⟩
    · obtain ⟨a, fd, st, Dn⟩ := hnd f fn hf hU
      refine ⟨a, fd, Dn.m, Dn.F.kp, Dn.b, ?_⟩
      have no : ∀ vs H Q E, ¬ spOf fn.ps f (run G.U 0) vs H Q E := fun vs H Q E h => by
        obtain ⟨_, _, _, _, _, _, _, _, _, _, _, _, h, _⟩ := h
        rw [run_zero] at h
        exact h
      exact ⟨fun vs H Q E h => absurd h (no vs H Q E), fun A outer s H args us vs Q E _ _ _ _ h => absurd h (no vs H Q E)⟩
    · obtain ⟨a, fd, st, Dn⟩ := hfw fn hU
      refine ⟨a, fd, Dn.m, Dn.F.kp, Dn.b, ?_⟩
      have no : ∀ vs H Q E, ¬ spFw (run G.U 0) vs H Q E := fun vs H Q E h => by
        obtain ⟨_, _, _, _, _, _, _, _, _, _, _, _, _, _, _, _, _, _, _, _, _, _, _, _, _, h, _⟩ := h
        rw [run_zero] at h
        exact h
      exact ⟨fun vs H Q E h => absurd h (no vs H Q E), fun A outer s H args us vs Q E _ _ _ _ h => absurd h (no vs H Q E)⟩
  | n + 1 => by
    have ih := all_ok gb gx hm hnd hfw ht ha n
    exact ⟨fun f fn hf hU => fn_ok gb gx hU (hnd f fn hf hU) hm ht ha ih, fun fn hU => fw_ok gb gx hU (hfw fn hU) ht ha ih⟩
end
end Wa

/-! running the interpreter by hand: loops, comprehensions, places -/
namespace Wa
open PySem PySem.Spec PyProof.Rows L2

theorem forL_ind {body : D → Wa.Env → (Wa.Env → Prop) → Prop} {k : Wa.Env → Prop} (P : Nat → Wa.Env → Prop) : ∀ {xs : List D} {r : Wa.Env} (m : Nat), P m r → (∀ i x r' k', xs[i]? = some x → P (m + i) r' → (∀ r'', P (m + i + 1) r'' → k' r'') → body x r' k') → (∀ r', P (m + xs.length) r' → k r') → forL body xs r k
  | [], r, m, h0, _, hd => by
    unfold forL
    exact hd r h0
  | x :: xs, r, m, h0, hs, hd => by
    unfold forL
    refine hs 0 x r _ rfl h0 fun r'' h1 => ?_
    refine forL_ind P (m + 1) h1 (fun i y r' k' hi hp hk => ?_) fun r' hp => ?_
    · refine hs (i + 1) y r' k' (by simpa using hi) (by rw [show m + (i + 1) = m + 1 + i by omega]; exact hp) fun r'' h2 => hk r'' (by rw [show m + 1 + i + 1 = m + (i + 1) + 1 by omega]; exact h2)
    · exact hd r' (by rw [List.length_cons, show m + (xs.length + 1) = m + 1 + xs.length by omega]; exact hp)
/-- one word for all turns -/
theorem forL_all {body : D → Wa.Env → (Wa.Env → Prop) → Prop} {k : Wa.Env → Prop} (P : Wa.Env → Prop) {xs : List D} {r : Wa.Env} (h0 : P r) (hs : ∀ x ∈ xs, ∀ r' k', P r' → (∀ r'', P r'' → k' r'') → body x r' k') (hd : ∀ r', P r' → k r') : forL body xs r k :=
  forL_ind (fun _ => P) 0 h0 (fun i x r' k' hi => hs x (List.mem_of_getElem? hi) r' k') hd
/-- a comprehension without a test: each item's value -/
theorem lcL_map {body : D → Wa.Env → (Option D → Wa.Env → Prop) → Prop} {k : List D → Wa.Env → Prop} (P : Wa.Env → Prop) (f : D → D) : ∀ {xs : List D} {r : Wa.Env} (acc : List D), P r → (∀ x ∈ xs, ∀ r' k', P r' → (∀ r'', P r'' → k' (some (f x)) r'') → body x r' k') → (∀ r', P r' → k (acc ++ xs.map f) r') → lcL body xs r acc k
  | [], r, acc, h0, _, hd => by
    unfold lcL
    rw [List.map_nil, List.append_nil] at hd
    exact hd r h0
  | x :: xs, r, acc, h0, hs, hd => by
    unfold lcL
    refine hs x List.mem_cons_self r _ h0 fun r'' h1 => ?_
    refine lcL_map P f (acc ++ [f x]) h1 (fun y hy => hs y (List.mem_cons_of_mem _ hy)) fun r' hp => ?_
    rw [List.append_assoc]
    exact hd r' hp
/-- .. whose items are of a kind -/
theorem lcL_kind {body : D → Wa.Env → (Option D → Wa.Env → Prop) → Prop} {k : List D → Wa.Env → Prop} (P : Wa.Env → Prop) (K : D → Prop) : ∀ {xs : List D} {r : Wa.Env} (acc : List D), (∀ y ∈ acc, K y) → P r → (∀ x ∈ xs, ∀ r' k', P r' → (∀ y r'', K y → P r'' → k' (some y) r'') → body x r' k') → (∀ ys r', ys.length = acc.length + xs.length → (∀ y ∈ ys, K y) → P r' → k ys r') → lcL body xs r acc k
  | [], r, acc, ha, h0, _, hd => by
    unfold lcL
    exact hd acc r rfl ha h0
  | x :: xs, r, acc, ha, h0, hs, hd => by
    unfold lcL
    refine hs x List.mem_cons_self r _ h0 fun y r'' hy h1 => ?_
    refine lcL_kind P K (acc ++ [y]) (fun z hz => ?_) h1 (fun y hy => hs y (List.mem_cons_of_mem _ hy)) fun ys r' hl hk hp => ?_
    · rcases List.mem_append.mp hz with hz | hz
      · exact ha z hz
      · rw [List.mem_singleton.mp hz]; exact hy
    · exact hd ys r' (by rw [hl, List.length_append, List.length_singleton, List.length_cons]; omega) hk hp
theorem isAt_of {xs : List D} {k : Int} (h0 : 0 ≤ k) (h : k < (xs.length : Int)) : ∃ x ∈ xs, isAt xs k = some (false, x) := by
  have hk : k.toNat < xs.length := by omega
  refine ⟨xs[k.toNat], List.getElem_mem hk, ?_⟩
  unfold isAt atI ixN
  rw [if_pos h0, if_pos h]
  show ((xs[k.toNat]?).map fun d => (false, d)) = _
  rw [List.getElem?_eq_getElem hk] <;> rfl
/-! truths in the middle -/
def onB (d : D) (A B : Prop) : Prop := match d with
  | .bl true => A
  | .bl false => B
  | _ => False
@[simp] theorem onB_bl {b : Bool} {A B : Prop} : onB (.bl b) A B = if b = true then A else B := by cases b <;> rfl
section
variable {cl : Cl} {xp : D → Env → Prop}
/-- what stands behind a truth -/
def isB (d : D) (k : Bool → Prop) : Prop := match d with
  | .bl b => k b
  | _ => False
@[simp] theorem isB_bl {b : Bool} {k : Bool → Prop} : isB (.bl b) k = k b := rfl
end
theorem run_intro {U : String → Option Fn} {n : Nat} {f : String} {fn : Fn} {ds : List D} {Q : Bool → D → Prop} {xp : D → Prop} (hU : U f = some fn) (hl : ds.length = fn.ps.length) (h : evB (run U n) (fun x _ => xp x) fn.body (env0 fn ds) (fun _ => Q false .non) (fun fl d _ => Q fl d)) : run U (n + 1) f ds Q xp := by
  rw [run_succ, hU]
  exact ⟨hl, h⟩
theorem ite_t {c : Bool} {A B : Prop} (h : c = true) (h1 : A) : if c = true then A else B := by rw [if_pos h]; exact h1
theorem ite_f {c : Bool} {A B : Prop} (h : c = false) (h1 : B) : if c = true then A else B := by rw [if_neg (by rw [h]; exact Bool.false_ne_true)]; exact h1
theorem ap_of {p : P} {r : Wa.Env} {ts : List Tok} {Q : Bool → D → Wa.Env → Prop} {ds : List D} {fl : Bool} {d : D} (h1 : toks r ts = some ds) (h2 : prim p ds = some (fl, d)) (h : Q fl d r) : ap p r ts Q := by
  unfold ap
  rw [h1]
  simp only [h2]
  exact h
theorem prim_eq {d e : D} (h1 : shp d 60 = true) (h2 : shp e 60 = true) : prim .eq [d, e] = some (false, .bl (eqd d e)) := by
  show okI (shp d 60 && shp e 60) _ = _
  rw [h1, h2]
  rfl
theorem prim_ne {d e : D} (h1 : shp d 60 = true) (h2 : shp e 60 = true) : prim .ne [d, e] = some (false, .bl (!eqd d e)) := by
  show okI (shp d 60 && shp e 60) _ = _
  rw [h1, h2]
  rfl
theorem prim_isi {t : Ty} {d : D} (h : isData d = true) : prim (.isi t) [d] = some (false, .bl (isiD t d)) := by
  show okI (isData d) _ = _
  rw [h]
  rfl
/-! ### shapes -/
mutual
theorem shp_le : ∀ (d : D) {m n : Nat}, shp d m = true → m ≤ n → shp d n = true
  | .non, _, _, _, _ => rfl
  | .bl _, _, _, _, _ => rfl
  | .int _, _, _, _, _ => rfl
  | .str s, _, _, h, _ => h
  | .tup xs, m, n, h, hl => by
    cases m with
    | zero => cases h
    | succ m =>
      cases n with
      | zero => omega
      | succ n => exact shps_le xs (show shps xs m = true from h) (by omega)
  | .lst xs, m, n, h, hl => by
    cases m with
    | zero => cases h
    | succ m =>
      cases n with
      | zero => omega
      | succ n => exact shps_le xs (show shps xs m = true from h) (by omega)
  | .dic _, _, _, h, _ => by cases h
  | .pen, _, _, h, _ => by cases h
  | .exc _ _, _, _, h, _ => by cases h
theorem shps_le : ∀ (l : List D) {m n : Nat}, shps l m = true → m ≤ n → shps l n = true
  | [], _, _, _, _ => rfl
  | x :: xs, m, n, h, hl => by
    have h : (shp x m && shps xs m) = true := h
    show (shp x n && shps xs n) = true
    rw [Bool.and_eq_true] at h ⊢
    exact ⟨shp_le x h.1 hl, shps_le xs h.2 hl⟩
end
theorem shps_iff : ∀ {l : List D} {n : Nat}, shps l n = true ↔ ∀ x ∈ l, shp x n = true
  | [], n => ⟨fun _ x hx => (nomatch hx), fun _ => rfl⟩
  | x :: xs, n => by
    show (shp x n && shps xs n) = true ↔ _
    rw [Bool.and_eq_true, shps_iff]
    simp
theorem data_of {d : D} {n : Nat} (h : shp d n = true) : isData d = true := by
  cases d <;> first | rfl | cases h
theorem shp_tup {xs : List D} {n : Nat} (h : shp (.tup xs) n = true) : ∀ x ∈ xs, shp x (n - 1) = true := by
  cases n with
  | zero => cases h
  | succ n => exact shps_iff.mp h
theorem shp_lst {xs : List D} {n : Nat} (h : shp (.lst xs) n = true) : ∀ x ∈ xs, shp x (n - 1) = true := by
  cases n with
  | zero => cases h
  | succ n => exact shps_iff.mp h
theorem shp_tup_of {xs : List D} {n : Nat} (h : ∀ x ∈ xs, shp x n = true) : shp (.tup xs) (n + 1) = true := shps_iff.mpr h
theorem shp_lst_of {xs : List D} {n : Nat} (h : ∀ x ∈ xs, shp x n = true) : shp (.lst xs) (n + 1) = true := shps_iff.mpr h
theorem rangeL_len' {lo c : Int} {n : Nat} : (rangeL lo c n).length = n := by unfold rangeL; simp
theorem in62_of {i : Int} (h1 : -8388608 ≤ i) (h2 : i ≤ 8388608) : in62 i = true := by
  unfold in62
  rw [Bool.and_eq_true, decide_eq_true_eq, decide_eq_true_eq]
  exact ⟨h1, h2⟩
/-! depth and width -/
mutual
def wid : D → Nat → Bool
  | .tup xs, n => decide (xs.length ≤ n) && wids xs n
  | .lst xs, n => decide (xs.length ≤ n) && wids xs n
  | _, _ => true
def wids : List D → Nat → Bool
  | [], _ => true
  | x :: xs, n => wid x n && wids xs n
end
theorem wids_iff : ∀ {l : List D} {n : Nat}, wids l n = true ↔ ∀ x ∈ l, wid x n = true
  | [], n => ⟨fun _ x hx => (nomatch hx), fun _ => rfl⟩
  | x :: xs, n => by
    show (wid x n && wids xs n) = true ↔ _
    rw [Bool.and_eq_true, wids_iff]
    simp
mutual
theorem wid_le : ∀ (d : D) {m n : Nat}, wid d m = true → m ≤ n → wid d n = true
  | .non, _, _, _, _ => rfl
  | .bl _, _, _, _, _ => rfl
  | .int _, _, _, _, _ => rfl
  | .str s, _, _, h, _ => rfl
  | .tup xs, m, n, h, hl => by
    have h : (decide (xs.length ≤ m) && wids xs m) = true := h
    show (decide (xs.length ≤ n) && wids xs n) = true
    rw [Bool.and_eq_true, decide_eq_true_eq] at h ⊢
    exact ⟨Nat.le_trans h.1 hl, wids_le xs h.2 hl⟩
  | .lst xs, m, n, h, hl => by
    have h : (decide (xs.length ≤ m) && wids xs m) = true := h
    show (decide (xs.length ≤ n) && wids xs n) = true
    rw [Bool.and_eq_true, decide_eq_true_eq] at h ⊢
    exact ⟨Nat.le_trans h.1 hl, wids_le xs h.2 hl⟩
  | .dic _, _, _, h, _ => rfl
  | .pen, _, _, h, _ => rfl
  | .exc _ _, _, _, h, _ => rfl
theorem wids_le : ∀ (l : List D) {m n : Nat}, wids l m = true → m ≤ n → wids l n = true
  | [], _, _, _, _ => rfl
  | x :: xs, m, n, h, hl => by
    have h : (wid x m && wids xs m) = true := h
    show (wid x n && wids xs n) = true
    rw [Bool.and_eq_true] at h ⊢
    exact ⟨wid_le x h.1 hl, wids_le xs h.2 hl⟩
end
structure Fit (k w : Nat) (d : D) : Prop where
  deep : shp d k = true
  wide : wid d w = true
theorem Fit.le {k w k' w' : Nat} {d : D} (h : Fit k w d) (h1 : k ≤ k') (h2 : w ≤ w') : Fit k' w' d := ⟨shp_le d h.deep h1, wid_le d h.wide h2⟩
theorem Fit.data {k w : Nat} {d : D} (h : Fit k w d) : isData d = true := data_of h.deep
theorem Fit.tup {k w : Nat} {xs : List D} (h : ∀ x ∈ xs, Fit k w x) (hl : xs.length ≤ w) : Fit (k + 1) w (.tup xs) :=
  ⟨shp_tup_of fun x hx => (h x hx).deep, by
    show (decide (xs.length ≤ w) && wids xs w) = true
    rw [decide_eq_true hl, Bool.true_and]
    exact wids_iff.mpr fun x hx => (h x hx).wide⟩
theorem Fit.lst {k w : Nat} {xs : List D} (h : ∀ x ∈ xs, Fit k w x) (hl : xs.length ≤ w) : Fit (k + 1) w (.lst xs) :=
  ⟨shp_lst_of fun x hx => (h x hx).deep, by
    show (decide (xs.length ≤ w) && wids xs w) = true
    rw [decide_eq_true hl, Bool.true_and]
    exact wids_iff.mpr fun x hx => (h x hx).wide⟩
theorem Fit.int {k w : Nat} {i : Int} : Fit k w (.int i) := ⟨rfl, rfl⟩
theorem Fit.bl {k w : Nat} {i : Bool} : Fit k w (.bl i) := ⟨rfl, rfl⟩
theorem Fit.non {k w : Nat} : Fit k w .non := ⟨rfl, rfl⟩
theorem Fit.tupI {k w : Nat} {l : List Int} (hl : l.length ≤ w) : Fit (k + 1) w (.tup (l.map D.int)) := Fit.tup (fun x hx => by
  obtain ⟨i, _, rfl⟩ := List.mem_map.mp hx
  exact .int) (by rw [List.length_map]; exact hl)
theorem prim_addL {xs ys : List D} (h : xs.length + ys.length ≤ big) : prim .add [.lst xs, .lst ys] = some (true, .lst (xs ++ ys)) := by
  show (if xs.length + ys.length ≤ big then _ else none) = _
  rw [if_pos h]
theorem prim_ixL {xs : List D} {i : Int} {d : D} (h : isAt xs i = some (false, d)) : prim .ix [.lst xs, .int i] = some (false, d) := h
/-! item by item -/
inductive Rel2 {α β : Type} (K : α → β → Prop) : List α → List β → Prop where
  | nil : Rel2 K [] []
  | cons {x y xs ys} : K x y → Rel2 K xs ys → Rel2 K (x :: xs) (y :: ys)
theorem Rel2.length {α β : Type} {K : α → β → Prop} {xs : List α} {ys : List β} (h : Rel2 K xs ys) : ys.length = xs.length := by
  induction h with
  | nil => rfl
  | cons _ _ ih => rw [List.length_cons, List.length_cons, ih]
theorem ixN_nat {n : Nat} {k : Int} (h0 : 0 ≤ k) (h1 : k < (n : Int)) : L2.ixN n k = some k.toNat := by
  unfold L2.ixN
  rw [if_pos h0, if_pos h1]
end Wa

/-! equality of values, places, sorting, in plain words -/
namespace Wa
/-- where no exception is spoken of -/
instance (priority := low) noCM : CM := ⟨fun _ => none⟩
theorem eqd_int {a b : Int} : eqd (.int a) (.int b) = decide (a = b) := by
  show (a == b) = _
  rw [Bool.eq_iff_iff, beq_iff_eq, decide_eq_true_eq]
theorem eqd_bl {a b : Bool} : eqd (.bl a) (.bl b) = decide (a = b) := by cases a <;> cases b <;> rfl
theorem eqd_str {a b : PySem.Str} : eqd (.str a) (.str b) = decide (a = b) := by
  show (a == b) = _
  rw [Bool.eq_iff_iff, beq_iff_eq, decide_eq_true_eq]
/-! rising -/
end Wa

/-! the defs of the cut programs -/
namespace Df
open PySem (Str)
open Wa
def f__law_same : Fn := ⟨"_law_same", ["found", "due"], ["found", "due", "one", "other"], (.cons (.ite (.val (.cmp .isN (.bor 1) (.ex (.cst .non)))) (.cons (.ret (.cmp .isN (.bor 0) (.ex (.cst .non)))) .nil) .nil) (.cons (.ite (.or (.val (.isi .bool (.bor 1))) (.val (.isi .bool (.bor 0)))) (.cons (.ret (.and (.isi .bool (.bor 1)) (.and (.isi .bool (.bor 0)) (.cmp .eq (.bor 0) (.bor 1))))) .nil) .nil) (.cons (.ite (.val (.isi .int (.bor 1))) (.cons (.ret (.and (.isi .int (.bor 0)) (.cmp .eq (.bor 0) (.bor 1)))) .nil) .nil) (.cons (.ite (.val (.isi .str (.bor 1))) (.cons (.ret (.and (.isi .str (.bor 0)) (.cmp .eq (.bor 0) (.bor 1)))) .nil) .nil) (.cons (.ite (.or (.val (.cmp .ne (.ex (.isi .tuple (.bor 1))) (.ex (.isi .tuple (.bor 0))))) (.val (.cmp .ne (.ex (.isi .list (.bor 1))) (.ex (.isi .list (.bor 0)))))) (.cons (.ret (.cst (.bl false))) .nil) .nil) (.cons (.ite (.val (.cmp .ne (.ex (.bi .len (.cons (.bor 0) .nil))) (.ex (.bi .len (.cons (.bor 1) .nil))))) (.cons (.ret (.cst (.bl false))) .nil) .nil) (.cons (.ret (.cmp .nin (.ex (.cst (.bl false))) (.ex (.lc [("one", 2), ("other", 3)] (.tp [(.nm 2), (.nm 3)]) (.zip (.var 0) (.var 1)) .yes (.call "_law_same" (.cons (.ex (.var 2)) (.cons (.ex (.var 3)) .nil))))))) .nil)))))))⟩
def f__law_sign_but : Fn := ⟨"_law_sign_but", ["pen", "others"], ["pen", "others", "all_signs", "some", "sign"], (.cons (.asg 2 (.cst (.str " !\"#$&'()*+,-./0123456789:;<=>?@ABCDEFGHIJKLMNOPQRSTUVWXYZ[\\]^_`"))) (.cons (.asg 2 (.bop .add (.bor 2) (.ex (.cst (.str "abcdefghijklmnopqrstuvwxyz{|}~	\n"))))) (.cons (.asg 3 (.lc [("sign", 4)] (.nm 4) (.txt (.var 2)) (.val (.cmp .nin (.bor 4) (.bor 1))) (.var 4))) (.cons (.ret (.ixx (.bor 3) (.ex (.draw (.var 0) (.bi .len (.cons (.bor 3) .nil)))))) .nil))))⟩
def f__law_any_sign : Fn := ⟨"_law_any_sign", ["pen"], ["pen"], (.cons (.ret (.call "_law_sign_but" (.cons (.ex (.var 0)) (.cons (.ex (.cst (.str ""))) .nil)))) .nil)⟩
def f__law_refusal : Fn := ⟨"_law_refusal", ["caught"], ["caught", "some"], (.cons (.asg 1 (.lstd (.cons (.ex (.exi "Free" (.bor 0))) (.cons (.ex (.exi "NoLine" (.bor 0))) (.cons (.ex (.exi "NoName" (.bor 0))) .nil))))) (.cons (.asg 1 (.bop .add (.bor 1) (.ex (.lstd (.cons (.ex (.exi "NoStand" (.bor 0))) (.cons (.ex (.exi "NoText" (.bor 0))) (.cons (.ex (.exi "NoWish" (.bor 0))) .nil))))))) (.cons (.asg 1 (.bop .add (.bor 1) (.ex (.lstd (.cons (.ex (.exi "NoWorth" (.bor 0))) (.cons (.ex (.exi "Settled" (.bor 0))) (.cons (.ex (.exi "TooMany" (.bor 0))) .nil))))))) (.cons (.ite (.or (.val (.cmp .ne (.ex (.cnt (.bor 1) (.ex (.cst (.bl true))))) (.ex (.cst (.int 1))))) (.or (.not (.val (.exi "WishError" (.bor 0)))) (.not (.val (.exi "ValueError" (.bor 0)))))) (.cons (.ret (.cst (.str "odd"))) .nil) .nil) (.cons (.ret (.ixx (.ex (.lstd (.cons (.ex (.cst (.str "free"))) (.cons (.ex (.cst (.str "line"))) (.cons (.ex (.cst (.str "name"))) (.cons (.ex (.cst (.str "stand"))) (.cons (.ex (.cst (.str "text"))) (.cons (.ex (.cst (.str "wish"))) (.cons (.ex (.cst (.str "worth"))) (.cons (.ex (.cst (.str "fixed"))) (.cons (.ex (.cst (.str "many"))) .nil))))))))))) (.ex (.idx (.bor 1) (.ex (.cst (.bl true))))))) .nil)))))⟩
end Df

/-! what the defs about things say: stands -/
namespace Sp
open PySem (Str)
open Wa Df
section
variable {U : String → Option Fn} {xp : D → Prop}
/-! rising numbers -/
/-! stands -/
end
end Sp

/-! what the laws' own defs say: stands drawn, looked at, bent -/
namespace Sp
open PySem (Str)
open Wa Df
section
variable {U : String → Option Fn} {xp : D → Prop}
/-! numbers and stands as trees -/
abbrev tupI (ns : List Int) : D := .tup (ns.map D.int)
/-! the look at a stand, part by part -/
/-! a thing bent -/
/-! a stand drawn is one -/
/-! a worth near a stand's -/
end
end Sp

/-! fillings -/
namespace Sp
open PySem (Str)
open Wa Df
section
variable {U : String → Option Fn} {xp : D → Prop}
end
end Sp

/-! wishes, and what fulfils them -/
namespace Sp
open PySem (Str)
open Wa Df
abbrev Tri := Int × Int × Int
inductive Wsh where
  | unl (ns : List Int) | man (ns : List Int) (bs : List Tri) | sm (ns ws : List Int) (lo hi : Int) | row (ns : List Int) (ds : List Tri) (es : List Int) | han (ns ls : List Int)
def Wsh.names : Wsh → List Int
  | .unl ns => ns
  | .man ns _ => ns
  | .sm ns _ _ _ => ns
  | .row ns _ _ => ns
  | .han ns _ => ns
def pick (f : List Int) (i : Int) : Int := f.getD i.toNat 0
section
variable {U : String → Option Fn} {xp : D → Prop}
theorem prim_eqS {a b : Str} (h1 : shp (.str a) 60 = true) (h2 : shp (.str b) 60 = true) : prim .eq [.str a, .str b] = some (false, .bl (decide (a = b))) := by
  rw [prim_eq h1 h2, eqd_str]
/-! unlike -/
def unl (W : List Int) : Bool := decide W.Nodup
/-! a row of doors -/
/-! works apart -/
/-! what fulfils a wish -/
/-! the laws' own look at what fulfils a wish -/
end
end Sp

/-! wishes drawn, fillings -/
namespace Sp
open PySem (Str)
open Wa Df
structure Names (m : Int) (ns : List Int) : Prop where
  some : 1 ≤ ns.length
  few : (ns.length : Int) ≤ m
  once : ns.Nodup
  there : ∀ i ∈ ns, 0 ≤ i ∧ i < m
section
variable {U : String → Option Fn} {xp : D → Prop}
theorem st_at {s : List (List Int)} {i : Int} (h0 : 0 ≤ i) (h1 : i < (s.length : Int)) : ∃ w ∈ s, isAt (s.map tupI) i = some (false, tupI w) ∧ w = s.getD i.toNat [] := by
  have hk : i.toNat < s.length := by omega
  refine ⟨s[i.toNat], List.getElem_mem hk, ?_, by rw [List.getD_eq_getElem?_getD, List.getElem?_eq_getElem hk]; rfl⟩
  unfold isAt L2.atI
  rw [ixN_nat h0 (by rw [List.length_map]; exact h1)]
  show (((s.map tupI)[i.toNat]?).map fun d => (false, d)) = _
  rw [List.getElem?_map, List.getElem?_eq_getElem hk]
  rfl
end
end Sp

/-! all fillings of a stand -/
namespace Sp
open PySem (Str)
open Wa Df
section
variable {xp : D → Prop}
end
end Sp

/-! what is a wish, of any tree -/
namespace Sp
open PySem (Str)
open Wa Df
section
variable {U : String → Option Fn} {xp : D → Prop}
theorem prim_eqI {a b : Int} : prim .eq [.int a, .int b] = some (false, .bl (decide (a = b))) := by
  rw [prim_eq rfl rfl, eqd_int]
/-! triples -/
/-! doors -/
/-! sums -/
/-! wishes -/
end
end Sp

/-! drawn wishes are wishes; fillings that fulfil all -/
namespace Sp
open PySem (Str)
open Wa Df
section
variable {U : String → Option Fn} {xp : D → Prop}
/-! is_of, need, need_all: of wishes of the stand -/
/-! comprehensions over things told of a list -/
theorem lcL_on {α : Type} (g f : α → D) {body : D → Wa.Env → (Option D → Wa.Env → Prop) → Prop} {k : List D → Wa.Env → Prop} (P : Wa.Env → Prop) : ∀ {l : List α} {r : Wa.Env} (acc : List D), P r → (∀ a ∈ l, ∀ r' k', P r' → (∀ r'', P r'' → k' (some (f a)) r'') → body (g a) r' k') → (∀ r', P r' → k (acc ++ l.map f) r') → lcL body (l.map g) r acc k
  | [], r, acc, h0, _, hd => by
    rw [List.map_nil] at hd ⊢
    unfold lcL
    rw [List.append_nil] at hd
    exact hd r h0
  | a :: l, r, acc, h0, hs, hd => by
    rw [List.map_cons]
    unfold lcL
    refine hs a List.mem_cons_self r _ h0 fun r'' h1 => ?_
    refine lcL_on g f P (acc ++ [f a]) h1 (fun y hy => hs y (List.mem_cons_of_mem _ hy)) fun r' hp => ?_
    rw [List.append_assoc]
    exact hd r' hp
/-! fillings that fulfil all wishes -/
/-! the law's own -/
/-! _law_same of one thing -/
theorem all_true {l : List D} (h : ∀ x ∈ l, x = .bl true) : prim .nin [.bl false, .lst l] = some (false, .bl true) := by
  have hs : shps l 59 = true := shps_iff.mpr fun x hx => by rw [h x hx]; rfl
  have hi : inD (.bl false) l = false := by
    unfold inD
    rw [Bool.eq_false_iff]
    intro z
    obtain ⟨x, hx, e⟩ := List.any_eq_true.mp z
    rw [h x hx] at e
    cases e
  show (if (shp (.bl false) 60 && shps l 59) = true then some (inD (.bl false) l) else none).map _ = _
  rw [hs, hi]
  rfl
theorem zipL_self : ∀ l : List D, zipL l l = l.map fun x => .tup [x, x]
  | [] => rfl
  | x :: l => by
    show D.tup [x, x] :: zipL l l = _
    rw [zipL_self l]
    rfl
theorem eqd_refl_str (a : Str) : eqd (.str a) (.str a) = true := by rw [eqd_str, decide_eq_true rfl]
theorem prim_neD {a b : D} (h1 : shp a 60 = true) (h2 : shp b 60 = true) (h : eqd a b = true) : prim .ne [a, b] = some (false, .bl false) := by
  rw [prim_ne h1 h2, h]; rfl
theorem same_leaf (hU : U "_law_same" = some f__law_same) {n : Nat} {d : D} {Q : Bool → D → Prop} (hd : shp d 0 = true) (h : Q false (.bl true)) : Wa.run U (n + 1) "_law_same" [d, d] Q xp := by
  refine run_intro hU rfl ?_
  cases d <;> first | (cases hd; done) | skip
  · exact ap_of rfl rfl (ap_of rfl rfl h)
  · rename_i b
    refine ap_of rfl rfl (ap_of rfl rfl (ap_of rfl rfl (ap_of rfl rfl (ap_of rfl (prim_eq rfl rfl) ?_))))
    rw [eqd_bl, decide_eq_true rfl]
    exact h
  · rename_i i
    refine ap_of rfl rfl (ap_of rfl rfl (ap_of rfl rfl (ap_of rfl rfl (ap_of rfl rfl (ap_of rfl prim_eqI ?_)))))
    rw [decide_eq_true rfl]
    exact h
  · rename_i x
    have hs : shp (.str x) 60 = true := hd
    have hdt : isData (.str x) = true := data_of hs
    refine ap_of rfl rfl (ap_of rfl (prim_isi hdt) (ap_of rfl (prim_isi hdt) (ap_of rfl (prim_isi hdt) (ap_of rfl (prim_isi hdt) (ap_of rfl (prim_isi hdt) (ap_of rfl (prim_eq hs hs) ?_))))))
    rw [eqd_refl_str]
    exact h
theorem same_seq (hU : U "_law_same" = some f__law_same) {n : Nat} {d : D} {xs : List D} {Q : Bool → D → Prop} (hx : d = .tup xs ∨ d = .lst xs) (hd : isData d = true) (ih : ∀ x ∈ xs, ∀ (Q : Bool → D → Prop) (xp : D → Prop), Q false (.bl true) → Wa.run U n "_law_same" [x, x] Q xp) (h : Q false (.bl true)) : Wa.run U (n + 1) "_law_same" [d, d] Q xp := by
  refine run_intro hU rfl ?_
  have go : ∀ d : D, zipD d d = some (zipL xs xs) → lcL (fun x r2 k => match bindP (.tp [(.nm 2), (.nm 3)]) x (wipeE r2 ([("one", 2), ("other", 3)].map (·.2))) with
      | some r3 => evT (Wa.run U n) X0 .yes r3 fun b r4 => if b = true then evE (Wa.run U n) X0 (.call "_law_same" (.cons (.ex (.var 2)) (.cons (.ex (.var 3)) .nil))) r4 fun _ y r5 => k (some y) r5 else k none r4
      | none => False) (zipL xs xs) [.sh d, .sh d, .no, .no] [] (fun ys r6 => ap .nin (unwipe [.sh d, .sh d, .no, .no] r6 ([("one", 2), ("other", 3)].map (·.2))) [.val (.bl false), .val (.lst ys)] (fun fl d _ => Q fl d)) := by
    intro d hz
    rw [zipL_self]
    refine lcL_on (fun x => .tup [x, x]) (fun _ => .bl true) (fun r => ∃ a b, r = [.sh d, .sh d, a, b]) [] ⟨_, _, rfl⟩ (fun x hx r' k' hr hk => ?_) (fun r' hr => ?_)
    · obtain ⟨a, b, rfl⟩ := hr
      exact ih x hx _ _ (hk _ ⟨_, _, rfl⟩)
    · obtain ⟨a, b, rfl⟩ := hr
      refine ap_of rfl (all_true fun x hx => ?_) h
      rw [List.nil_append] at hx
      obtain ⟨y, _, rfl⟩ := List.mem_map.mp hx
      rfl
  have lens : ∀ m : Int, prim .ne [.int m, .int m] = some (false, .bl false) := fun m => prim_neD rfl rfl (by rw [eqd_int, decide_eq_true rfl])
  rcases hx with rfl | rfl
  · refine ap_of rfl rfl (ap_of rfl (prim_isi hd) (ap_of rfl (prim_isi hd) (ap_of rfl (prim_isi hd) (ap_of rfl (prim_isi hd) (ap_of rfl (prim_isi hd) (ap_of rfl (prim_isi hd) (ap_of rfl (prim_neD rfl rfl rfl) (ap_of rfl (prim_isi hd) (ap_of rfl (prim_isi hd) (ap_of rfl (prim_neD rfl rfl rfl) (ap_of rfl rfl (ap_of rfl rfl (ap_of rfl (lens _) ⟨rfl, ?_⟩)))))))))))))
    exact go (.tup xs) rfl
  · refine ap_of rfl rfl (ap_of rfl (prim_isi hd) (ap_of rfl (prim_isi hd) (ap_of rfl (prim_isi hd) (ap_of rfl (prim_isi hd) (ap_of rfl (prim_isi hd) (ap_of rfl (prim_isi hd) (ap_of rfl (prim_neD rfl rfl rfl) (ap_of rfl (prim_isi hd) (ap_of rfl (prim_isi hd) (ap_of rfl (prim_neD rfl rfl rfl) (ap_of rfl rfl (ap_of rfl rfl (ap_of rfl (lens _) ⟨rfl, ?_⟩)))))))))))))
    exact go (.lst xs) rfl
theorem sp_same (hU : U "_law_same" = some f__law_same) {n : Nat} : ∀ (k : Nat) {xp : D → Prop} {d : D} {Q : Bool → D → Prop}, shp d k = true → Q false (.bl true) → Wa.run U (n + k + 1) "_law_same" [d, d] Q xp := by
  intro k
  induction k with
  | zero => exact fun hd h => same_leaf hU hd h
  | succ k ih =>
    intro xp d Q hd h
    cases d with
    | tup xs => exact same_seq hU (.inl rfl) (data_of hd) (fun x hx Q xp h => ih (shp_tup hd x hx) h) h
    | lst xs => exact same_seq hU (.inr rfl) (data_of hd) (fun x hx Q xp h => ih (shp_lst hd x hx) h) h
    | non => exact same_leaf hU rfl h
    | bl b => exact same_leaf hU rfl h
    | int i => exact same_leaf hU rfl h
    | str x => exact same_leaf hU hd h
    | dic _ => cases hd
    | pen => cases hd
    | exc _ _ => cases hd
end
end Sp

/-! turned about, alike, less -/
namespace Sp
open PySem (Str)
open Wa Df
section
variable {U : String → Option Fn} {xp : D → Prop}
def pk {α : Type} (d : α) (l : List α) (N : List Int) : List α := N.map fun i => l.getD i.toNat d
/-! what fulfils it, seen otherwise -/
/-! rows -/
end
end Sp

/-! papers: of what kind a wish is, of unlike ones -/
namespace Sp
open PySem (Str)
open Wa Df
section
variable {U : String → Option Fn} {xp : D → Prop}
theorem prim_eqSt {a : Str} (h : shp (.str a) 60 = true) : prim .eq [.str a, .str a] = some (false, .bl true) := by rw [prim_eqS h h, decide_eq_true rfl]
/-! rising -/
/-! names that together have fewer worths than they are -/
/-! the law's own -/
end
end Sp

/-! rows: the spots that come, and papers of them -/
namespace Sp
open PySem (Str)
open Wa Df
section
variable {U : String → Option Fn} {xp : D → Prop}
/-- a door that leads on -/
def goes (spots worths : List Int) (d : Tri) : Bool := decide (d.1 ∈ spots) && decide (d.2.1 ∈ worths)
/-! a paper of a row -/
theorem enumL_get : ∀ {xs : List D} {m i : Nat} {x : D}, (enumL m xs)[i]? = some x → ∃ y, xs[i]? = some y ∧ x = .tup [.int ((m + i : Nat) : Int), y]
  | [], _, _, _, h => by cases h
  | y :: ys, m, 0, x, h => by
    cases h
    exact ⟨y, rfl, rfl⟩
  | y :: ys, m, i + 1, x, h => by
    obtain ⟨z, h1, h2⟩ := enumL_get (xs := ys) (m := m + 1) (i := i) h
    refine ⟨z, h1, ?_⟩
    rw [h2]
    congr 3
    omega
theorem enumL_len : ∀ {xs : List D} {m : Nat}, (enumL m xs).length = xs.length
  | [], _ => rfl
  | y :: ys, m => by
    show (enumL (m + 1) ys).length + 1 = ys.length + 1
    rw [enumL_len]
/-! the law's own look -/
end
end Sp

/-! the laws' own look at wishes -/
namespace Sp
open PySem (Str)
open Wa Df
section
variable {U : String → Option Fn} {xp : D → Prop}
/-! [1 for x in xs if not ..] == [] -/
/-! kinds -/
/-! what the two looks share -/
end
end Sp

/-! papers of so many of each worth -/
namespace Sp
open PySem (Str)
open Wa Df
/-! dicts of bounds -/
/-! what a paper says -/
section
variable {U : String → Option Fn} {xp : D → Prop}
/-! the laws' own look -/
end
end Sp

/-! so many of each worth: where no paper shows, a filling does -/
namespace Hall
def up (f : Int → Int) (h w : Int) : Int → Int := fun x => if x = h then w else f x
/-! sums -/
def sm (W : List Int) (g : Int → Int) : Int := (W.map g).sum
/-- so many of the names take w -/
def cnt (N : List Int) (f : Int → Int) (w : Int) : Nat := N.countP fun n => decide (f n = w)
section A
variable (S : Int → List Int) (N : List Int) (f0 : Int → Int) (n0 : Int)
end A
/-! lows -/
section B
variable (S : Int → List Int) (N : List Int) (f0 : Int → Int) (w0 : Int)
end B
end Hall
namespace Sp
open PySem (Str)
open Wa Df
/-! worths of names -/
/-! all parts -/
/-! sums told as sums over lists -/
/-! a filling of few worths -/
section
variable {U : String → Option Fn} {xp : D → Prop}
/-! all parts -/
/-! can -/
end
end Sp

/-! rows: a filling, or the spots that come -/
namespace Sp
open PySem (Str)
open Wa Df
section
variable {U : String → Option Fn} {xp : D → Prop}
end
end Sp

/-! sums: a filling, or the sums that come, name by name -/
namespace Sp
open PySem (Str)
open Wa Df
/-! dicts whose keys are whole numbers -/
theorem getK_cons {k j : L2.Key} {d : D} {r : List (L2.Key × D)} : getK ((j, d) :: r) k = if j = k then some d else getK r k := by
  unfold getK
  rw [List.find?_cons]
  by_cases h : j = k
  · subst h; simp
  · simp [h]
theorem getK_map (k j : L2.Key) (v : D) : ∀ kvs : List (L2.Key × D), getK (kvs.map fun kv => if kv.1 = k then (kv.1, v) else kv) j = (getK kvs j).map fun x => if j = k then v else x
  | [] => rfl
  | (i, d) :: r => by
    have ih := getK_map k j v r
    rw [List.map_cons]
    by_cases h : i = k
    · subst h
      rw [if_pos rfl, getK_cons, getK_cons, ih]
      by_cases h2 : i = j
      · subst h2; simp
      · rw [if_neg h2, if_neg h2]
    · rw [if_neg h, getK_cons, getK_cons, ih]
      by_cases h2 : i = j
      · subst h2; simp [h]
      · rw [if_neg h2, if_neg h2]
theorem any_getK (k : L2.Key) : ∀ kvs : List (L2.Key × D), (kvs.any fun kv => decide (kv.1 = k)) = (getK kvs k).isSome
  | [] => rfl
  | (i, d) :: r => by
    rw [List.any_cons, any_getK k r, getK_cons]
    by_cases h : i = k
    · subst h; simp
    · simp [h]
theorem getK_app (k j : L2.Key) (v : D) : ∀ kvs : List (L2.Key × D), getK (kvs ++ [(k, v)]) j = match getK kvs j with
    | some d => some d
    | none => if k = j then some v else none
  | [] => by rw [List.nil_append, getK_cons]; rfl
  | (i, d) :: r => by
    rw [List.cons_append, getK_cons, getK_cons, getK_app k j v r]
    by_cases h : i = j
    · rw [if_pos h, if_pos h]
    · rw [if_neg h, if_neg h]
theorem getK_put (kvs : List (L2.Key × D)) (k j : L2.Key) (v : D) : getK (putD kvs k v) j = if j = k then some v else getK kvs j := by
  unfold putD
  rw [any_getK]
  cases e : getK kvs k with
  | some d =>
    rw [if_pos (show (some d).isSome = true from rfl), getK_map]
    by_cases h : j = k
    · subst h; rw [e, if_pos rfl]; exact congrArg some (if_pos rfl)
    · rw [if_neg h]; cases getK kvs j <;> simp [h]
  | none =>
    rw [if_neg (show ¬ (none : Option D).isSome = true by decide), getK_app]
    by_cases h : j = k
    · subst h; rw [e, if_pos rfl]
    · rw [if_neg h]
      cases getK kvs j with
      | some d => rfl
      | none => rw [if_neg fun z => h z.symm]
/-- whole numbers alone as keys, each once -/
structure IntD (kvs : List (L2.Key × D)) (K : List Int) : Prop where
  keys : kvs.map (·.1) = K.map Sum.inl
  once : K.Nodup
theorem getK_none {k : L2.Key} : ∀ {kvs : List (L2.Key × D)}, getK kvs k = none ↔ k ∉ kvs.map (·.1)
  | [] => by simp [getK]
  | (i, d) :: r => by
    rw [getK_cons, List.map_cons, List.mem_cons]
    by_cases h : i = k
    · subst h; simp
    · rw [if_neg h, getK_none (kvs := r)]
      constructor
      · rintro h1 (h2 | h2)
        · exact h h2.symm
        · exact h1 h2
      · exact fun h1 h2 => h1 (.inr h2)
theorem IntD.mem {kvs : List (L2.Key × D)} {K : List Int} (h : IntD kvs K) {t : Int} : t ∈ K ↔ (getK kvs (.inl t)).isSome = true := by
  have : getK kvs (.inl t) = none ↔ t ∉ K := by
    rw [getK_none, h.keys]
    constructor
    · intro h1 h2; exact h1 (List.mem_map.mpr ⟨t, h2, rfl⟩)
    · intro h1 h2
      obtain ⟨u, hu, e⟩ := List.mem_map.mp h2
      injection e with e
      exact h1 (e ▸ hu)
  cases e : getK kvs (.inl t) with
  | none => simp [this.mp e]
  | some d =>
    simp
    exact Classical.byContradiction fun z => by rw [this.mpr z] at e; cases e
theorem put_keys {kvs : List (L2.Key × D)} {k : L2.Key} {v : D} (h : k ∈ kvs.map (·.1)) : (putD kvs k v).map (·.1) = kvs.map (·.1) := by
  unfold putD
  rw [any_getK, if_pos (by
    cases e : getK kvs k with
    | none => exact absurd h (getK_none.mp e)
    | some d => rfl), List.map_map]
  apply List.map_congr_left
  intro kv _
  show (if kv.1 = k then (kv.1, v) else kv).1 = kv.1
  split <;> rfl
theorem put_new {kvs : List (L2.Key × D)} {k : L2.Key} {v : D} (h : ¬ k ∈ kvs.map (·.1)) : (putD kvs k v).map (·.1) = kvs.map (·.1) ++ [k] := by
  unfold putD
  rw [any_getK, if_neg (by rw [getK_none.mpr h]; decide), List.map_append]
  rfl
theorem IntD.put {kvs : List (L2.Key × D)} {K : List Int} (h : IntD kvs K) (t : Int) (v : D) : IntD (putD kvs (.inl t) v) (if t ∈ K then K else K ++ [t]) := by
  have e : (Sum.inl t : L2.Key) ∈ kvs.map (·.1) ↔ t ∈ K := by
    rw [h.keys]
    constructor
    · intro h2
      obtain ⟨u, hu, e⟩ := List.mem_map.mp h2
      injection e with e
      exact e ▸ hu
    · exact fun h2 => List.mem_map.mpr ⟨t, h2, rfl⟩
  by_cases ht : t ∈ K
  · rw [if_pos ht]
    exact ⟨by rw [put_keys (e.mpr ht)]; exact h.keys, h.once⟩
  · rw [if_neg ht]
    refine ⟨by rw [put_new fun z => ht (e.mp z), List.map_append, h.keys]; rfl, ?_⟩
    rw [List.nodup_append]
    refine ⟨h.once, List.pairwise_singleton .., fun a ha b hb z => ?_⟩
    rw [List.mem_singleton.mp hb] at z
    exact ht (z ▸ ha)
theorem IntD.walk {kvs : List (L2.Key × D)} {K : List Int} (h : IntD kvs K) : walkD (.dic kvs) = some (K.map D.int) := by
  show some (kvs.map fun kv => keyV kv.1) = _
  rw [show (kvs.map fun kv => keyV kv.1) = (kvs.map (·.1)).map keyV from by rw [List.map_map]; rfl, h.keys, List.map_map]
  rfl
theorem keysI_of_map : ∀ {kvs : List (L2.Key × D)} {K : List Int}, kvs.map (·.1) = K.map Sum.inl → keysI kvs = some K
  | [], K, h => by
    cases K with
    | nil => rfl
    | cons x K => cases h
  | (i, d) :: r, K, h => by
    cases K with
    | nil => cases h
    | cons x K =>
      rw [List.map_cons, List.map_cons] at h
      injection h with h1 h2
      have h1 : i = Sum.inl x := h1
      subst h1
      show (keysI r).map (fun y => x :: y) = _
      rw [keysI_of_map h2]
      rfl
theorem IntD.sorted {kvs : List (L2.Key × D)} {K : List Int} (h : IntD kvs K) : prim .sorted [.dic kvs] = some (true, .lst ((sortI K).map D.int)) := by
  show (keysI kvs).map _ = _
  rw [keysI_of_map h.keys]
  rfl
theorem IntD.len {kvs : List (L2.Key × D)} {K : List Int} (h : IntD kvs K) : kvs.length = K.length := by
  have := congrArg List.length h.keys
  rwa [List.length_map, List.length_map] at this
/-! the layers -/
def addL (w a : Int) (acc : List (L2.Key × D)) (x : Int) : List (L2.Key × D) := putD acc (.inl (a + w * x)) (.tup [.int a, .int x])
/-- what a layer being made says -/
structure Mk (w : Int) (src : Int → Int → Prop) (kvs : List (L2.Key × D)) : Prop where
  int : ∃ K, IntD kvs K
  val : ∀ t d, getK kvs (.inl t) = some d → ∃ a x, src a x ∧ t = a + w * x ∧ d = .tup [.int a, .int x]
  all : ∀ a x, src a x → (getK kvs (.inl (a + w * x))).isSome = true
theorem Mk.add {w a x : Int} {src : Int → Int → Prop} {kvs : List (L2.Key × D)} (h : Mk w src kvs) : Mk w (fun b y => src b y ∨ (b = a ∧ y = x)) (addL w a kvs x) := by
  obtain ⟨K, hK⟩ := h.int
  refine ⟨⟨_, hK.put _ _⟩, fun t d e => ?_, fun b y hb => ?_⟩
  · unfold addL at e
    rw [getK_put] at e
    by_cases ht : (Sum.inl t : L2.Key) = Sum.inl (a + w * x)
    · rw [if_pos ht] at e
      cases e
      injection ht with ht
      exact ⟨a, x, .inr ⟨rfl, rfl⟩, ht, rfl⟩
    · rw [if_neg ht] at e
      obtain ⟨b, y, h1, h2, h3⟩ := h.val t d e
      exact ⟨b, y, .inl h1, h2, h3⟩
  · unfold addL
    rw [getK_put]
    split
    · rfl
    · rename_i hne
      rcases hb with hb | ⟨rfl, rfl⟩
      · exact h.all b y hb
      · exact absurd rfl hne
theorem Mk.congr {w : Int} {s1 s2 : Int → Int → Prop} {kvs : List (L2.Key × D)} (h : Mk w s1 kvs) (e : ∀ a x, s1 a x ↔ s2 a x) : Mk w s2 kvs :=
  ⟨h.int, fun t d k => let ⟨a, x, h1, h2⟩ := h.val t d k; ⟨a, x, (e a x).mp h1, h2⟩, fun a x k => h.all a x ((e a x).mpr k)⟩
/-! the sums that fillings come to -/
/-! a paper of a sum -/
section
variable {U : String → Option Fn} {xp : D → Prop}
end
end Sp

/-! the laws' own look at papers of sums; cuts -/
namespace Sp
open PySem (Str)
open Wa Df
section
variable {U : String → Option Fn} {xp : D → Prop}
end
/-! cuts -/
end Sp

/-! answers judged: a filling among the good ones, a paper of lists -/
namespace Sp
open PySem (Str)
open Wa Df
section
variable {U : String → Option Fn} {xp : D → Prop}
end
end Sp

/-! _law_can_right: an answer judged, of every kind -/
namespace Sp
open PySem (Str)
open Wa Df
section
variable {U : String → Option Fn} {xp : D → Prop}
end
end Sp

/-! wishes of unlike worths: a worth for each name is found, or names that have too few -/
namespace Sp
open PySem (Str)
open Wa Df
/-! ### what is taken: worths with the names that they stand at -/
def keys (T : List (Int × Int)) : List Int := T.map (·.1)
def lk : List (Int × Int) → Int → Option Int
  | [], _ => none
  | (a, m) :: r, w => if a = w then some m else lk r w
def rep (T : List (Int × Int)) (w x : Int) : List (Int × Int) := T.map fun kv => if kv.1 = w then (kv.1, x) else kv
theorem lk_some : ∀ {T : List (Int × Int)} {w m : Int}, lk T w = some m → (w, m) ∈ T
  | (a, b) :: r, w, m, h => by
    unfold lk at h
    by_cases e : a = w
    · rw [if_pos e] at h; cases h; rw [e]; exact List.mem_cons_self
    · rw [if_neg e] at h; exact List.mem_cons_of_mem _ (lk_some h)
theorem key_of {T : List (Int × Int)} {w m : Int} (h : lk T w = some m) : w ∈ keys T := List.mem_map.mpr ⟨_, lk_some h, rfl⟩
/-! ### a search -/
section
variable {U : String → Option Fn} {xp : D → Prop}
end
/-! ### what it says -/
def turn (T : List (Int × Int)) : List (Int × Int) := T.map fun kv => (kv.2, kv.1)
section
variable {U : String → Option Fn} {xp : D → Prop}
end
end Sp

/-! stands changed: a worth more, a worth less -/
namespace Sp
open PySem (Str)
open Wa Df
section
variable {U : String → Option Fn} {xp : D → Prop}
end
end Sp

/-! hands: works that don't run into one another; a tree of which comes first shows that none is -/
namespace Sp
open PySem (Str)
open Wa Df
/-! ### an order of works, each as early as it may -/
def fits (fr : Option Int) (x : Int) : Bool := match fr with
  | none => true
  | some f => decide (f ≤ x)
/-! ### trees -/
/-- works that lie apart -/
def Apart (ns : List Int) (g L : Int → Int) : Prop := ∀ a ∈ ns, ∀ b ∈ ns, a ≠ b → g a + L a ≤ g b ∨ g b + L b ≤ g a
/-! ### works of a wish -/
end Sp

/-! hands: what the defs tell -/
namespace Sp
open PySem (Str)
open Wa Df
section
variable {U : String → Option Fn} {xp : D → Prop}
end
end Sp

/-! hands: put_in, hand_can -/
namespace Sp
open PySem (Str)
open Wa Df
section
variable {U : String → Option Fn} {xp : D → Prop}
end
end Sp

/-! hands: hand_can, hand_paper, the laws' look at trees -/
namespace Sp
open PySem (Str)
open Wa Df
theorem getD_mem {s : List (List Int)} {n : Int} (h0 : 0 ≤ n) (h1 : n < (s.length : Int)) : s.getD n.toNat [] ∈ s := by
  obtain ⟨w, hw, _, e⟩ := st_at h0 h1
  rw [← e]; exact hw
section
variable {U : String → Option Fn} {xp : D → Prop}
/-! the looks at leaves -/
end
end Sp

/-! hands: the laws' own look at trees -/
namespace Sp
open PySem (Str)
open Wa Df
section
variable {U : String → Option Fn} {xp : D → Prop}
end
end Sp

/-! papers of every kind: the laws' look at many's, at rows'; what a right one says -/
namespace Sp
open PySem (Str)
open Wa Df
section
variable {U : String → Option Fn} {xp : D → Prop}
end
end Sp

/-! papers of every kind: rows by the law; what a right one says -/
namespace Sp
open PySem (Str)
open Wa Df
section
variable {U : String → Option Fn} {xp : D → Prop}
end
end Sp

/-! can, is_paper, the law's look: of any kind -/
namespace Sp
open PySem (Str)
open Wa Df
section
variable {U : String → Option Fn} {xp : D → Prop}
end
end Sp

/-! settled stands, struck pairs -/
namespace Sp
open PySem (Str)
open Wa Df
/-- a stand with one worth alone of a name -/
def only (s : List (List Int)) (n x : Int) : List (List Int) := s.set n.toNat [x]
section
variable {U : String → Option Fn} {xp : D → Prop}
end
end Sp

/-! rounds, in plain words: strikes, what they leave, what stays -/
namespace Sp
open PySem (Str)
open Wa Df
/-- each name's worths among another stand's -/
structure Sub (t s : List (List Int)) : Prop where
  len : t.length = s.length
  mem : ∀ k x, x ∈ t.getD k [] → x ∈ s.getD k []
theorem Sub.refl {s : List (List Int)} : Sub s s := ⟨rfl, fun _ _ h => h⟩
theorem Sub.trans {a b c : List (List Int)} (h : Sub a b) (k : Sub b c) : Sub a c := ⟨h.len.trans k.len, fun i x z => k.mem i x (h.mem i x z)⟩
/-! how many worths there are -/
/-! strikes -/
/-! stands told apart -/
end Sp

/-! rounds: what the defs tell -/
namespace Sp
open PySem (Str)
open Wa Df
section
variable {U : String → Option Fn} {xp : D → Prop}
end
end Sp

/-! rounds: the laws' own look -/
namespace Sp
open PySem (Str)
open Wa Df
section
variable {U : String → Option Fn} {xp : D → Prop}
end
end Sp

/-! strikes looked at: by the laws, by the program -/
namespace Sp
open PySem (Str)
open Wa Df
section
variable {U : String → Option Fn} {xp : D → Prop}
/-! of what kind a paper is -/
end
end Sp

/-! the program's own look at strikes; fillings that stay -/
namespace Sp
open PySem (Str)
open Wa Df
section
variable {U : String → Option Fn} {xp : D → Prop}
end
/-! ### fillings in order -/
/-! a filling as a stand -/
end Sp

/-! trees of strikes: solve, is_none -/
namespace Sp
open PySem (Str)
open Wa Df
/-! names of two worths or more -/
section
variable {U : String → Option Fn} {xp : D → Prop}
end
end Sp

/-! rounds judged by the laws; is_none -/
namespace Sp
open PySem (Str)
open Wa Df
section
variable {U : String → Option Fn} {xp : D → Prop}
end
section
variable {U : String → Option Fn} {xp : D → Prop}
end
end Sp

/-! papers travel: what shows that a wish can't be of a stand shows it of a lesser one -/
namespace Sp
open PySem (Str)
open Wa Df
section
variable {U : String → Option Fn} {xp : D → Prop}
end
end Sp

/-! refusals: what is raised, and by what word it is told -/
namespace Sp
open PySem (Str)
open Wa Df
section
variable {U : String → Option Fn} {xp : D → Prop}
theorem prim_exi {c k : Str} {m : Option Int} {b : Bool} (h : exIs c k = b) : prim (.exi k) [.exc c m] = some (false, .bl b) := by
  show some (false, D.bl (exIs c k)) = _
  rw [h]
def word9 : List Str := ["free", "line", "name", "stand", "text", "wish", "worth", "fixed", "many"]
theorem refusal_by (hU : U "_law_refusal" = some f__law_refusal) {n : Nat} {cn w : Str} {m : Option Int} {i : Nat} {b0 b1 b2 b3 b4 b5 b6 b7 b8 : Bool} {Q : Bool → D → Prop} (e0 : exIs cn "Free" = b0) (e1 : exIs cn "NoLine" = b1) (e2 : exIs cn "NoName" = b2) (e3 : exIs cn "NoStand" = b3) (e4 : exIs cn "NoText" = b4)
    (e5 : exIs cn "NoWish" = b5) (e6 : exIs cn "NoWorth" = b6) (e7 : exIs cn "Settled" = b7) (e8 : exIs cn "TooMany" = b8) (hc : List.count true [b0, b1, b2, b3, b4, b5, b6, b7, b8] = 1) (hi : idxD (.bl true) ([b0, b1, b2, b3, b4, b5, b6, b7, b8].map D.bl) = some i) (hw : word9[i]? = some w) (h : Q false (.str w)) :
    Wa.run U (n + 1) "_law_refusal" [.exc cn m] Q xp := by
  have ew : exIs cn "WishError" = true := by unfold exIs; simp
  have ev : exIs cn "ValueError" = true := by unfold exIs; simp
  refine run_intro hU rfl ?_
  refine ap_of rfl (prim_exi e0) (ap_of rfl (prim_exi e1) (ap_of rfl (prim_exi e2) ⟨(Nat.le_of_ble_eq_true rfl), (Nat.le_of_ble_eq_true rfl), ?_⟩))
  refine ap_of rfl (prim_exi e3) (ap_of rfl (prim_exi e4) (ap_of rfl (prim_exi e5) ⟨(Nat.le_of_ble_eq_true rfl), ap_of rfl (prim_addL (xs := [.bl b0, .bl b1, .bl b2]) (ys := [.bl b3, .bl b4, .bl b5]) (Nat.le_of_ble_eq_true rfl)) ⟨(Nat.le_of_ble_eq_true rfl), ?_⟩⟩))
  refine ap_of rfl (prim_exi e6) (ap_of rfl (prim_exi e7) (ap_of rfl (prim_exi e8) ⟨(Nat.le_of_ble_eq_true rfl), ap_of rfl (prim_addL (xs := [.bl b0, .bl b1, .bl b2, .bl b3, .bl b4, .bl b5]) (ys := [.bl b6, .bl b7, .bl b8]) (Nat.le_of_ble_eq_true rfl)) ⟨(Nat.le_of_ble_eq_true rfl), ?_⟩⟩))
  have pc : prim .count [.lst ([b0, b1, b2, b3, b4, b5, b6, b7, b8].map D.bl), .bl true] = some (false, .int ((List.count true [b0, b1, b2, b3, b4, b5, b6, b7, b8] : Nat) : Int)) := rfl
  rw [hc] at pc
  refine ⟨rfl, ap_of rfl pc (ap_of rfl (prim_ne rfl rfl) ?_)⟩
  refine ite_f (show (!eqd (.int ((1 : Nat) : Int)) (.int 1)) = false by decide +kernel) ?_
  refine ap_of rfl (prim_exi ew) (ite_f rfl (ap_of rfl (prim_exi ev) (ite_f rfl ?_)))
  refine ⟨(Nat.le_of_ble_eq_true rfl), rfl, ?_⟩
  have pi : prim .idx [.lst ([b0, b1, b2, b3, b4, b5, b6, b7, b8].map D.bl), .bl true] = some (false, .int ((i : Nat) : Int)) := by
    show (if (flatD (.bl true) && ([b0, b1, b2, b3, b4, b5, b6, b7, b8].map D.bl).all flatD) = true then (idxD (.bl true) ([b0, b1, b2, b3, b4, b5, b6, b7, b8].map D.bl)).map fun i => (false, D.int (i : Nat)) else none) = _
    rw [if_pos (by rfl), hi]
    rfl
  refine ap_of rfl pi (ap_of rfl (prim_ixL (xs := word9.map D.str) (d := .str w) ?_) h)
  have hl : i < word9.length := (List.getElem?_eq_some_iff.mp hw).1
  unfold isAt L2.atI L2.ixN
  rw [if_pos (by omega), if_pos (by rw [List.length_map]; omega)]
  show (((word9.map D.str)[((i : Nat) : Int).toNat]?).map fun d => (false, d)) = _
  rw [Int.toNat_natCast, List.getElem?_map, hw]
  rfl
/-- the word by which a class is told -/
def wordC (cn : Str) : Str := if cn = "Free" then "free" else if cn = "NoLine" then "line" else if cn = "NoName" then "name" else if cn = "NoStand" then "stand" else if cn = "NoText" then "text" else if cn = "NoWish" then "wish" else if cn = "NoWorth" then "worth" else if cn = "Settled" then "fixed" else "many"
def cls9 : List Str := ["Free", "NoLine", "NoName", "NoStand", "NoText", "NoWish", "NoWorth", "Settled", "TooMany"]
theorem sp_law_refusal (hU : U "_law_refusal" = some f__law_refusal) {n : Nat} {cn : Str} {m : Option Int} {Q : Bool → D → Prop} (hc : cn ∈ cls9) (h : Q false (.str (wordC cn))) : Wa.run U (n + 1) "_law_refusal" [.exc cn m] Q xp := by
  simp only [cls9, List.mem_cons, List.not_mem_nil, or_false] at hc
  rcases hc with rfl | rfl | rfl | rfl | rfl | rfl | rfl | rfl | rfl
  · exact refusal_by hU (i := 0) (b0 := true) (b1 := false) (b2 := false) (b3 := false) (b4 := false) (b5 := false) (b6 := false) (b7 := false) (b8 := false) (by decide +kernel) (by decide +kernel) (by decide +kernel) (by decide +kernel) (by decide +kernel) (by decide +kernel) (by decide +kernel) (by decide +kernel) (by decide +kernel) rfl rfl rfl h
  · exact refusal_by hU (i := 1) (b0 := false) (b1 := true) (b2 := false) (b3 := false) (b4 := false) (b5 := false) (b6 := false) (b7 := false) (b8 := false) (by decide +kernel) (by decide +kernel) (by decide +kernel) (by decide +kernel) (by decide +kernel) (by decide +kernel) (by decide +kernel) (by decide +kernel) (by decide +kernel) rfl rfl rfl h
  · exact refusal_by hU (i := 2) (b0 := false) (b1 := false) (b2 := true) (b3 := false) (b4 := false) (b5 := false) (b6 := false) (b7 := false) (b8 := false) (by decide +kernel) (by decide +kernel) (by decide +kernel) (by decide +kernel) (by decide +kernel) (by decide +kernel) (by decide +kernel) (by decide +kernel) (by decide +kernel) rfl rfl rfl h
  · exact refusal_by hU (i := 3) (b0 := false) (b1 := false) (b2 := false) (b3 := true) (b4 := false) (b5 := false) (b6 := false) (b7 := false) (b8 := false) (by decide +kernel) (by decide +kernel) (by decide +kernel) (by decide +kernel) (by decide +kernel) (by decide +kernel) (by decide +kernel) (by decide +kernel) (by decide +kernel) rfl rfl rfl h
  · exact refusal_by hU (i := 4) (b0 := false) (b1 := false) (b2 := false) (b3 := false) (b4 := true) (b5 := false) (b6 := false) (b7 := false) (b8 := false) (by decide +kernel) (by decide +kernel) (by decide +kernel) (by decide +kernel) (by decide +kernel) (by decide +kernel) (by decide +kernel) (by decide +kernel) (by decide +kernel) rfl rfl rfl h
  · exact refusal_by hU (i := 5) (b0 := false) (b1 := false) (b2 := false) (b3 := false) (b4 := false) (b5 := true) (b6 := false) (b7 := false) (b8 := false) (by decide +kernel) (by decide +kernel) (by decide +kernel) (by decide +kernel) (by decide +kernel) (by decide +kernel) (by decide +kernel) (by decide +kernel) (by decide +kernel) rfl rfl rfl h
  · exact refusal_by hU (i := 6) (b0 := false) (b1 := false) (b2 := false) (b3 := false) (b4 := false) (b5 := false) (b6 := true) (b7 := false) (b8 := false) (by decide +kernel) (by decide +kernel) (by decide +kernel) (by decide +kernel) (by decide +kernel) (by decide +kernel) (by decide +kernel) (by decide +kernel) (by decide +kernel) rfl rfl rfl h
  · exact refusal_by hU (i := 7) (b0 := false) (b1 := false) (b2 := false) (b3 := false) (b4 := false) (b5 := false) (b6 := false) (b7 := true) (b8 := false) (by decide +kernel) (by decide +kernel) (by decide +kernel) (by decide +kernel) (by decide +kernel) (by decide +kernel) (by decide +kernel) (by decide +kernel) (by decide +kernel) rfl rfl rfl h
  · exact refusal_by hU (i := 8) (b0 := false) (b1 := false) (b2 := false) (b3 := false) (b4 := false) (b5 := false) (b6 := false) (b7 := false) (b8 := true) (by decide +kernel) (by decide +kernel) (by decide +kernel) (by decide +kernel) (by decide +kernel) (by decide +kernel) (by decide +kernel) (by decide +kernel) (by decide +kernel) rfl rfl rfl h
/-! what is raised -/
end
end Sp

/-! ### the script's draws -/
namespace Pen
open PySem PySem.Spec PyProof.Rows L2 Wa
def top (i : Nat) : Stmt := PySem.Challenge.pw_wishstrike_k08_refusals_apart.main.body.getD i (.Pass ⟨0, 0, 0, 0⟩)
abbrev sSpread : Stmt := top 12
abbrev sOpen : Stmt := top 13
abbrev sAnew : Stmt := top 14
abbrev sTake : Stmt := top 15
def spSpread : Sp := fun vs H Q _ => ∃ c a : Int, vs = [.int c, .int a] ∧ ∀ r : Int, Q (.int r) H
theorem scP : FnScope ["cell", "at", "one", "two", "three"] ["cell", "at"] (defScope sSpread) := ⟨rfl, rfl, rfl, by decide +kernel, rfl, by decide +kernel, by decide +kernel⟩
theorem scT : FnScope ["pen", "many", "at", "cell", "found"] ["pen", "many"] (defScope sTake) := ⟨rfl, rfl, rfl, by decide +kernel, rfl, by decide +kernel, by decide +kernel⟩
theorem scA : FnScope ["pen"] ["pen"] (defScope sAnew) := ⟨rfl, rfl, rfl, by decide +kernel, rfl, by decide +kernel, by decide +kernel⟩
theorem scO : FnScope ["script", "cells", "k", "cell"] ["script"] (defScope sOpen) := ⟨rfl, rfl, rfl, by decide +kernel, rfl, by decide +kernel, by decide +kernel⟩
theorem nzI {j : Int} (h : decide (j ≠ 0) = true) : j ≠ 0 := of_decide_eq_true h
theorem modB {i j : Int} (h : 0 < j) (h2 : j < 2 ^ 64) : CMul (i.fmod j) (i.fmod j) := by
  have a := Int.fmod_nonneg_of_pos i h
  have b := Int.fmod_lt_of_pos i h
  exact .inl ⟨by omega, by omega⟩
theorem seq_of {t u : TS} {D : Ends} {σ : L2.St} {H : Hp} (R : L2.St → Hp → Prop) (hrest : ∀ σ' H', R σ' H' → u D σ' H') (h : ∀ N : L2.St → Hp → Prop, (∀ σ' H', R σ' H' → N σ' H') → t { D with nx := N } σ H) : tSeq t u D σ H := h _ hrest
theorem seq_a {te : TE} {i : Nat} {u : TS} {D : Ends} {σ : L2.St} {H : Hp} (h : te σ H fun x H1 => u D (σ.set i (some x)) H1) : tSeq (tAsg te (gName i)) u D σ H := h
theorem seq_c {v : V} {i : Nat} {u : TS} {D : Ends} {σ : L2.St} {H : Hp} (h : u D (σ.set i (some v)) H) : tSeq (tAsg (tC v) (gName i)) u D σ H := h
theorem upd_upd {H : Hp} {p : Addr} {x y : HO} : upd (upd H p x) p y = upd H p y := by
  funext b
  by_cases h : b = p
  · subst h; rw [upd_same, upd_same]
  · rw [upd_ne h, upd_ne h, upd_ne h]
section
variable {P : Program} {w : World} {K : PySem.W.Frag} {mg : Str → Option Value} {base : Heap} {f g : Addr} {fd gd : FuncData} {n : Nat}
theorem ok_spread (F : Fun K "_law_spread" "_law_spread" sSpread f fd) : FnOk P w K mg base CX0 (n + 1) f fd ["cell", "at"] spSpread := by
  refine F.ok scP (fun vs H Q E h => ?_) (fun cdv A outer s H vs Q E hr h => ?_)
  · obtain ⟨c, a, rfl, _⟩ := h
    rfl
  obtain ⟨c, a, rfl, q⟩ := h
  refine ⟨_, pss_cons (ps_if (pt_cmpR op_ge (pv 0) (pe_op op_pow pe_int pe_int) (nomark _)) (pss_one (ps_ret (pv 0))) pss_nil)
    (pss_cons (ps_set (i := 2) scP.nd rfl (Or.inl rfl) (pe_op op_modN (pe_op op_add (pe_op op_add (pe_op op_mul (pe_op op_modN (pv 0) pe_int) pe_int) (pe_op op_mul (pv 1) pe_int)) pe_int) pe_int))
    (pss_cons (ps_set (i := 3) scP.nd rfl (Or.inl rfl) (pe_op op_modN (pe_op op_add (pe_op op_add (pe_op op_mul (pv 2) (pv 2)) (pe_op op_mul (pv 1) pe_int)) (pe_op op_modN (pv 0) pe_int)) pe_int))
    (pss_cons (ps_set (i := 4) scP.nd rfl (Or.inl rfl) (pe_op op_modN (pe_op op_add (pe_op op_add (pe_op op_mul (pv 3) (pv 3)) (pe_op op_mul (pv 2) pe_int)) pe_int) pe_int))
    (pss_one (ps_ret (pe_op op_add (pe_op op_mul (pe_op op_add (pe_op op_mul (pv 2) pe_int) (pv 3)) pe_int) (pv 4))))))), ?_⟩
  refine ⟨_, rfl, _, _, rfl, rfl, ⟨by decide, by decide, by decide⟩, _, _, rfl, rfl, _, rfl, ?_⟩
  refine ite2 (fun _ => ⟨_, rfl, q c⟩) (fun _ => ?_)
  refine ⟨_, rfl, _, _, rfl, rfl, (nzI rfl), _, _, rfl, rfl, .inr (by decide), _, rfl, _, _, rfl, rfl, .inr (by decide), _, _, rfl, rfl, _, _, rfl, rfl, _, _, rfl, rfl, nzI rfl, ?_⟩
  refine ⟨_, rfl, _, rfl, _, _, rfl, rfl, modB (by decide) (by decide), _, rfl, _, _, rfl, rfl, .inr (by decide), _, _, rfl, rfl, _, rfl, _, _, rfl, rfl, nzI rfl, _, _, rfl, rfl, _, _, rfl, rfl, nzI rfl, ?_⟩
  refine ⟨_, rfl, _, rfl, _, _, rfl, rfl, modB (by decide) (by decide), _, rfl, _, _, rfl, rfl, .inr (by decide), _, _, rfl, rfl, _, _, rfl, rfl, _, _, rfl, rfl, nzI rfl, ?_⟩
  exact ⟨_, rfl, _, _, rfl, rfl, .inr (by decide), _, rfl, _, _, rfl, rfl, _, _, rfl, rfl, .inr (by decide), _, rfl, _, _, rfl, rfl, q _⟩
theorem ok_anew (F : Fun K "_law_anew" "_law_anew" sAnew f fd) : FnOk P w K mg base CX0 (n + 1) f fd ["pen"] spAnew := by
  refine F.ok scA (fun vs H Q E h => ?_) (fun cdv A outer s H vs Q E hr h => ?_)
  · obtain ⟨p, c0, rfl, _⟩ := h
    rfl
  obtain ⟨p, c0, rfl, ⟨cells, at_, st, h1, h2, h3, h4⟩, q⟩ := h
  refine ⟨_, pss_cons (ps_asg pe_int (pg_sub (pv 0) pe_int set_list)) (pss_one (ps_ret (pv 0))), ?_⟩
  exact ⟨_, rfl, p, _, 2, 2, rfl, rfl, h1, rfl, _, rfl, q at_ 0 h3⟩
theorem ok_take (F : Fun K "_law_take" "_law_take" sTake f fd) (G : FnOk P w K mg base CX0 n g gd ["cell", "at"] spSpread) (bG : Binds K gd ["cell", "at"] []) (kG : PySem.W.keepIn K (.ref g) = true) (mG : mg "_law_spread" = some (.ref g)) (ml : mg "len" = none) : FnOk P w K mg base CX0 (n + 1) f fd ["pen", "many"] spTake := by
  refine F.ok scT (fun vs H Q E h => ?_) (fun cdv A outer s H vs Q E hr h => ?_)
  · obtain ⟨p, c0, m, rfl, _⟩ := h
    rfl
  obtain ⟨p, c0, m, rfl, ⟨cells, at_, st, h1, h2, h3, h4⟩, hm1, hm2, q⟩ := h
  refine ⟨_, pss_cons (ps_if (pt_cmpR op_lt (pe_ix ix_list (pv 0) pe_int (fun _ _ => rfl)) (pv 1) (nomark _))
      (pss_cons (ps_set (i := 2) scT.nd rfl (Or.inl rfl) (pe_ix ix_list (pv 0) pe_int (fun _ _ => rfl)))
      (pss_cons (ps_set (i := 3) scT.nd rfl (Or.inl rfl) pe_int)
      (pss_cons (ps_if (pt_cmpR op_lt (pv 2) (pe_callB call_len_seq rfl ml PySem.boot_len (pa_cons (pe_ix ix_list (pv 0) pe_int (fun _ _ => rfl)) pa_nil)) (nomark _))
          (pss_one (ps_set (i := 3) scT.nd rfl (Or.inl rfl) (pe_ix ix_list (pe_ix ix_list (pv 0) pe_int (fun _ _ => rfl)) (pv 2) (fun _ _ => rfl))))
          (pss_one (ps_if (pt_cmpR op_gt (pe_callB call_len_seq rfl ml PySem.boot_len (pa_cons (pe_ix ix_list (pv 0) pe_int (fun _ _ => rfl)) pa_nil)) pe_int (nomark _))
            (pss_one (ps_set (i := 3) scT.nd rfl (Or.inl rfl) (pe_op op_modN (pe_ix ix_list (pe_ix ix_list (pv 0) pe_int (fun _ _ => rfl)) (pe_op op_modN (pe_op op_add (pe_op op_mul (pv 2) pe_int) pe_int) (pe_callB call_len_seq rfl ml PySem.boot_len (pa_cons (pe_ix ix_list (pv 0) pe_int (fun _ _ => rfl)) pa_nil))) (fun _ _ => rfl)) (pe_op op_add (pe_op op_pow pe_int pe_int) (pv 2)))))
            pss_nil)))
      (pss_cons (ps_asg (pe_op op_add (pv 2) pe_int) (pg_sub (pv 0) pe_int set_list))
      (pss_one (ps_asg (pe_call G hr rfl mG kG bG .nil pass0 (pa_cons (pv 3) (pa_cons (pv 2) pa_nil))) (pg_sub (pv 0) pe_int set_list))))))) pss_nil)
    (pss_cons (ps_set (i := 4) scT.nd rfl (Or.inl rfl) (pe_op op_modN (pe_ix ix_list (pv 0) pe_int (fun _ _ => rfl)) (pv 1)))
    (pss_cons (ps_asg (pe_op op_fdivN (pe_ix ix_list (pv 0) pe_int (fun _ _ => rfl)) (pv 1)) (pg_sub (pv 0) pe_int set_list))
    (pss_one (ps_ret (pv 4))))), ?_⟩
  refine seq_of (fun σ' H' => ∃ (x1 x2 x3 : Option V) (a' s' : Int), σ' = [some (.ref p), some (.int m), x1, x2, x3] ∧ 0 ≤ a' ∧ H' p = some (.lst [.ref c0, .int a', .int s']) ∧ ∀ y, upd H' p y = upd H p y) ?_ ?_
  · rintro σ' H' ⟨x1, x2, x3, a', s', rfl, ha, hp, hu⟩
    have e1 : atI [V.ref c0, V.int a', V.int s'] 2 = some (.int s') := rfl
    refine ⟨_, rfl, p, _, 2, _, rfl, rfl, SqL.of hp, e1, _, rfl, _, _, rfl, rfl, by omega, ?_⟩
    refine ⟨_, rfl, p, _, 2, _, rfl, rfl, SqL.of hp, e1, _, rfl, _, _, rfl, rfl, ⟨by omega, by omega⟩, ?_⟩
    refine ⟨_, rfl, p, _, 2, 2, rfl, rfl, hp, rfl, _, rfl, ?_⟩
    rw [hu]
    exact q _ a' _ (Int.fmod_nonneg_of_pos _ (by omega)) (Int.fmod_lt_of_pos _ (by omega)) ha
  · intro N hN
    have e0 : atI [V.ref c0, V.int at_, V.int st] 0 = some (.ref c0) := rfl
    have e1 : atI [V.ref c0, V.int at_, V.int st] 1 = some (.int at_) := rfl
    have e2 : atI [V.ref c0, V.int at_, V.int st] 2 = some (.int st) := rfl
    refine ⟨_, rfl, p, _, 2, _, rfl, rfl, SqL.of h1, e2, _, rfl, _, _, rfl, rfl, _, rfl, ?_⟩
    refine ite2 (fun _ => ?_) (fun _ => ?_)
    · refine seq_a ⟨_, rfl, p, _, 1, _, rfl, rfl, SqL.of h1, e1, seq_c ?_⟩
      have hcl : (cells.map V.int).length = cells.length := List.length_map _
      refine seq_of (fun σ' H' => ∃ (x3 : Option V) (c : Int), σ' = [some (.ref p), some (.int m), some (.int at_), some (.int c), x3] ∧ H' = H) ?_ ?_
      · rintro σ' H' ⟨x3, c, rfl, rfl⟩
        refine ⟨_, rfl, _, _, rfl, rfl, _, rfl, p, _, 1, 1, rfl, rfl, h1, rfl, ?_⟩
        refine ⟨_, rfl, _, rfl, c, at_, rfl, fun r => ?_⟩
        refine ⟨_, rfl, p, _, 2, 2, rfl, rfl, upd_same, rfl, hN _ _ ⟨_, _, _, at_ + 1, r, rfl, by omega, upd_same, fun y => by rw [upd_upd, upd_upd]⟩⟩
      · intro N2 hN2
        refine ⟨_, rfl, _, rfl, p, _, 0, _, rfl, rfl, SqL.of h1, e0, c0, _, rfl, .inl (SqL.of h2), _, _, rfl, rfl, _, rfl, ?_⟩
        refine ite2 (fun hc => ?_) (fun _ => ?_)
        · have hlt : at_ < ((cells.map V.int).length : Int) := of_decide_eq_true hc
          rw [hcl] at hlt
          have hk : at_.toNat < cells.length := by omega
          have e3 : atI (cells.map V.int) at_ = some (.int cells[at_.toNat]) := by
            have z : at_ = ((at_.toNat : Nat) : Int) := by omega
            have y : atI (cells.map V.int) ((at_.toNat : Nat) : Int) = some (.int cells[at_.toNat]) := atI_nat (by rw [List.getElem?_map, List.getElem?_eq_getElem hk] <;> rfl)
            rw [← z] at y
            exact y
          exact ⟨_, rfl, p, _, 0, _, rfl, rfl, SqL.of h1, e0, _, rfl, c0, _, at_, _, rfl, rfl, SqL.of h2, e3, hN2 _ _ ⟨_, _, rfl, rfl⟩⟩
        · refine ⟨_, rfl, p, _, 0, _, rfl, rfl, SqL.of h1, e0, c0, _, rfl, .inl (SqL.of h2), _, _, rfl, rfl, _, rfl, ?_⟩
          refine ite2 (fun hc => ?_) (fun _ => ?_)
          · have hlt : 0 < ((cells.map V.int).length : Int) := of_decide_eq_true hc
            rw [hcl] at hlt
            have hz : ((cells.map V.int).length : Int) ≠ 0 := by rw [hcl]; omega
            have n1 := Int.fmod_nonneg_of_pos (at_ * 5 + 3) (b := ((cells.map V.int).length : Int)) (by rw [hcl]; omega)
            have n2 := Int.fmod_lt_of_pos (at_ * 5 + 3) (b := ((cells.map V.int).length : Int)) (by rw [hcl]; omega)
            generalize hj : (at_ * 5 + 3).fmod ((cells.map V.int).length : Int) = j at n1 n2
            have hk : j.toNat < cells.length := by rw [hcl] at n2; omega
            have e3 : atI (cells.map V.int) j = some (.int cells[j.toNat]) := by
              have z : j = ((j.toNat : Nat) : Int) := by omega
              have y : atI (cells.map V.int) ((j.toNat : Nat) : Int) = some (.int cells[j.toNat]) := atI_nat (by rw [List.getElem?_map, List.getElem?_eq_getElem hk] <;> rfl)
              rw [← z] at y
              exact y
            have tens : (0 : Int) < 10 ^ Int.toNat 17 := by decide
            refine ⟨_, rfl, p, _, 0, _, rfl, rfl, SqL.of h1, e0, _, rfl, _, _, rfl, rfl, .inr (by decide), _, _, rfl, rfl, _, rfl, p, _, 0, _, rfl, rfl, SqL.of h1, e0, c0, _, rfl, .inl (SqL.of h2), _, _, rfl, rfl, hz, c0, _, j, _, rfl, congrArg V.int hj, SqL.of h2, e3, ?_⟩
            exact ⟨_, _, rfl, rfl, ⟨by decide, by decide, by decide⟩, _, rfl, _, _, rfl, rfl, _, _, rfl, rfl, by omega, hN2 _ _ ⟨_, _, rfl, rfl⟩⟩
          · exact hN2 _ _ ⟨_, _, rfl, rfl⟩
    · exact hN _ _ ⟨_, _, _, at_, st, rfl, h3, h1, fun y => rfl⟩
def spOpen (K : PySem.W.Frag) : Sp := fun vs H Q _ => ∃ (a : Addr) (ns : List Int), vs = [.ref a] ∧ SqL K H a (ns.map V.int) ∧ ns.length ≤ 63 ∧ ∀ (p c0 : Addr) (H' : Hp), Same H H' → PenAt p c0 H' → Q (.ref p) H'
theorem same_new {H : Hp} {p : Addr} (h : H p = none) (o : HO) : Same H (upd H p o) := fun b u q => by rw [upd_ne (fun z => by rw [z, h] at q; cases q)]; exact q
theorem cut_int (ns : List Int) (lo hi : Option Int) : ∃ ms : List Int, cutV (ns.map V.int) lo hi = ms.map V.int ∧ ms = (ns.drop (HT.sIx ns.length 0 lo)).take (HT.sIx ns.length ns.length hi - HT.sIx ns.length 0 lo) := by
  refine ⟨_, ?_, rfl⟩
  unfold cutV
  rw [List.length_map, List.map_take, List.map_drop]
theorem ok_open (F : Fun K "_law_open" "_law_open" sOpen f fd) (ml : mg "list" = none) (me : mg "enumerate" = none) : FnOk P w K mg base CX0 (n + 1) f fd ["script"] (spOpen K) := by
  refine F.ok scO (fun vs H Q E h => ?_) (fun cdv A outer s H vs Q E hr h => ?_)
  · obtain ⟨a, ns, rfl, _⟩ := h
    rfl
  obtain ⟨a, ns, rfl, hS, h63, q⟩ := h
  refine ⟨_, pss_cons (ps_set (i := 1) scO.nd rfl (Or.inl rfl) (pe_callTy call_list_of rfl ml boot_list (pa_cons (pe_slice sl_list (pv 0) po_none (po_some pe_int)) pa_nil)))
    (pss_cons (ps_for (fun _ _ h => h.elim) rfl (pi_enum rfl me (pa_cons (pe_slice sl_list (pv 0) (po_some pe_int) (po_some pe_int)) pa_nil)) (pg_tup rfl (pgs_cons (pg_name (i := 2) scO.nd rfl (Or.inl rfl)) (pgs_cons (pg_name (i := 3) scO.nd rfl (Or.inl rfl)) pgs_nil)))
      (pss_one (ps_asg (pe_op op_add (pe_ix ix_list (pv 1) (pe_op op_modN (pv 2) pe_int) (fun _ _ => rfl)) (pv 3)) (pg_sub (pv 1) (pe_op op_modN (pv 2) pe_int) set_list))))
    (pss_one (ps_ret (pe_lst (pa_cons (pv 1) (pa_cons pe_int (pa_cons pe_int pa_nil))))))), ?_⟩
  obtain ⟨c1, e1, hc1⟩ := cut_int ns none (some 12)
  obtain ⟨c2, e2, hc2⟩ := cut_int ns (some 12) (some 63)
  have z1 : HT.sIx ns.length ns.length (some 12) = min 12 ns.length := HT.sIx_nat _ _ 12
  have z2 : HT.sIx ns.length 0 (some 12) = min 12 ns.length := HT.sIx_nat _ _ 12
  have z3 : HT.sIx ns.length ns.length (some 63) = min 63 ns.length := HT.sIx_nat _ _ 63
  have z4 : HT.sIx ns.length 0 none = 0 := rfl
  have l1 : c1.length = min 12 ns.length := by rw [hc1, z1, z4, List.length_take, List.length_drop]; omega
  have l2 : c2.length = min 63 ns.length - min 12 ns.length := by rw [hc2, z2, z3, List.length_take, List.length_drop]; omega
  refine seq_a ⟨_, rfl, 12, rfl, a, _, rfl, hS, fun p1 hp1 => ?_⟩
  rw [e1]
  have s1 : Same H (upd H p1 (.lst (c1.map V.int))) := same_new hp1 _
  refine ⟨p1, _, rfl, .inl (SqL.of upd_same), fun p2 hp2 => ?_⟩
  have s2 := s1.trans (same_new hp2 (.lst (c1.map V.int)))
  refine seq_of (fun σ' H' => ∃ (x y : Option V) (cs : List Int), σ' = [some (.ref a), some (.ref p2), x, y] ∧ Same H H' ∧ H' p2 = some (.lst (cs.map V.int)) ∧ cs.length ≤ 12) ?_ ?_
  · rintro σ' H' ⟨x, y, cs, rfl, hs, hp, hl⟩
    refine ⟨_, rfl, by show 3 ≤ sizeLine; decide, fun p hp' => ?_⟩
    have hne : p2 ≠ p := fun z => by rw [z, hp'] at hp; cases hp
    exact q p p2 _ (hs.trans (same_new hp' _)) ⟨cs, 0, 0, upd_same, by rw [upd_ne hne]; exact hp, by decide, hl⟩
  · intro N hN
    refine ⟨_, rfl, 12, rfl, 63, rfl, a, _, rfl, s2.seq hS, fun p3 hp3 => ?_⟩
    rw [e2]
    have s3 := s2.trans (same_new hp3 (.lst (c2.map V.int)))
    have n23 : p2 ≠ p3 := fun z => by rw [← z, upd_same] at hp3; cases hp3
    refine ⟨p3, _, rfl, SqL.of upd_same, ?_⟩
    refine for_it (walk_enum (xs := c2.map V.int)) (fun i σ' H' => ∃ (x y : Option V) (cs : List Int), σ' = [some (.ref a), some (.ref p2), x, y] ∧ Same H H' ∧ H' p2 = some (.lst (cs.map V.int)) ∧ cs.length = c1.length ∧ H' p3 = some (.lst (c2.map V.int))) ?_ ?_ ?_ ?_
    · exact ⟨none, none, c1, rfl, s3, by rw [upd_ne n23]; exact upd_same, rfl, upd_same⟩
    · rintro i σ' H' hi ⟨_, _, _, _, _, _, _, h3⟩
      exact SqL.of h3
    · rintro i v σ' H' H2 hi ⟨x, y, cs, rfl, hs, hp, hl, h3⟩ ⟨T, u, z, rfl, hT, rfl, hu, hz⟩
      cases hu
      have hz : (c2.map V.int)[i]? = some z := hz
      rw [List.length_map] at hi
      rw [List.getElem?_map, List.getElem?_eq_getElem hi] at hz
      cases hz
      have hl12 : cs.length = 12 := by omega
      have nT : p2 ≠ T := fun z => by rw [z, hT] at hp; cases hp
      have n3 : p3 ≠ T := fun z => by rw [z, hT] at h3; cases h3
      have n1 := Int.fmod_nonneg_of_pos ((i : Nat) : Int) (b := 12) (by decide)
      have n2 := Int.fmod_lt_of_pos ((i : Nat) : Int) (b := 12) (by decide)
      generalize hj : ((i : Nat) : Int).fmod 12 = j at n1 n2
      have hk : j.toNat < cs.length := by omega
      have hx : ixN cs.length j = some j.toNat := by
        unfold ixN
        rw [if_pos n1, if_pos (by omega)]
      have e3 : atI (cs.map V.int) j = some (.int cs[j.toNat]) := by
        unfold atI
        rw [List.length_map, hx]
        show (cs.map V.int)[j.toNat]? = _
        rw [List.getElem?_map, List.getElem?_eq_getElem hk] <;> rfl
      have hp' : upd H' T (.tup [.int (i : Nat), .int c2[i]]) p2 = some (.lst (cs.map V.int)) := by rw [upd_ne nT]; exact hp
      refine ⟨T, _, rfl, SqT.of upd_same, rfl, _, _, rfl, _, _, rfl, rfl, ?_⟩
      refine ⟨_, rfl, _, rfl, _, _, rfl, rfl, nzI rfl, p2, _, j, _, rfl, congrArg V.int hj, SqL.of hp', e3, _, rfl, _, _, rfl, rfl, ?_⟩
      refine ⟨_, rfl, _, rfl, _, _, rfl, rfl, nzI rfl, p2, _, j, j.toNat, rfl, congrArg V.int hj, hp', by rw [List.length_map]; exact hx, ?_⟩
      refine ⟨_, _, cs.set j.toNat (cs[j.toNat] + c2[i]), rfl, fun b o e => ?_, by rw [upd_same, List.map_set], by rw [List.length_set]; exact hl, ?_⟩
      · have e' := hs b o e
        have h0 : H p2 = none := s1.free hp2
        rw [upd_ne (fun z => by rw [z, h0] at e; cases e), upd_ne (fun z => by rw [z, hT] at e'; cases e')]
        exact e'
      · rw [upd_ne n23.symm, upd_ne n3]; exact h3
    · rintro σ' H' ⟨x, y, cs, rfl, hs, hp, hl, h3⟩
      exact hN _ _ ⟨x, y, cs, rfl, hs, hp, by omega⟩
end
end Pen


/-! ### the defs of the cut program -/
namespace Df
open PySem PySem.Spec PyProof.Rows L2 Wa
def lawN : List Str := ["script", "pen", "turn", "text", "number", "some", "words", "one", "k"]
def lawB : B := (.cons (.for_ (.nm 2) (.rng1 (.cst (.int 3))) (.cons (.dropE (.anew (.var 1))) (.cons (.asg 3 (.join (.ex (.cst (.str ""))) (.ex (.lc [("k", 8)] (.nm 8) (.rng1 (.bop .add (.ex (.cst (.int 1))) (.ex (.draw (.var 1) (.cst (.int 5)))))) .yes (.call "_law_any_sign" (.cons (.ex (.var 1)) .nil)))))) (.cons (.asg 4 (.bop .sub (.ex (.draw (.var 1) (.bop .pow (.ex (.cst (.int 10))) (.ex (.cst (.int 6)))))) (.ex (.cst (.int 9))))) (.cons (.asg 5 (.lstd (.cons (.ex (.xnew0 "Free" (.var 3))) (.cons (.ex (.xnew0 "NoLine" (.var 3))) (.cons (.ex (.xnew0 "NoName" (.var 3))) (.cons (.ex (.xnew0 "NoStand" (.var 3))) (.cons (.ex (.xnew0 "NoText" (.var 3))) (.cons (.ex (.xnew1 (.var 4))) (.cons (.ex (.xnew0 "NoWorth" (.var 3))) .nil))))))))) (.cons (.asg 5 (.bop .add (.bor 5) (.ex (.lstd (.cons (.ex (.xnew0 "Settled" (.var 3))) (.cons (.ex (.xnew0 "TooMany" (.var 3))) .nil)))))) (.cons (.asg 6 (.lc [("one", 7)] (.nm 7) (.seq (.var 5)) .yes (.call "_law_refusal" (.cons (.ex (.var 7)) .nil)))) (.cons (.ite (.val (.cmp .ne (.bor 6) (.ex (.lstd (.cons (.ex (.cst (.str "free"))) (.cons (.ex (.cst (.str "line"))) (.cons (.ex (.cst (.str "name"))) (.cons (.ex (.cst (.str "stand"))) (.cons (.ex (.cst (.str "text"))) (.cons (.ex (.cst (.str "wish"))) (.cons (.ex (.cst (.str "worth"))) (.cons (.ex (.cst (.str "fixed"))) (.cons (.ex (.cst (.str "many"))) .nil))))))))))))) (.cons (.ret (.cst (.bl false))) .nil) .nil) (.cons (.ite (.not (.val (.call "_law_same" (.cons (.ex (.exn (.ex (.ixx (.bor 5) (.ex (.cst (.int 5))))))) (.cons (.ex (.var 4)) .nil))))) (.cons (.ret (.cst (.bl false))) .nil) .nil) .nil))))))))) (.cons (.ret (.cmp .eq (.ex (.call "_law_refusal" (.cons (.ex (.xnew0 "WishError" (.cst (.str "a")))) .nil))) (.ex (.cst (.str "odd"))))) .nil))
def UL : List (String × Fn) := [("_law_sign_but", f__law_sign_but), ("_law_any_sign", f__law_any_sign), ("_law_same", f__law_same), ("_law_refusal", f__law_refusal)]
def U (f : String) : Option Fn := UL.lookup f
def GG : SG := ⟨U, [], false, ["WishError", "NoWish", "NoStand", "NoName", "NoWorth", "TooMany", "Settled", "Free", "NoText", "NoLine"]⟩
def law0 : Wa.Env := .no :: .sh .pen :: List.replicate (lawN.length - 2) .no
end Df

namespace Mth
open PySem (Str)
open Wa Df Sp
variable {xp : D → Prop}
theorem prim_addS {a b : Str} (h : a.length + b.length ≤ 16777216) : prim .add [.str a, .str b] = some (false, .str (a ++ b)) := by
  show okI (decide (a.length + b.length ≤ big)) _ = _
  rw [decide_eq_true (by exact h)]
  rfl
def sg1 : Str := " !\"#$&'()*+,-./0123456789:;<=>?@ABCDEFGHIJKLMNOPQRSTUVWXYZ[\\]^_`"
def sg2 : Str := "abcdefghijklmnopqrstuvwxyz{|}~\t\n"
def sgs : List D := (sg1 ++ sg2).cps.toList.map fun c => D.str ⟨#[c]⟩
theorem sgs_ok : ∀ c ∈ (sg1 ++ sg2).cps.toList, c < 128 ∧ memD (.str ⟨#[c]⟩) (.str "") = some false := by decide +kernel
theorem sgs_len : 1 ≤ sgs.length ∧ sgs.length ≤ 1000 := by
  unfold sgs
  rw [List.length_map]
  decide +kernel
def One (d : D) : Prop := ∃ c, c < 128 ∧ d = .str ⟨#[c]⟩
theorem sp_any_sign {n : Nat} {Q : Bool → D → Prop} (h : ∀ c, c < 128 → Q false (.str ⟨#[c]⟩)) : Wa.run U (n + 2) "_law_any_sign" [.pen] Q xp := by
  refine run_intro rfl rfl ?_
  refine run_intro (U := U) (n := n) (f := "_law_sign_but") rfl rfl ?_
  refine ⟨(Nat.le_of_ble_eq_true rfl), ap_of rfl (prim_addS (a := sg1) (b := sg2) (by decide +kernel)) ⟨(Nat.le_of_ble_eq_true rfl), ?_⟩⟩
  refine ⟨by decide +kernel, rfl, ?_⟩
  refine lcL_kind (xs := sgs) (fun r => ∃ t, r = [.sh .pen, .sh (.str ""), .sh (.str (sg1 ++ sg2)), .no, t]) One [] (fun _ h => nomatch h) ⟨_, rfl⟩ (fun x hx r' k' hr hk => ?_) (fun ys r' hl hy hr => ?_)
  · obtain ⟨t, rfl⟩ := hr
    obtain ⟨c, hc, rfl⟩ := List.mem_map.mp hx
    obtain ⟨c1, c2⟩ := sgs_ok c hc
    refine ap_of rfl (show prim .nin [.str ⟨#[c]⟩, .str ""] = some (false, .bl (!false)) from ?_) ?_
    · show (memD (.str ⟨#[c]⟩) (.str "")).map (fun b => (false, D.bl (!b))) = _
      rw [c2]
      rfl
    · exact hk _ _ ⟨c, c1, rfl⟩ ⟨_, rfl⟩
  · obtain ⟨t, rfl⟩ := hr
    obtain ⟨s1, s2⟩ := sgs_len
    rw [List.length_nil, Nat.zero_add] at hl
    refine ⟨(Nat.le_of_ble_eq_true rfl), ap_of rfl rfl ⟨by omega, by omega, fun j j0 j1 => ?_⟩⟩
    obtain ⟨x, hx, e⟩ := isAt_of j0 j1
    obtain ⟨c, c1, rfl⟩ := hy x hx
    exact ap_of rfl (prim_ixL e) (h c c1)
/-! a text with a sign more, or another one -/
theorem strsD_m : ∀ l : List Str, strsD (l.map D.str) = some l
  | [] => rfl
  | x :: l => by
    show (strsD (l.map D.str)).map (fun r => x :: r) = _
    rw [strsD_m l]
    rfl
theorem ones_back : ∀ {ys : List D}, (∀ y ∈ ys, One y) → ∃ l : List Str, ys = l.map D.str ∧ ∀ s ∈ l, s.length = 1
  | [], _ => ⟨[], rfl, fun s h => nomatch h⟩
  | y :: ys, h => by
    obtain ⟨c, _, rfl⟩ := h y List.mem_cons_self
    obtain ⟨l, rfl, hl⟩ := ones_back (ys := ys) fun z hz => h z (List.mem_cons_of_mem _ hz)
    refine ⟨⟨#[c]⟩ :: l, rfl, fun s hs => ?_⟩
    rcases List.mem_cons.mp hs with rfl | hs
    · rfl
    · exact hl s hs
theorem sum_ones : ∀ {l : List Str}, (∀ s ∈ l, s.length = 1) → (l.map (·.length)).sum = l.length
  | [], _ => rfl
  | x :: l, h => by
    rw [List.map_cons, List.sum_cons, List.length_cons, sum_ones (l := l) fun s hs => h s (List.mem_cons_of_mem _ hs), h x List.mem_cons_self]
    omega
def wF : D → D
  | .exc cn _ => .str (wordC cn)
  | d => d
def ex9 (i : Int) : List D := [.exc "Free" none, .exc "NoLine" none, .exc "NoName" none, .exc "NoStand" none, .exc "NoText" none, .exc "NoWish" (some i), .exc "NoWorth" none] ++ [.exc "Settled" none, .exc "TooMany" none]
theorem words_ok {i : Int} : (ex9 i).map wF = word9.map D.str := by
  show [D.str (wordC "Free"), .str (wordC "NoLine"), .str (wordC "NoName"), .str (wordC "NoStand"), .str (wordC "NoText"), .str (wordC "NoWish"), .str (wordC "NoWorth"), .str (wordC "Settled"), .str (wordC "TooMany")] = _
  rw [show wordC "Free" = "free" by decide +kernel, show wordC "NoLine" = "line" by decide +kernel, show wordC "NoName" = "name" by decide +kernel, show wordC "NoStand" = "stand" by decide +kernel, show wordC "NoText" = "text" by decide +kernel, show wordC "NoWish" = "wish" by decide +kernel, show wordC "NoWorth" = "worth" by decide +kernel, show wordC "Settled" = "fixed" by decide +kernel, show wordC "TooMany" = "many" by decide +kernel]
  rfl
theorem odd_refusal {n : Nat} {Q : Bool → D → Prop} (h : Q false (.str "odd")) : Wa.run U (n + 1) "_law_refusal" [.exc "WishError" none] Q xp := by
  refine run_intro rfl rfl ?_
  refine ap_of rfl (prim_exi (b := false) (by decide +kernel)) (ap_of rfl (prim_exi (b := false) (by decide +kernel)) (ap_of rfl (prim_exi (b := false) (by decide +kernel)) ⟨(Nat.le_of_ble_eq_true rfl), (Nat.le_of_ble_eq_true rfl), ?_⟩))
  refine ap_of rfl (prim_exi (b := false) (by decide +kernel)) (ap_of rfl (prim_exi (b := false) (by decide +kernel)) (ap_of rfl (prim_exi (b := false) (by decide +kernel)) ⟨(Nat.le_of_ble_eq_true rfl), ap_of rfl (prim_addL (xs := [.bl false, .bl false, .bl false]) (ys := [.bl false, .bl false, .bl false]) (Nat.le_of_ble_eq_true rfl)) ⟨(Nat.le_of_ble_eq_true rfl), ?_⟩⟩))
  refine ap_of rfl (prim_exi (b := false) (by decide +kernel)) (ap_of rfl (prim_exi (b := false) (by decide +kernel)) (ap_of rfl (prim_exi (b := false) (by decide +kernel)) ⟨(Nat.le_of_ble_eq_true rfl), ap_of rfl (prim_addL (xs := [.bl false, .bl false, .bl false, .bl false, .bl false, .bl false]) (ys := [.bl false, .bl false, .bl false]) (Nat.le_of_ble_eq_true rfl)) ⟨(Nat.le_of_ble_eq_true rfl), ?_⟩⟩))
  have pc : prim .count [.lst (List.replicate 9 (D.bl false)), .bl true] = some (false, .int ((0 : Nat) : Int)) := rfl
  refine ⟨rfl, ap_of rfl pc (ap_of rfl (prim_ne rfl rfl) ?_)⟩
  exact ite_t (show (!eqd (.int ((0 : Nat) : Int)) (.int 1)) = true by decide +kernel) h
theorem law_true : evB (Wa.run U 60) X0 lawB law0 (fun _ => False) (fun _ d _ => d = .bl true) := by
  refine ⟨rfl, ?_⟩
  refine forL_all (fun r => ∃ a2 a3 a4 a5 a6, r = [.no, .sh .pen, a2, a3, a4, a5, a6, .no, .no]) ⟨_, _, _, _, _, rfl⟩ (fun x hx r' k' hr hk => ?_) (fun r' hr => ?_)
  · obtain ⟨a2, a3, a4, a5, a6, rfl⟩ := hr
    refine ⟨rfl, ?_⟩
    refine ⟨by decide, by decide, fun k k0 k1 => ap_of rfl rfl ⟨in62_of (by omega) (by omega), rfl, ?_⟩⟩
    refine lcL_kind (fun r => ∃ t, r = [.no, .sh .pen, .sh x, a3, a4, a5, a6, .no, t]) One [] (fun _ h => nomatch h) ⟨_, rfl⟩ (fun y hy r' k2 hr hk2 => ?_) (fun ys r' hl hy hr => ?_)
    · obtain ⟨t, rfl⟩ := hr
      exact sp_any_sign (n := 58) fun c hc => hk2 _ _ ⟨c, hc, rfl⟩ ⟨_, rfl⟩
    · obtain ⟨t, rfl⟩ := hr
      obtain ⟨l, rfl, l1⟩ := ones_back hy
      have ll : l.length ≤ 5 := by
        rw [List.length_map, List.length_nil, Nat.zero_add, rangeL_len'] at hl
        omega
      have pj : prim .join [.str "", .lst (l.map D.str)] = some (false, .str (PySem.Txt.join "" l)) := by
        show (strsD (l.map D.str)).bind _ = _
        rw [strsD_m]
        show okI (decide ((l.map (·.length)).sum + l.length * ("" : Str).length ≤ 16777216)) _ = _
        rw [decide_eq_true (by rw [sum_ones l1, show ("" : Str).length = 0 by decide +kernel]; omega)]
        rfl
      refine ap_of rfl pj ⟨(Nat.le_of_ble_eq_true rfl), ?_⟩
      generalize PySem.Txt.join "" l = text
      refine ap_of rfl (show prim .pow [.int 10, .int 6] = some (false, .int 1000000) by rfl) ⟨by decide, by decide, fun q q0 q1 => ap_of rfl rfl ⟨(Nat.le_of_ble_eq_true rfl), ?_⟩⟩
      refine ⟨(Nat.le_of_ble_eq_true rfl), (Nat.le_of_ble_eq_true rfl), (Nat.le_of_ble_eq_true rfl), ap_of rfl (prim_addL (xs := (ex9 (q - 9)).take 7) (ys := (ex9 (q - 9)).drop 7) (by show 7 + 2 ≤ 16777216; decide)) ⟨(Nat.le_of_ble_eq_true rfl), ?_⟩⟩
      refine ⟨rfl, ?_⟩
      refine lcL_map (xs := ex9 (q - 9)) (fun r => ∃ t, r = [.no, .sh .pen, .sh x, .sh (.str text), .sh (.int (q - 9)), .sh (.lst (ex9 (q - 9))), a6, t, .no]) wF [] ⟨_, rfl⟩ (fun y hy r' k2 hr hk2 => ?_) (fun r' hr => ?_)
      · obtain ⟨t, rfl⟩ := hr
        have c : ∃ cn m, y = .exc cn m ∧ cn ∈ cls9 := by
          simp only [ex9, List.cons_append, List.nil_append, List.mem_cons, List.not_mem_nil, or_false] at hy
          rcases hy with rfl | rfl | rfl | rfl | rfl | rfl | rfl | rfl | rfl <;> exact ⟨_, _, rfl, by decide +kernel⟩
        obtain ⟨cn, m, rfl, hc⟩ := c
        exact sp_law_refusal rfl (n := 59) hc (hk2 _ ⟨_, rfl⟩)
      · obtain ⟨t, rfl⟩ := hr
        rw [List.nil_append, words_ok]
        refine ⟨(Nat.le_of_ble_eq_true rfl), (Nat.le_of_ble_eq_true rfl), ap_of rfl (prim_ne (by decide +kernel) (by decide +kernel)) (ite_f (by decide +kernel) ?_)⟩
        refine ap_of rfl (prim_ixL (show isAt (ex9 (q - 9)) 5 = some (false, .exc "NoWish" (some (q - 9))) from rfl)) (ap_of rfl rfl (sp_same rfl 0 (n := 59) rfl ?_))
        exact hk _ ⟨_, _, _, _, _, rfl⟩
  · obtain ⟨a2, a3, a4, a5, a6, rfl⟩ := hr
    exact odd_refusal (n := 59) (ap_of rfl (prim_eqSt (a := "odd") (by decide +kernel)) rfl)
end Mth

/-! ### the top -/
namespace Fin
open PySem PySem.Spec PyProof.Rows L2 Wa Df Pen
abbrev sLaw : Stmt := top 20
def spLaw (K : PySem.W.Frag) : Sp := fun vs H Q _ => ∃ (a : Addr) (ns : List Int), vs = [.ref a] ∧ SqL K H a (ns.map V.int) ∧ ns.length ≤ 63 ∧ ∀ H', Q (.bl true) H'
theorem scL : FnScope lawN ["script"] (defScope sLaw) := ⟨rfl, rfl, rfl, by decide +kernel, rfl, by decide +kernel, by decide +kernel⟩
theorem chL : chB GG lawN (defScope sLaw) lawB (defBody sLaw).tail = true := by decide +kernel
theorem sc__law_sign_but : FnScope f__law_sign_but.N f__law_sign_but.ps (defScope (top 16)) := ⟨rfl, rfl, rfl, by decide +kernel, rfl, by decide +kernel, by decide +kernel⟩
theorem ch__law_sign_but : chB GG f__law_sign_but.N (defScope (top 16)) f__law_sign_but.body (defBody (top 16)) = true := by decide +kernel
theorem sc__law_any_sign : FnScope f__law_any_sign.N f__law_any_sign.ps (defScope (top 17)) := ⟨rfl, rfl, rfl, by decide +kernel, rfl, by decide +kernel, by decide +kernel⟩
theorem ch__law_any_sign : chB GG f__law_any_sign.N (defScope (top 17)) f__law_any_sign.body (defBody (top 17)) = true := by decide +kernel
theorem sc__law_same : FnScope f__law_same.N f__law_same.ps (defScope (top 18)) := ⟨rfl, rfl, rfl, by decide +kernel, rfl, by decide +kernel, by decide +kernel⟩
theorem ch__law_same : chB GG f__law_same.N (defScope (top 18)) f__law_same.body (defBody (top 18)) = true := by decide +kernel
theorem sc__law_refusal : FnScope f__law_refusal.N f__law_refusal.ps (defScope (top 19)) := ⟨rfl, rfl, rfl, by decide +kernel, rfl, by decide +kernel, by decide +kernel⟩
theorem ch__law_refusal : chB GG f__law_refusal.N (defScope (top 19)) f__law_refusal.body (defBody (top 19)) = true := by decide +kernel
section
variable {P : Program} {w : World} {K : PySem.W.Frag} {mg : Str → Option Value} {base : Heap}
abbrev sInit : Stmt := inClass (top 2) 0
theorem scI : FnScope ["self", "number"] ["self", "number"] (defScope sInit) := ⟨rfl, rfl, rfl, by decide +kernel, rfl, by decide +kernel, by decide +kernel⟩
theorem txI : isInit "WishError" "number" (defBody sInit) = true := by decide +kernel
variable [CM]
def DefQ (K : PySem.W.Frag) (mg : Str → Option Value) (q : String × Fn) : Prop := if q.1 = "find_worth" then ∃ a fd st, DefFw K mg GG q.2 a fd st else ∃ a fd st, DefIn K mg GG q.2 a fd st
theorem ok_law {f : Addr} {fd : FuncData} {o : Addr} {od : FuncData} {n : Nat} (F : Fun K "law" "law" sLaw f fd) (gb : GB GG mg) (gx : GX P w K mg base GG) (hnd : ∀ f fn, GG.U f = some fn → DefQ K mg (f, fn))
    (GO : FnOk P w K mg base CX0 3 o od ["script"] (spOpen K)) (bO : Binds K od ["script"] []) (kO : PySem.W.keepIn K (.ref o) = true) (mO : mg "_law_open" = some (.ref o))
    (ht : ∃ a fd, mg "_law_take" = some (.ref a) ∧ PySem.W.keepIn K (.ref a) = true ∧ Binds K fd ["pen", "many"] [] ∧ FnOk P w K mg base CX0 3 a fd ["pen", "many"] spTake)
    (ha : ∃ a fd, mg "_law_anew" = some (.ref a) ∧ PySem.W.keepIn K (.ref a) = true ∧ Binds K fd ["pen"] [] ∧ FnOk P w K mg base CX0 3 a fd ["pen"] spAnew)
    (hlaw : evB (run U n) X0 lawB law0 (fun _ => False) (fun _ d _ => d = .bl true)) : FnOk P w K mg base CX0 (n + 4) f fd ["script"] (spLaw K) := by
  refine F.ok scL (fun vs H Q E h => ?_) (fun cdv A outer s H vs Q E hr h => ?_)
  · obtain ⟨a, ns, rfl, _⟩ := h
    rfl
  obtain ⟨a, ns, rfl, hS, h63, q⟩ := h
  have ih := all_ok gb gx rfl (fun f fn hf hU => by have z := hnd f fn hU; unfold DefQ at z; rw [if_neg hf] at z; exact z) (fun fn hU => by have z := hnd _ fn hU; unfold DefQ at z; rw [if_pos rfl] at z; exact z) ht ha n
  have GK : GOK ⟨GG, lawN, P, w, K, mg, base, A.deeper (envOfC "law" (defScope sLaw) s.heap.objs.size f cdv), n, fun _ _ _ _ => False⟩ :=
    gok_of _ gb gx scL.nd hr ht ha ih
  obtain ⟨t, h1, h2⟩ := sndB (sc := defScope sLaw) GK lawB (defBody sLaw).tail chL
  refine ⟨_, pss_cons (ps_set (i := 1) scL.nd rfl (by first | exact Or.inl rfl | exact Or.inr rfl) (pe_call (GO.mono (by omega : 3 ≤ n + 3)) hr rfl mO kO bO .nil pass0 (pa_cons (pv 0) pa_nil))) (h1 _ ⟨⟨rfl, rfl, rfl, rfl, rfl, rfl, rfl, rfl, rfl, L2.takes0⟩, rfl, fun _ _ h => h.elim, rfl, rfl, rfl⟩), ?_⟩
  refine seq_a ⟨_, rfl, a, ns, rfl, hS, h63, fun p c0 H' same pen => ?_⟩
  have S0 : Sim ⟨p, c0, fun _ => False, H'⟩ (fun _ => False) law0 ((L2.start lawN [.ref a]).set 1 (some (.ref p))) H' := {
    len := rfl
    slot := fun i s e => by
      rcases i with _ | _ | i
      · cases e; trivial
      · cases e; exact ⟨_, rfl, rfl⟩
      · have e' : (List.replicate (lawN.length - 2) Sl.no)[i]? = some s := e
        rw [List.getElem?_replicate] at e'
        split at e'
        · cases e'; trivial
        · cases e'
    sep := fun i j a d e hi hj _ _ => by
      rcases i with _ | _ | i
      · cases hi
      · cases hi
      · have e' : (List.replicate (lawN.length - 2) Sl.no)[i]? = some (.ow d) := hi
        rw [List.getElem?_replicate] at e'
        split at e' <;> cases e'
    frame := fun a o e _ => ⟨o, e, .refl o, .inl rfl⟩
    fr0 := fun a h => h
    fnew := fun a h => .inl h
    ftrk := fun a h => h.elim
    pen := pen
    npF := ⟨fun h => h, fun h => h⟩ }
  refine h2 ⟨p, c0, fun _ => False, H'⟩ (fun _ => False) law0 _ H' (fun _ => False) (fun _ d _ => d = .bl true) _ S0 hlaw (fun _ _ _ _ h _ _ _ => h.elim) fun fl d r' F' σ' H2 v hd st' S' _ res => ?_
  subst hd
  rcases res with ⟨_, res⟩ | ⟨z, _⟩
  case inr => cases (show false = true from z)
  cases fl with
  | false =>
    have hv : v = .bl true := res
    subst hv
    exact q H2
  | true =>
    rcases res with ⟨_, _, ho, _⟩ | ⟨_, _, e, _⟩
    · obtain ⟨_, e, _⟩ := ho.there
      cases e
    · cases e
def AllD (K : PySem.W.Frag) (mg : Str → Option Value) : List (String × Fn) → Prop
  | [] => True
  | q :: r => DefQ K mg q ∧ AllD K mg r
theorem AllD.look {K : PySem.W.Frag} {mg : Str → Option Value} : ∀ {l : List (String × Fn)}, AllD K mg l → ∀ f fn, l.lookup f = some fn → DefQ K mg (f, fn)
  | [], _, f, fn, h => by cases h
  | q :: r, h, f, fn, e => by
    rw [List.lookup_cons] at e
    split at e
    · rename_i hz
      cases e
      rw [eq_of_beq hz]
      exact h.1
    · exact AllD.look h.2 f fn e
end
theorem all_mk {l : PySem.W.OpenLaw} {w : World} {K : PySem.W.Frag} {h : Heap} {mg : Str → Option Value} {fa : Addr} (X : K.In h) (G : h.Ns mainGlobals mg) (hfa : mg "law" = some (.ref fa))
    (hlaw : evB (run U 60) X0 lawB law0 (fun _ => False) (fun _ d _ => d = .bl true))
    {f0 : Addr} {od0 an0 : Option Addr} {sl0 : Array (Option Value)} {oc0 kV0 dc0 pm0 cd0 ct0 : Value} (a0 : PySem.W.nsIn K mainGlobals "_law_spread" = some (some (.ref f0))) (l0 : K.lookup f0 = some ⟨oc0, od0, .func (PySem.W.fnOf "_law_spread" "_law_spread" (defArgs (top 12)) (defBody (top 12)) (defScope (top 12)) .none kV0 dc0 pm0 an0 cd0 ct0), sl0⟩) (c0 : PySem.W.codeIn K cd0 "_law_spread" = true) (k0 : PySem.W.keepIn K (.ref f0) = true)
    {f1 : Addr} {od1 an1 : Option Addr} {sl1 : Array (Option Value)} {oc1 kV1 dc1 pm1 cd1 ct1 : Value} (a1 : PySem.W.nsIn K mainGlobals "_law_open" = some (some (.ref f1))) (l1 : K.lookup f1 = some ⟨oc1, od1, .func (PySem.W.fnOf "_law_open" "_law_open" (defArgs (top 13)) (defBody (top 13)) (defScope (top 13)) .none kV1 dc1 pm1 an1 cd1 ct1), sl1⟩) (c1 : PySem.W.codeIn K cd1 "_law_open" = true) (k1 : PySem.W.keepIn K (.ref f1) = true)
    {f2 : Addr} {od2 an2 : Option Addr} {sl2 : Array (Option Value)} {oc2 kV2 dc2 pm2 cd2 ct2 : Value} (a2 : PySem.W.nsIn K mainGlobals "_law_anew" = some (some (.ref f2))) (l2 : K.lookup f2 = some ⟨oc2, od2, .func (PySem.W.fnOf "_law_anew" "_law_anew" (defArgs (top 14)) (defBody (top 14)) (defScope (top 14)) .none kV2 dc2 pm2 an2 cd2 ct2), sl2⟩) (c2 : PySem.W.codeIn K cd2 "_law_anew" = true) (k2 : PySem.W.keepIn K (.ref f2) = true)
    {f3 : Addr} {od3 an3 : Option Addr} {sl3 : Array (Option Value)} {oc3 kV3 dc3 pm3 cd3 ct3 : Value} (a3 : PySem.W.nsIn K mainGlobals "_law_take" = some (some (.ref f3))) (l3 : K.lookup f3 = some ⟨oc3, od3, .func (PySem.W.fnOf "_law_take" "_law_take" (defArgs (top 15)) (defBody (top 15)) (defScope (top 15)) .none kV3 dc3 pm3 an3 cd3 ct3), sl3⟩) (c3 : PySem.W.codeIn K cd3 "_law_take" = true) (k3 : PySem.W.keepIn K (.ref f3) = true)
    {f4 : Addr} {od4 an4 : Option Addr} {sl4 : Array (Option Value)} {oc4 kV4 dc4 pm4 cd4 ct4 : Value} (a4 : PySem.W.nsIn K mainGlobals "_law_sign_but" = some (some (.ref f4))) (l4 : K.lookup f4 = some ⟨oc4, od4, .func (PySem.W.fnOf "_law_sign_but" "_law_sign_but" (defArgs (top 16)) (defBody (top 16)) (defScope (top 16)) .none kV4 dc4 pm4 an4 cd4 ct4), sl4⟩) (c4 : PySem.W.codeIn K cd4 "_law_sign_but" = true) (k4 : PySem.W.keepIn K (.ref f4) = true)
    {f5 : Addr} {od5 an5 : Option Addr} {sl5 : Array (Option Value)} {oc5 kV5 dc5 pm5 cd5 ct5 : Value} (a5 : PySem.W.nsIn K mainGlobals "_law_any_sign" = some (some (.ref f5))) (l5 : K.lookup f5 = some ⟨oc5, od5, .func (PySem.W.fnOf "_law_any_sign" "_law_any_sign" (defArgs (top 17)) (defBody (top 17)) (defScope (top 17)) .none kV5 dc5 pm5 an5 cd5 ct5), sl5⟩) (c5 : PySem.W.codeIn K cd5 "_law_any_sign" = true) (k5 : PySem.W.keepIn K (.ref f5) = true)
    {f6 : Addr} {od6 an6 : Option Addr} {sl6 : Array (Option Value)} {oc6 kV6 dc6 pm6 cd6 ct6 : Value} (a6 : PySem.W.nsIn K mainGlobals "_law_same" = some (some (.ref f6))) (l6 : K.lookup f6 = some ⟨oc6, od6, .func (PySem.W.fnOf "_law_same" "_law_same" (defArgs (top 18)) (defBody (top 18)) (defScope (top 18)) .none kV6 dc6 pm6 an6 cd6 ct6), sl6⟩) (c6 : PySem.W.codeIn K cd6 "_law_same" = true) (k6 : PySem.W.keepIn K (.ref f6) = true)
    {f7 : Addr} {od7 an7 : Option Addr} {sl7 : Array (Option Value)} {oc7 kV7 dc7 pm7 cd7 ct7 : Value} (a7 : PySem.W.nsIn K mainGlobals "_law_refusal" = some (some (.ref f7))) (l7 : K.lookup f7 = some ⟨oc7, od7, .func (PySem.W.fnOf "_law_refusal" "_law_refusal" (defArgs (top 19)) (defBody (top 19)) (defScope (top 19)) .none kV7 dc7 pm7 an7 cd7 ct7), sl7⟩) (c7 : PySem.W.codeIn K cd7 "_law_refusal" = true) (k7 : PySem.W.keepIn K (.ref f7) = true)
    {f8 : Addr} {od8 an8 : Option Addr} {sl8 : Array (Option Value)} {oc8 kV8 dc8 pm8 cd8 ct8 : Value} (a8 : PySem.W.nsIn K mainGlobals "law" = some (some (.ref f8))) (l8 : K.lookup f8 = some ⟨oc8, od8, .func (PySem.W.fnOf "law" "law" (defArgs (top 20)) (defBody (top 20)) (defScope (top 20)) .none kV8 dc8 pm8 an8 cd8 ct8), sl8⟩) (c8 : PySem.W.codeIn K cd8 "law" = true) (k8 : PySem.W.keepIn K (.ref f8) = true)
    {C_WishError : Addr} (xa_WishError : PySem.W.nsIn K mainGlobals "WishError" = some (some (.ref C_WishError)))
    {C_NoWish : Addr} (xa_NoWish : PySem.W.nsIn K mainGlobals "NoWish" = some (some (.ref C_NoWish)))
    {C_NoStand : Addr} (xa_NoStand : PySem.W.nsIn K mainGlobals "NoStand" = some (some (.ref C_NoStand)))
    {C_NoName : Addr} (xa_NoName : PySem.W.nsIn K mainGlobals "NoName" = some (some (.ref C_NoName)))
    {C_NoWorth : Addr} (xa_NoWorth : PySem.W.nsIn K mainGlobals "NoWorth" = some (some (.ref C_NoWorth)))
    {C_TooMany : Addr} (xa_TooMany : PySem.W.nsIn K mainGlobals "TooMany" = some (some (.ref C_TooMany)))
    {C_Settled : Addr} (xa_Settled : PySem.W.nsIn K mainGlobals "Settled" = some (some (.ref C_Settled)))
    {C_Free : Addr} (xa_Free : PySem.W.nsIn K mainGlobals "Free" = some (some (.ref C_Free)))
    {C_NoText : Addr} (xa_NoText : PySem.W.nsIn K mainGlobals "NoText" = some (some (.ref C_NoText)))
    {C_NoLine : Addr} (xa_NoLine : PySem.W.nsIn K mainGlobals "NoLine" = some (some (.ref C_NoLine)))
    (xB : (([("WishError", C_WishError), ("NoWish", C_NoWish), ("NoStand", C_NoStand), ("NoName", C_NoName), ("NoWorth", C_NoWorth), ("TooMany", C_TooMany), ("Settled", C_Settled), ("Free", C_Free), ("NoText", C_NoText), ("NoLine", C_NoLine)] : List (Str × Addr)).all fun q => exfB K q.1 q.2 C_WishError) = true) (xK : kitB K [("WishError", C_WishError), ("NoWish", C_NoWish), ("NoStand", C_NoStand), ("NoName", C_NoName), ("NoWorth", C_NoWorth), ("TooMany", C_TooMany), ("Settled", C_Settled), ("Free", C_Free), ("NoText", C_NoText), ("NoLine", C_NoLine)] = true) (xv : PySem.W.nsIn K mainGlobals "ValueError" = some none)
    {xn xq : Str} {xN : Addr} {xbs xbm : List Value} {xsn : List Str} {xsub : List Value} {xab : Bool} {xcol : Option Bool} {xdd : Option Addr} {xk0 xk1 xk2 xk3 xk5 : Option Value} (xL : K.lookup C_NoWish = some (excClassObj xn xq C_NoWish xN xbs xbm true xsn xsub xab xcol xdd xk0 xk1 xk2 xk3 xk5 "ValueError.__new__")) (xM : PySem.HandSPX.refsVE xbm = true)
    (xs : PySem.W.findIn K (.ref C_NoWish) "__setattr__" = some (some (.builtin "object.__setattr__"))) (xe : PySem.W.subIn K (.ref C_NoWish) (.type "BaseException") = some true) (xt : PySem.W.typeIn K (.ref C_NoWish) = some (.type "type")) (xk : PySem.W.keepIn K (.ref C_NoWish) = true)
    {fI : Addr} (yi : PySem.W.findIn K (.ref C_NoWish) "__init__" = some (some (.ref fI))) (yt : PySem.W.typeIn K (.ref fI) = some (.type "function")) {yod yan : Option Addr} {ysl : Array (Option Value)} {yoc ykV ydc ypm ycd yct : Value}
    (yl : K.lookup fI = some ⟨yoc, yod, .func (PySem.W.fnOf "__init__" "NoWish.__init__" (defArgs sInit) (defBody sInit) (defScope sInit) .none ykV ydc ypm yan ycd yct), ysl⟩) (yc : PySem.W.codeIn K ycd "NoWish.__init__" = true) (yk : PySem.W.keepIn K (.ref fI) = true)
    (yr : PySem.W.readsIn K C_WishError (.type "type") = true) (yg : PySem.W.specialIn K (.ref C_WishError) "__getattribute__" = some (some (.builtin "type.__getattribute__"))) (yf : PySem.W.findCls K (.ref C_WishError) (.type "type") "__init__" = some (.val (.builtin "ValueError.__init__")))
    (z_len : PySem.W.nsIn K mainGlobals "len" = some none)
    (z_all : PySem.W.nsIn K mainGlobals "all" = some none)
    (z_any : PySem.W.nsIn K mainGlobals "any" = some none)
    (z_tuple : PySem.W.nsIn K mainGlobals "tuple" = some none)
    (z_list : PySem.W.nsIn K mainGlobals "list" = some none)
    (z_sorted : PySem.W.nsIn K mainGlobals "sorted" = some none)
    (z_sum : PySem.W.nsIn K mainGlobals "sum" = some none)
    (z_max : PySem.W.nsIn K mainGlobals "max" = some none)
    (z_min : PySem.W.nsIn K mainGlobals "min" = some none)
    (z_isinstance : PySem.W.nsIn K mainGlobals "isinstance" = some none)
    (z_range : PySem.W.nsIn K mainGlobals "range" = some none)
    (z_zip : PySem.W.nsIn K mainGlobals "zip" = some none)
    (z_enumerate : PySem.W.nsIn K mainGlobals "enumerate" = some none)
    (z_set : PySem.W.nsIn K mainGlobals "set" = some none)
    (z_abs : PySem.W.nsIn K mainGlobals "abs" = some none)
    (z_int : PySem.W.nsIn K mainGlobals "int" = some none)
    (z_bool : PySem.W.nsIn K mainGlobals "bool" = some none)
    (z_str : PySem.W.nsIn K mainGlobals "str" = some none)
    (z_dict : PySem.W.nsIn K mainGlobals "dict" = some none) :
    ∃ fd : FuncData, (∀ (s : Shared) (v : Value), BindsTo s fd ⟨[v], []⟩ [("script", v)]) ∧ ∀ base : Heap, K.In base → base.Ns mainGlobals mg → FnOk l.prog w K mg base CX0 64 fa fd ["script"] (spLaw K) := by
  have e := hfa.symm.trans (PySem.W.mg_of X G a8)
  cases e
  letI : CM := ⟨fun x => (([("WishError", C_WishError), ("NoWish", C_NoWish), ("NoStand", C_NoStand), ("NoName", C_NoName), ("NoWorth", C_NoWorth), ("TooMany", C_TooMany), ("Settled", C_Settled), ("Free", C_Free), ("NoText", C_NoText), ("NoLine", C_NoLine)] : List (Str × Addr)).lookup x).map Value.ref⟩
  have F0 := fun_mk (st := top 12) l0 c0 k0
  have b0 := F0.binds (ps := ["cell", "at"]) fun _ _ _ _ _ _ us hl => match us, hl with | [_, _], _ => rfl
  have F1 := fun_mk (st := top 13) l1 c1 k1
  have b1 := F1.binds (ps := ["script"]) fun _ _ _ _ _ _ us hl => match us, hl with | [_], _ => rfl
  have F2 := fun_mk (st := top 14) l2 c2 k2
  have b2 := F2.binds (ps := ["pen"]) fun _ _ _ _ _ _ us hl => match us, hl with | [_], _ => rfl
  have F3 := fun_mk (st := top 15) l3 c3 k3
  have b3 := F3.binds (ps := ["pen", "many"]) fun _ _ _ _ _ _ us hl => match us, hl with | [_, _], _ => rfl
  have F4 := fun_mk (st := top 16) l4 c4 k4
  have b4 := F4.binds (ps := ["pen", "others"]) fun _ _ _ _ _ _ us hl => match us, hl with | [_, _], _ => rfl
  have F5 := fun_mk (st := top 17) l5 c5 k5
  have b5 := F5.binds (ps := ["pen"]) fun _ _ _ _ _ _ us hl => match us, hl with | [_], _ => rfl
  have F6 := fun_mk (st := top 18) l6 c6 k6
  have b6 := F6.binds (ps := ["found", "due"]) fun _ _ _ _ _ _ us hl => match us, hl with | [_, _], _ => rfl
  have F7 := fun_mk (st := top 19) l7 c7 k7
  have b7 := F7.binds (ps := ["caught"]) fun _ _ _ _ _ _ us hl => match us, hl with | [_], _ => rfl
  have F8 := fun_mk (st := top 20) l8 c8 k8
  have gb : GB GG mg := ⟨PySem.W.mg_none_of X G z_len, PySem.W.mg_none_of X G z_all, PySem.W.mg_none_of X G z_any, PySem.W.mg_none_of X G z_tuple, PySem.W.mg_none_of X G z_list, PySem.W.mg_none_of X G z_sorted, PySem.W.mg_none_of X G z_sum, PySem.W.mg_none_of X G z_max, PySem.W.mg_none_of X G z_min, PySem.W.mg_none_of X G z_isinstance, PySem.W.mg_none_of X G z_range, PySem.W.mg_none_of X G z_zip, PySem.W.mg_none_of X G z_enumerate, PySem.W.mg_none_of X G z_set, PySem.W.mg_none_of X G z_abs, fun t => by
    cases t
    · exact PySem.W.mg_none_of X G z_int
    · exact PySem.W.mg_none_of X G z_bool
    · exact PySem.W.mg_none_of X G z_tuple
    · exact PySem.W.mg_none_of X G z_list
    · exact PySem.W.mg_none_of X G z_str
    · exact PySem.W.mg_none_of X G z_dict, fun q hq => by
    simp only [GG, List.mem_cons, List.not_mem_nil, or_false] at hq
    ⟩
  have all : AllD K mg UL := ⟨by unfold DefQ; rw [if_neg (by decide)]; exact ⟨f4, _, _, ⟨F4, b4, PySem.W.mg_of X G a4, sc__law_sign_but, ch__law_sign_but⟩⟩, by unfold DefQ; rw [if_neg (by decide)]; exact ⟨f5, _, _, ⟨F5, b5, PySem.W.mg_of X G a5, sc__law_any_sign, ch__law_any_sign⟩⟩, by unfold DefQ; rw [if_neg (by decide)]; exact ⟨f6, _, _, ⟨F6, b6, PySem.W.mg_of X G a6, sc__law_same, ch__law_same⟩⟩, by unfold DefQ; rw [if_neg (by decide)]; exact ⟨f7, _, _, ⟨F7, b7, PySem.W.mg_of X G a7, sc__law_refusal, ch__law_refusal⟩⟩, trivial⟩
  have Fi := fun_mk (st := sInit) yl yc yk
  have bi := Fi.binds (ps := ["self", "number"]) fun _ _ _ _ _ _ us hl => match us, hl with | [_, _], _ => rfl
  refine ⟨PySem.W.fnOf "law" "law" (defArgs sLaw) (defBody sLaw) (defScope sLaw) .none kV8 dc8 pm8 an8 cd8 ct8, fun s v => .of_eq rfl, fun base _ _ => ?_⟩
  have gx : GX l.prog w K mg base GG := gx_of (l := [("WishError", C_WishError), ("NoWish", C_NoWish), ("NoStand", C_NoStand), ("NoName", C_NoName), ("NoWorth", C_NoWorth), ("TooMany", C_TooMany), ("Settled", C_Settled), ("Free", C_Free), ("NoText", C_NoText), ("NoLine", C_NoLine)]) (Cw := C_WishError) (fun q hq => by
    simp only [List.mem_cons, List.not_mem_nil, or_false] at hq
    rcases hq with rfl | rfl | rfl | rfl | rfl | rfl | rfl | rfl | rfl | rfl
    · exact PySem.W.mg_of X G xa_WishError
    · exact PySem.W.mg_of X G xa_NoWish
    · exact PySem.W.mg_of X G xa_NoStand
    · exact PySem.W.mg_of X G xa_NoName
    · exact PySem.W.mg_of X G xa_NoWorth
    · exact PySem.W.mg_of X G xa_TooMany
    · exact PySem.W.mg_of X G xa_Settled
    · exact PySem.W.mg_of X G xa_Free
    · exact PySem.W.mg_of X G xa_NoText
    · exact PySem.W.mg_of X G xa_NoLine) rfl (fun _ => rfl) (PySem.W.mg_of X G xa_WishError) xB xK (PySem.W.mg_none_of X G xv) (fun C hC => by
    have hC : some C_NoWish = some C := hC
    cases hC
    exact ⟨fI, _, ⟨⟨_, _, _, _, _, _, _, _, _, _, _, _, _, _, _, xL, xM⟩, xs, xe, xt, xk⟩, yi, yt, nw_ok Fi scI txI (PySem.W.mg_of X G xa_WishError) yr yg yf (by decide +kernel) (by decide +kernel) (by decide +kernel) (by decide +kernel) (.inl (by decide +kernel)) (.inl (by decide +kernel)), bi⟩)
  exact ok_law (P := l.prog) (w := w) (base := base) (n := 60) F8 gb gx all.look ((ok_open F1 (PySem.W.mg_none_of X G z_list) (PySem.W.mg_none_of X G z_enumerate) (n := 0)).mono (by decide)) b1 k1 (PySem.W.mg_of X G a1)
    ⟨f3, _, PySem.W.mg_of X G a3, k3, b3, (ok_take (n := 1) F3 (ok_spread (n := 0) F0) b0 k0 (PySem.W.mg_of X G a0) (PySem.W.mg_none_of X G z_len)).mono (by decide)⟩
    ⟨f2, _, PySem.W.mg_of X G a2, k2, b2, (ok_anew (n := 0) F2).mono (by decide)⟩ hlaw
theorem walk {l : PySem.W.OpenLaw} {q : Program} {loose : List Str} {XP : (Str → Option Value) → Heap → Prop} {YP : World → Heap → Prop} {d : DefRec} {K : Params → PySem.W.Frag} (hn : l.most = some 63) (hdf : d.params.defaults = [])
    (hY : ∀ (w : World) (h : Heap), YP w h → (K w.params).In h)
    (F : ∀ (w : World) (mg : Str → Option Value) (fa : Addr) (h : Heap), (K w.params).In h → h.Ns mainGlobals mg → mg d.name = some (.ref fa) →
      ∃ fd : FuncData, (∀ (s : Shared) (u : Value), BindsTo s fd ⟨[u], []⟩ [("script", u)]) ∧ ∀ base : Heap, (K w.params).In base → base.Ns mainGlobals mg → FnOk l.prog w (K w.params) mg base CX0 64 fa fd ["script"] (spLaw (K w.params))) :
    PySem.W.WalkO q loose XP YP l.row.toRowW d [] (fun f vs => PySem.call f vs) :=
  L2.walk_of (n := 63) (k := 64) (x := "script") (CX := fun _ => CX0) (sp := fun w => spLaw (K w.params)) hn (by decide) hdf ⟨rfl, by decide, by decide⟩ hY F (fun _ _ a ns hl _ hS => ⟨a, ns, rfl, hS, hl, fun _ => rfl⟩) fun _ _ _ _ _ z => z
end Fin
open PySem PySem.W PyProof.Rows
set_option maxRecDepth 100000 in
set_option maxHeartbeats 0 in
theorem PySem.Challenge.cw_wishstrike_k08_refusals_apart_holds : PySem.Challenge.rw_wishstrike_k08_refusals_apart.Holds := by
  w_on; o_law; k_head; (case hw => w_witness2)
  k_fill
  refine Fin.walk (l := PySem.Challenge.rw_wishstrike_k08_refusals_apart) rfl rfl (fun w h Y => PySem.W.kIn_of Y) ?F
  case F =>
    intro w mg fa h KX G hmg
    refine' Fin.all_mk KX G hmg Mth.law_true ?a0 ?l0 ?c0 ?k0 ?a1 ?l1 ?c1 ?k1 ?a2 ?l2 ?c2 ?k2 ?a3 ?l3 ?c3 ?k3 ?a4 ?l4 ?c4 ?k4 ?a5 ?l5 ?c5 ?k5 ?a6 ?l6 ?c6 ?k6 ?a7 ?l7 ?c7 ?k7 ?a8 ?l8 ?c8 ?k8 ?xa_WishError ?xa_NoWish ?xa_NoStand ?xa_NoName ?xa_NoWorth ?xa_TooMany ?xa_Settled ?xa_Free ?xa_NoText ?xa_NoLine ?xB ?xK ?xv ?xL ?xM ?xs ?xe ?xt ?xk ?yi ?yt ?yl ?yc ?yk ?yr ?yg ?yf ?z_len ?z_all ?z_any ?z_tuple ?z_list ?z_sorted ?z_sum ?z_max ?z_min ?z_isinstance ?z_range ?z_zip ?z_enumerate ?z_set ?z_abs ?z_int ?z_bool ?z_str ?z_dict
    (case a0 => k_is); (case l0 => k_is); (case c0 => k_is); (case k0 => k_is)
    (case a1 => k_is); (case l1 => k_is); (case c1 => k_is); (case k1 => k_is)
    (case a2 => k_is); (case l2 => k_is); (case c2 => k_is); (case k2 => k_is)
    (case a3 => k_is); (case l3 => k_is); (case c3 => k_is); (case k3 => k_is)
    (case a4 => k_is); (case l4 => k_is); (case c4 => k_is); (case k4 => k_is)
    (case a5 => k_is); (case l5 => k_is); (case c5 => k_is); (case k5 => k_is)
    (case a6 => k_is); (case l6 => k_is); (case c6 => k_is); (case k6 => k_is)
    (case a7 => k_is); (case l7 => k_is); (case c7 => k_is); (case k7 => k_is)
    (case a8 => k_is); (case l8 => k_is); (case c8 => k_is); (case k8 => k_is)
    (case xa_WishError => k_is)
    (case xa_NoWish => k_is)
    (case xa_NoStand => k_is)
    (case xa_NoName => k_is)
    (case xa_NoWorth => k_is)
    (case xa_TooMany => k_is)
    (case xa_Settled => k_is)
    (case xa_Free => k_is)
    (case xa_NoText => k_is)
    (case xa_NoLine => k_is)
    (case xB => kernel_rfl)
    (case xK => kernel_rfl)
    (case xv => k_is)
    (case xL => k_is)
    (case xM => kernel_rfl)
    (case xs => k_is)
    (case xe => k_is)
    (case xt => k_is)
    (case xk => k_is)
    (case yi => k_is)
    (case yt => k_is)
    (case yl => k_is)
    (case yc => k_is)
    (case yk => k_is)
    (case yr => k_is)
    (case yg => k_is)
    (case yf => k_is)
    (case z_len => k_is)
    (case z_all => k_is)
    (case z_any => k_is)
    (case z_tuple => k_is)
    (case z_list => k_is)
    (case z_sorted => k_is)
    (case z_sum => k_is)
    (case z_max => k_is)
    (case z_min => k_is)
    (case z_isinstance => k_is)
    (case z_range => k_is)
    (case z_zip => k_is)
    (case z_enumerate => k_is)
    (case z_set => k_is)
    (case z_abs => k_is)
    (case z_int => k_is)
    (case z_bool => k_is)
    (case z_str => k_is)
    (case z_dict => k_is)


