import PyProof.Rows.All
import Wide.All
import OpenK.AllK
import Wide.FinOn
import HandS.Rev
import HandS.RevTup
import PyProof.ListNew
import KE.KRevIter
import PyProof.EqAt
import PyProof.EqKinds
import PyProof.TupleCall
import PyProof.GenCompD
import KE.KNest
import HandS.ForMost
import HandS.Exc
import HandS.AnyAll
import HandS.GenOver
import HandS.GenCall
import HandS.GenList
import HandS.TupAny
import HandS.Strs
import HandS.Deep
import HandS.Base
import HandS.Call
import HandS.List
import HandS.Dict
import KE.KDictDisplayH
import HandS.IsInst
import HandS.Lambda
import HandS.Flow
import HandS.Style
import HandS.Defaults
import HandS.Iter
import HandS.Comp
import HandS.HeadHook1
import HandS.HeadHook2
import HandS.HeadHook3
import HandS.HeadHook4
import HandS.TupSets
import KE.SortKeyHeap
import KE.SortData
import KE.KLam
import PySem.Challenge.RW_tokenworks_k15_whole_nets_turned_back
import KE.KNestM
import KE.KStateDown
import Lean
import HandS.Head0
import HandS.Head1
import HandS.Head2
import HandS.HeadEnd
import HandS.HeadWalk
set_option Elab.async false
set_option linter.all false
section
/-! plain data, slots, and the functions that a body is turned into: no program in sight -/
namespace Vl
inductive D where
  | non | bl (b : Bool) | int (i : Int) | str (s : List Nat) | tup (ds : List D) | lst (ds : List D) | dic (kvs : List (D × D)) | ins (c : Nat) (ds : List D)

mutual
def D.imm : D → Bool
  | .non => true | .bl _ => true | .int _ => true | .str _ => true
  | .tup ds => D.immL ds
  | .lst _ => false | .dic _ => false | .ins _ _ => false
def D.immL : List D → Bool
  | [] => true
  | d :: ds => D.imm d && D.immL ds
end
mutual
/-- plain data that == may compare: no dict, no instance, short texts, not deep -/
def D.okd : Nat → D → Bool
  | _, .non => true | _, .bl _ => true | _, .int _ => true
  | _, .str s => s.all fun c => decide (c < 1114112)
  | 0, .tup _ => false | 0, .lst _ => false
  | n + 1, .tup ds => D.okdL n ds
  | n + 1, .lst ds => D.okdL n ds
  | _, .dic _ => false | _, .ins _ _ => false
def D.okdL : Nat → List D → Bool
  | _, [] => true
  | n, d :: ds => D.okd n d && D.okdL n ds
end
mutual
def D.eqv : D → D → Bool
  | .non, .non => true
  | .bl a, .bl b => a == b
  | .bl a, .int j => (if a then 1 else 0) == j
  | .int i, .bl b => i == (if b then 1 else 0)
  | .int i, .int j => i == j
  | .str x, .str y => x == y
  | .lst xs, .lst ys => D.eqvL xs ys
  | .tup xs, .tup ys => D.eqvL xs ys
  | _, _ => false
def D.eqvL : List D → List D → Bool
  | [], [] => true
  | x :: xs, y :: ys => D.eqv x y && D.eqvL xs ys
  | [], _ :: _ => false
  | _ :: _, [] => false
end

/-- a slot: what it holds is shared (never changed from now on) or its own (a list or dict that only this name holds) -/
inductive S where
  | sh (d : D) | ow (d : D)
abbrev En := List (Option S)
inductive Out where
  | nx (ρ : En) | rt (d : D) | bk (ρ : En) | ct (ρ : En)
abbrev FE := En → Option D
abbrev FA := En → Option (List D)
abbrev FT := En → Option Bool
abbrev FS := En → Option Out
/-- what is walked -/
abbrev FW := En → Option (List D)
/-- a target -/
abbrev FG := D → En → Option En

/-! ### expressions -/
def eVar (i : Nat) : FE := fun ρ => match ρ[i]? with
  | some (some (.sh d)) => some d
  | some (some (.ow d)) => some d
  | _ => none
def eSh (i : Nat) : FE := fun ρ => match ρ[i]? with
  | some (some (.sh d)) => some d
  | _ => none
def eC (d : D) : FE := fun _ => some d
def e1 (h : D → Option D) (f : FE) : FE := fun ρ => (f ρ).bind h
def e2 (h : D → D → Option D) (f g : FE) : FE := fun ρ => (f ρ).bind fun a => (g ρ).bind fun b => h a b
def eImm (f : FE) : FE := e1 (fun d => if d.imm then some d else none) f
def aNil : FA := fun _ => some []
def aCons (f : FE) (g : FA) : FA := fun ρ => (f ρ).bind fun d => (g ρ).bind fun ds => some (d :: ds)
def eTup (f : FA) : FE := fun ρ => (f ρ).bind fun ds => if ds.length ≤ 1000 then some (.tup ds) else none
def eLst (f : FA) : FE := fun ρ => (f ρ).bind fun ds => if ds.length ≤ 1000 then some (.lst ds) else none
def eCall (g : List D → Option D) (f : FA) : FE := fun ρ => (f ρ).bind g
def eIf (t : FT) (f g : FE) : FE := fun ρ => (t ρ).bind fun b => if b then f ρ else g ρ
def eAnd (f g : FE) : FE := fun ρ => (f ρ).bind fun d => match d with
  | .bl true => g ρ
  | .bl false => some (.bl false)
  | _ => none
def eOr (f g : FE) : FE := fun ρ => (f ρ).bind fun d => match d with
  | .bl false => g ρ
  | .bl true => some (.bl true)
  | _ => none
def D.not : D → Option D
  | .bl b => some (.bl (!b))
  | _ => none

/-! ### operations on data -/
/-- a list or dict may grow up to here -/
def room (n : Nat) : Bool := decide (n < 100000)
def D.neg : D → Option D
  | .int i => some (.int (-i))
  | _ => none
def D.add : D → D → Option D
  | .int i, .int j => some (.int (i + j))
  | .lst xs, .lst ys => if room (xs.length + ys.length) then some (.lst (xs ++ ys)) else none
  | .tup xs, .tup ys => if room (xs.length + ys.length) then some (.tup (xs ++ ys)) else none
  | .str x, .str y => if room (x.length + y.length) then some (.str (x ++ y)) else none
  | _, _ => none
def D.sub : D → D → Option D
  | .int i, .int j => some (.int (i - j))
  | _, _ => none
/-- one factor within 2^64 -/
def D.mul : D → D → Option D
  | .int i, .int j => if (-(2 ^ 64) < i ∧ i < 2 ^ 64) ∨ (-(2 ^ 64) < j ∧ j < 2 ^ 64) then some (.int (i * j)) else none
  | _, _ => none
def D.fdiv : D → D → Option D
  | .int i, .int j => if 0 < j ∧ j < 1073741824 then some (.int (i / j)) else none
  | _, _ => none
def D.mod : D → D → Option D
  | .int i, .int j => if 0 < j then some (.int (i % j)) else none
  | _, _ => none
def D.pow : D → D → Option D
  | .int i, .int j => if 0 ≤ j ∧ j ≤ 1000000 ∧ i.natAbs < 2 ^ 64 then some (.int (i ^ j.toNat)) else none
  | _, _ => none
def D.lt : D → D → Option D
  | .int i, .int j => some (.bl (decide (i < j)))
  | _, _ => none
def D.le : D → D → Option D
  | .int i, .int j => some (.bl (decide (i ≤ j)))
  | _, _ => none
def D.gt : D → D → Option D
  | .int i, .int j => some (.bl (decide (j < i)))
  | _, _ => none
def D.ge : D → D → Option D
  | .int i, .int j => some (.bl (decide (j ≤ i)))
  | _, _ => none
def D.isScal : D → D → Bool
  | .int _, .int _ => true
  | .bl _, .bl _ => true
  | .str _, .str _ => true
  | _, _ => false
/-- == -/
def D.eq (a b : D) : Option D := if D.isScal a b then some (.bl (D.eqv a b)) else if D.okd 60 a && D.okd 60 b then some (.bl (D.eqv a b)) else none
def D.ne (a b : D) : Option D := if D.isScal a b then some (.bl (!D.eqv a b)) else if D.okd 60 a && D.okd 60 b then some (.bl (!D.eqv a b)) else none
def D.isNon : D → Option D
  | .non => some (.bl true)
  | _ => some (.bl false)
def D.isntNon : D → Option D
  | .non => some (.bl false)
  | _ => some (.bl true)
def ixN (n : Nat) (i : Int) : Option Nat := if 0 ≤ i then (if i < (n : Int) then some i.toNat else none) else if -(n : Int) ≤ i then some (i + (n : Int)).toNat else none
def D.ix : D → D → Option D
  | .tup xs, .int i => (ixN xs.length i).bind fun k => xs[k]?
  | .lst xs, .int i => (ixN xs.length i).bind fun k => xs[k]?
  | .str s, .int i => if s.length ≤ 1000 then (ixN s.length i).bind fun k => s[k]?.map fun c => .str [c] else none
  | _, _ => none
def D.len : D → Option D
  | .tup xs => some (.int xs.length)
  | .lst xs => some (.int xs.length)
  | .str s => if s.length ≤ 1000 then some (.int s.length) else none
  | _ => none
def D.flat : D → Bool
  | .non => true | .bl _ => true | .int _ => true | .str _ => true
  | _ => false
/-- x in a list or tuple -/
def D.isIn (neg : Bool) : D → D → Option D
  | a, .lst xs => if D.okd 60 a && D.okd 60 (.lst xs) then some (.bl (if neg then !(xs.any fun z => D.eqv z a) else xs.any fun z => D.eqv z a)) else none
  | a, .tup xs => if D.flat a && xs.all D.flat then some (.bl (if neg then !(xs.any fun z => D.eqv z a) else xs.any fun z => D.eqv z a)) else none
  | _, _ => none
/-- one sign in a text -/
def D.isSign (neg : Bool) : D → D → Option D
  | .str [c], .str z => some (.bl (if neg then !(decide (c ∈ z)) else decide (c ∈ z)))
  | _, _ => none
/-- x in a dict, its item -/
def look (kvs : List (D × D)) (k : D) : Option D := (kvs.find? fun p => D.eqv p.1 k).map (·.2)
/-- the keys that are served: tuples of getI -/
def D.isInt : D → Bool
  | .int _ => true
  | _ => false
def D.okKey : D → Bool
  | .tup ds => ds.all D.isInt
  | _ => false
def D.inDic (neg : Bool) : D → D → Option D
  | k, .dic kvs => if k.okKey then some (.bl (if neg then !(look kvs k).isSome else (look kvs k).isSome)) else none
  | _, _ => none
def D.getDic : D → D → Option D
  | .dic kvs, k => if k.okKey then look kvs k else none
  | _, _ => none
def put (kvs : List (D × D)) (k v : D) : List (D × D) := if (look kvs k).isSome then kvs.map fun p => if D.eqv p.1 k then (p.1, v) else p else kvs ++ [(k, v)]
/-- a list's, a tuple's first place of x -/
def D.indexL : D → D → Option D
  | .lst xs, a => if D.okd 60 a && D.okd 60 (.lst xs) then (xs.findIdx? fun z => D.eqv z a).map fun (k : Nat) => D.int (k : Int) else none
  | _, _ => none
def D.indexT : D → D → Option D
  | .tup xs, a => if D.okd 60 a && D.okd 60 (.tup xs) then (xs.findIdx? fun z => D.eqv z a).map fun (k : Nat) => D.int (k : Int) else none
  | _, _ => none
def D.toTup : D → Option D
  | .lst xs => some (.tup xs)
  | .tup xs => some (.tup xs)
  | _ => none
def D.toLst : D → Option D
  | .lst xs => some (.lst xs)
  | .tup xs => some (.lst xs)
  | _ => none
/-- int(..) of an int or a bool -/
def D.toInt : D → Option D
  | .int i => some (.int i)
  | .bl b => some (.int (if b then 1 else 0))
  | _ => none
def getI : List D → Option (List Int)
  | [] => some []
  | .int i :: r => (getI r).map (i :: ·)
  | _ :: _ => none
def D.sum : D → Option D
  | .lst xs => (getI xs).map fun ns => .int ns.sum
  | _ => none
def D.revTup : D → Option D
  | .lst xs => some (.tup xs.reverse)
  | _ => none
def D.revLst : D → Option D
  | .tup xs => some (.lst xs.reverse)
  | _ => none
/-- tuples of ints in their order; shorter ones first -/
def leL : List Int → List Int → Bool
  | [], _ => true
  | _ :: _, [] => false
  | a :: as, b :: bs => decide (a < b) || (decide (a = b) && leL as bs)
def leK (a b : List Int) : Bool := decide (a.length < b.length) || (decide (a.length = b.length) && leL a b)
def keyI : D → Option (List Int)
  | .tup ds => getI ds
  | _ => none
def keysI : List D → Option (List (List Int))
  | [] => some []
  | d :: ds => (keyI d).bind fun k => (keysI ds).bind fun ks => some (k :: ks)
def tupI (k : List Int) : D := .tup (k.map .int)
/-- few tuples of one length, of natural numbers -/
def sOk (ks : List (List Int)) : Bool := decide (ks.length < 64) && ks.all fun k => decide (1 ≤ k.length) && decide (k.length = (ks.headD [0]).length) && k.all fun z => decide (0 ≤ z)
def D.sortT : D → Option D
  | .lst ds => (keysI ds).bind fun ks => if sOk ks then some (.lst ((ks.mergeSort leL).map tupI)) else none
  | _ => none
/-- few tuples of natural numbers -/
def kOk (ks : List (List Int)) : Bool := decide (ks.length < 64) && ks.all fun k => decide (k.length < 64) && k.all fun z => decide (0 ≤ z)
def D.sortK : D → Option D
  | .lst ds => (keysI ds).bind fun ks => if kOk ks then some (.lst ((ks.mergeSort leK).map tupI)) else none
  | _ => none
/-- [:n] of a tuple, 0 ≤ n -/
def D.takeTo : D → D → Option D
  | .tup xs, .int n => if 0 ≤ n then some (.tup (xs.take n.toNat)) else none
  | _, _ => none
/-- isinstance(x, T), the answer as data tells it -/
def isT (T : String) : D → Option D
  | .tup _ => if T = "tuple" then some (.bl true) else none
  | .str _ => if T = "str" then some (.bl true) else none
  | .int _ => if T = "int" then some (.bl true) else none
  | _ => none
/-- x is not True, x is not False, x an int -/
def D.isntB (_ : Bool) : D → Option D
  | .int _ => some (.bl true)
  | _ => none
/-- a field -/
def D.fld (c j : Nat) : D → Option D
  | .ins c' ds => if c' = c then ds[j]? else none
  | _ => none

/-- a[k] -/
def D.get : D → D → Option D
  | .dic kvs, k => D.getDic (.dic kvs) k
  | .tup xs, k => D.ix (.tup xs) k
  | .lst xs, k => D.ix (.lst xs) k
  | .str s, k => D.ix (.str s) k
  | _, _ => none
/-- a in b -/
def D.has (neg : Bool) : D → D → Option D
  | k, .dic kvs => D.inDic neg k (.dic kvs)
  | a, .str s => D.isSign neg a (.str s)
  | a, .lst xs => D.isIn neg a (.lst xs)
  | a, .tup xs => D.isIn neg a (.tup xs)
  | _, _ => none
def D.index : D → D → Option D
  | .lst xs, a => D.indexL (.lst xs) a
  | .tup xs, a => D.indexT (.tup xs) a
  | _, _ => none
/-- by one, by two arguments -/
def u1 (h : D → Option D) : List D → Option D
  | [d] => h d
  | _ => none
/-! ### tests -/
def tE (f : FE) : FT := fun ρ => (f ρ).bind fun d => match d with
  | .bl b => some b
  | _ => none
def tAnd (s t : FT) : FT := fun ρ => (s ρ).bind fun b => if b then t ρ else some false
def tOr (s t : FT) : FT := fun ρ => (s ρ).bind fun b => if b then some true else t ρ
def t2 (h : D → D → Option D) (f g : FE) : FT := tE (e2 h f g)
def tNot (t : FT) : FT := fun ρ => (t ρ).bind fun b => some (!b)

/-! ### what is walked, targets -/
def wSeq (f : FE) : FW := fun ρ => (f ρ).bind fun d => match d with
  | .lst xs => some xs
  | .tup xs => some xs
  | .str s => if s.length ≤ 1000 then some (s.map fun c => .str [c]) else none
  | _ => none
/-- what a name holds is walked -/
def wVar (i : Nat) : FW := fun ρ => match ρ[i]? with
  | some (some (.sh (.lst xs))) => some xs
  | some (some (.sh (.tup xs))) => some xs
  | some (some (.ow (.lst xs))) => some xs
  | _ => none
def wStr (f : FE) : FW := fun ρ => (f ρ).bind fun d => match d with
  | .str s => if s.length ≤ 1000 then some (s.map fun c => .str [c]) else none
  | _ => none
def wRange (f : FE) : FW := fun ρ => (f ρ).bind fun d => match d with
  | .int n => if n < 100000 ∧ -100000 < n then some ((List.range n.toNat).map fun (k : Nat) => D.int (k : Int)) else none
  | _ => none
def wRange2 (f g : FE) : FW := fun ρ => (f ρ).bind fun a => (g ρ).bind fun b => match a, b with
  | .int m, .int n => if n < 100000 ∧ -100000 < n ∧ m < 100000 ∧ -100000 < m then some ((List.range (n - m).toNat).map fun (k : Nat) => D.int (m + (k : Int))) else none
  | _, _ => none
def gN (i : Nat) : FG := fun d ρ => some (ρ.set i (some (.sh d)))
def gAll : List FG → List D → En → Option En
  | [], [], ρ => some ρ
  | g :: gs, d :: ds, ρ => (g d ρ).bind fun ρ' => gAll gs ds ρ'
  | _, _, _ => none
def gT (gs : List FG) : FG := fun d ρ => match d with
  | .tup ds => if ds.length = gs.length then gAll gs ds ρ else none
  | _ => none
def wipeE (ρ : En) : List Nat → En
  | [] => ρ
  | v :: vs => (wipeE ρ vs).set v none
/-- a comprehension -/
def lcM (g : FG) (t : FT) (f : FE) (ρ : En) : List D → Option (List D)
  | [] => some []
  | x :: xs => (g x ρ).bind fun ρ1 => (t ρ1).bind fun b => if b then (f ρ1).bind fun d => (lcM g t f ρ xs).bind fun r => some (d :: r) else lcM g t f ρ xs
def tY : FT := fun _ => some true
def eLc (w : FW) (g : FG) (t : FT) (f : FE) (vs : List Nat) : FE := fun ρ => (w ρ).bind fun xs => (lcM g t f (wipeE ρ vs) xs).bind fun r => some (.lst r)
/-- any (al = false), all (al = true) of a generator expression -/
def gxM (al : Bool) (g : FG) (f : FE) (ρ : En) : List D → Option Bool
  | [] => some al
  | x :: xs => (g x ρ).bind fun ρ1 => (f ρ1).bind fun d => match d with
    | .bl b => if b = al then gxM al g f ρ xs else some b
    | _ => none
def eDic1 (f g : FE) : FE := fun ρ => (f ρ).bind fun a => (g ρ).bind fun b => if a.okKey then some (.dic [(a, b)]) else none
def eGx (al : Bool) (w : FW) (g : FG) (f : FE) (vs : List Nat) : FE := fun ρ => (w ρ).bind fun xs => (gxM al g f (wipeE ρ vs) xs).bind fun b => some (.bl b)

/-! ### statements -/
def sNext : FS := fun ρ => some (.nx ρ)
def sSeq (a b : FS) : FS := fun ρ => (a ρ).bind fun o => match o with
  | .nx ρ' => b ρ'
  | o => some o
def sSet (i : Nat) (f : FE) : FS := fun ρ => (f ρ).bind fun d => some (.nx (ρ.set i (some (.sh d))))
/-- x = a new list or dict that will be changed -/
def sOwn (i : Nat) (f : FE) : FS := fun ρ => (f ρ).bind fun d => some (.nx (ρ.set i (some (.ow d))))
def sAsg (g : FG) (f : FE) : FS := fun ρ => (f ρ).bind fun d => (g d ρ).bind fun ρ' => some (.nx ρ')
def sPar (i j : Nat) (f g : FE) : FS := fun ρ => (f ρ).bind fun a => (g ρ).bind fun b => some (.nx ((ρ.set i (some (.sh a))).set j (some (.sh b))))
def sAug (i : Nat) (f : FE) : FS := fun ρ => (eSh i ρ).bind fun a => (f ρ).bind fun b => match a, b with
  | .int x, .int y => some (.nx (ρ.set i (some (.sh (.int (x + y))))))
  | _, _ => none
def sIf (t : FT) (a b : FS) : FS := fun ρ => (t ρ).bind fun c => if c then a ρ else b ρ
def sRet (f : FE) : FS := fun ρ => (f ρ).bind fun d => some (.rt d)
def sRetN : FS := fun _ => some (.rt .non)
def sDrop (f : FE) : FS := fun ρ => (f ρ).bind fun _ => some (.nx ρ)
def sBrk : FS := fun ρ => some (.bk ρ)
def sCt : FS := fun ρ => some (.ct ρ)
/-- never come to -/
def sNever : FS := fun _ => none
def sApp (i : Nat) (f : FE) : FS := fun ρ => match ρ[i]? with
  | some (some (.ow (.lst ds))) => (f ρ).bind fun d => if room ds.length then some (.nx (ρ.set i (some (.ow (.lst (ds ++ [d])))))) else none
  | _ => none
/-- xs[k] = v of an own list -/
def sPut (i : Nat) (k v : FE) : FS := fun ρ => (v ρ).bind fun d => match ρ[i]? with
  | some (some (.ow (.lst ds))) => (k ρ).bind fun e => match e with
    | .int z => (ixN ds.length z).bind fun j => some (.nx (ρ.set i (some (.ow (.lst (ds.set j d))))))
    | _ => none
  | _ => none
/-- xs[k], xs[l] = v, w of an own list -/
def sPut2 (i : Nat) (k l v w : FE) : FS := fun ρ => (v ρ).bind fun d => (w ρ).bind fun d' => match ρ[i]? with
  | some (some (.ow (.lst ds))) => (k ρ).bind fun e => match e with
    | .int z => (ixN ds.length z).bind fun j => (l (ρ.set i (some (.ow (.lst (ds.set j d)))))).bind fun e' => match e' with
      | .int z' => (ixN ds.length z').bind fun j' => some (.nx (ρ.set i (some (.ow (.lst ((ds.set j d).set j' d'))))))
      | _ => none
    | _ => none
  | _ => none
/-- d[k] = v of an own dict -/
def sDput (i : Nat) (k v : FE) : FS := fun ρ => (v ρ).bind fun d => match ρ[i]? with
  | some (some (.ow (.dic kvs))) => (k ρ).bind fun e => if e.okKey && room kvs.length then some (.nx (ρ.set i (some (.ow (.dic (put kvs e d)))))) else none
  | _ => none
/-- what a name holds is its own no more -/
def frz (is : List Nat) (ρ : En) : En := is.foldl (fun (ρ : En) (i : Nat) => match ρ[i]? with
  | some (some (.ow d)) => ρ.set i (some (.sh d))
  | _ => ρ) ρ
def sFrz (is : List Nat) (a : FS) : FS := fun ρ => a (frz is ρ)
def forM (g : FG) (body : FS) : List D → En → Option Out
  | [], ρ => some (.nx ρ)
  | x :: xs, ρ => (g x ρ).bind fun ρ1 => (body ρ1).bind fun o => match o with
    | .nx ρ2 => forM g body xs ρ2
    | .ct ρ2 => forM g body xs ρ2
    | .bk ρ2 => some (.nx ρ2)
    | .rt d => some (.rt d)
def sFor (w : FW) (g : FG) (body : FS) : FS := fun ρ => (w ρ).bind fun xs => forM g body xs ρ
def whileM (t : FT) (body : FS) : Nat → En → Option Out
  | 0, _ => none
  | n + 1, ρ => (t ρ).bind fun b => if b then (body ρ).bind fun o => match o with
    | .nx ρ2 => whileM t body n ρ2
    | .ct ρ2 => whileM t body n ρ2
    | .bk ρ2 => some (.nx ρ2)
    | .rt d => some (.rt d)
    else some (.nx ρ)
def fuel : Nat := 1000000
def sWhile (t : FT) (body : FS) : FS := fun ρ => whileM t body fuel ρ

/-- self.f = e, f the j-th field -/
def sFld (i c j : Nat) (f : FE) : FS := fun ρ => (f ρ).bind fun d => match ρ[i]? with
  | some (some (.ow (.ins c' ds))) => if c' = c ∧ ds.length = j then some (.nx (ρ.set i (some (.ow (.ins c (ds ++ [d])))))) else none
  | _ => none
/-! ### defs -/
/-- a body as a function: n parameters, N slots -/
def fnB (n N : Nat) (body : FS) : List D → Option D := fun ds => if ds.length = n then (body (ds.map (fun d => some (.sh d)) ++ List.replicate (N - n) none)).bind fun o => match o with
    | .rt d => some d
    | .nx _ => some .non
    | _ => none
  else none
/-- an __init__ as a function: n arguments behind self, N slots; the fields -/
def fnI (c n N : Nat) (body : FS) : List D → Option (List D) := fun ds => if ds.length = n then (body (some (S.ow (.ins c [])) :: ds.map (fun d => some (S.sh d)) ++ List.replicate (N - (n + 1)) none)).bind fun o => match o with
    | .nx ρ => (match ρ[0]? with
      | some (some (S.ow (.ins c' es))) => if c' = c then some es else none
      | _ => none)
    | _ => none
  else none
def eMake (c : Nat) (g : List D → Option (List D)) (f : FA) : FE := fun ρ => (f ρ).bind fun ds => (g ds).bind fun es => some (.ins c es)
end Vl
end
section
set_option Elab.async false
set_option linter.all false
set_option maxRecDepth 100000
/-! the defs of the law as functions on data (printed by gen.py) -/
namespace Vl
namespace F15
/-- _law_draws -/
def b__law_draws : FS := sSeq (sOwn 2 (eLst (aNil)))
  (sSeq (sSet 3 (e1 D.toInt (eVar 0)))
  (sSeq (sFor (wRange (eVar 1)) (gN 4) (sSeq (sSet 5 (e2 D.mod (e1 D.toInt (e2 D.add (e2 D.add (e2 D.mul (eVar 0) (eC (.int 48271))) (e2 D.mul (eVar 4) (eC (.int 69621)))) (eC (.int 1)))) (eC (.int 2147483647))))
  (sIf (t2 D.ge (eVar 0) (e2 D.pow (eC (.int 10)) (eC (.int 18)))) (sSeq (sApp 2 (e2 D.mod (eVar 3) (eC (.int 1009))))
  (sSet 3 (e2 D.fdiv (eVar 3) (eC (.int 1009))))) (sApp 2 (e2 D.fdiv (e2 D.mod (e1 D.toInt (e2 D.add (e2 D.mul (eVar 5) (eVar 5)) (e2 D.mul (eVar 5) (eC (.int 40692))))) (eC (.int 2147483399))) (eC (.int 7)))))))
  (sFrz [2] (sRet (eSh 2)))))
def g__law_draws : List D → Option D := fnB 2 6 b__law_draws
/-- _law_side -/
def b__law_side : FS := sSeq (sOwn 3 (eLst (aNil)))
  (sSeq (sFor (wRange (e1 D.len (eVar 2))) (gN 4) (sSeq (sSet 5 (e2 D.mod (e2 D.get (eVar 0) (e2 D.mod (e2 D.add (eSh 1) (eSh 4)) (e1 D.len (eVar 0)))) (eC (.int 7))))
  (sIf (t2 D.gt (eVar 5) (eC (.int 3))) (sApp 3 (eTup (aCons (e2 D.get (eVar 2) (eVar 4)) (aCons (eIf (tAnd (t2 D.eq (eVar 5) (eC (.int 6))) (t2 D.lt (e1 D.len (eVar 2)) (eC (.int 4)))) (eC (.int 2)) (eC (.int 1))) (aNil))))) (sNext))))
  (sRet (e1 D.toTup (eVar 3))))
def g__law_side : List D → Option D := fnB 3 6 b__law_side
/-- _law_shifted -/
def b__law_shifted : FS := sSeq (sSet 3 (eLc (wSeq (eSh 0)) (gT [gN 5, gN 6]) (tY) (eTup (aCons (e2 D.get (eVar 1) (e2 D.mod (e2 D.add (e2 D.index (eVar 1) (eVar 5)) (eSh 2)) (e1 D.len (eVar 1)))) (aCons (eSh 6) (aNil)))) [5, 6]))
  (sSeq (sSet 4 (eLst (aNil)))
  (sSeq (sFor (wSeq (eSh 1)) (gN 5) (sSet 4 (e2 D.add (eSh 4) (eLc (wSeq (eSh 3)) (gN 7) (t2 D.eq (e2 D.get (eVar 7) (eC (.int 0))) (eVar 5)) (eSh 7) [7]))))
  (sRet (e1 D.toTup (eVar 4)))))
def g__law_shifted : List D → Option D := fnB 3 8 b__law_shifted
/-- _law_net -/
def b__law_net : FS := sSeq (sSet 1 (eCall g__law_draws (aCons (eSh 0) (aCons (eC (.int 44)) (aNil)))))
  (sSeq (sSet 2 (e2 D.takeTo (e2 D.get (eTup (aCons (eTup (aCons (eC (.str [112])) (aCons (eC (.str [113])) (aCons (eC (.str [114])) (aCons (eC (.str [115])) (aNil)))))) (aCons (eTup (aCons (eC (.str [115])) (aCons (eC (.str [112])) (aCons (eC (.str [114])) (aCons (eC (.str [113])) (aNil)))))) (aNil)))) (e2 D.mod (e2 D.get (eVar 1) (eC (.int 42))) (eC (.int 2)))) (e2 D.add (e2 D.mod (e2 D.get (eVar 1) (eC (.int 0))) (eC (.int 3))) (eC (.int 2)))))
  (sSeq (sOwn 3 (eLst (aNil)))
  (sSeq (sFor (wRange (e2 D.add (e2 D.mod (e2 D.get (eVar 1) (eC (.int 1))) (eC (.int 4))) (eC (.int 1)))) (gN 4) (sSeq (sSet 5 (eCall g__law_side (aCons (eSh 1) (aCons (e2 D.add (eC (.int 3)) (e2 D.mul (eC (.int 9)) (eVar 4))) (aCons (eSh 2) (aNil))))))
  (sSeq (sSet 6 (eCall g__law_side (aCons (eSh 1) (aCons (e2 D.add (eC (.int 7)) (e2 D.mul (eC (.int 9)) (eVar 4))) (aCons (eSh 2) (aNil))))))
  (sSeq (sIf (t2 D.eq (e2 D.mod (e2 D.get (eVar 1) (eC (.int 2))) (eC (.int 2))) (eC (.int 0))) (sSet 6 (eCall g__law_shifted (aCons (eSh 5) (aCons (eSh 2) (aCons (e2 D.mod (e2 D.get (eVar 1) (e2 D.mod (e2 D.add (eC (.int 11)) (eSh 4)) (eC (.int 44)))) (e1 D.len (eVar 2))) (aNil)))))) (sNext))
  (sApp 3 (eTup (aCons (e2 D.get (e2 D.get (eTup (aCons (eTup (aCons (eC (.str [97])) (aCons (eC (.str [98])) (aCons (eC (.str [99])) (aCons (eC (.str [100])) (aNil)))))) (aCons (eTup (aCons (eC (.str [100])) (aCons (eC (.str [98])) (aCons (eC (.str [97])) (aCons (eC (.str [99])) (aNil)))))) (aNil)))) (e2 D.mod (e2 D.get (eVar 1) (eC (.int 43))) (eC (.int 2)))) (eVar 4)) (aCons (eSh 5) (aCons (eSh 6) (aNil))))))))))
  (sRet (eTup (aCons (eSh 2) (aCons (e1 D.toTup (eVar 3)) (aNil))))))))
def g__law_net : List D → Option D := fnB 1 7 b__law_net
/-- _law_cell -/
def b__law_cell : FS := sSeq (sIf (t2 D.lt (eVar 1) (e1 D.len (eVar 0))) (sRet (e2 D.get (eVar 0) (eVar 1))) (sNext))
  (sRet (eC (.int 0)))
def g__law_cell : List D → Option D := fnB 2 2 b__law_cell
/-- _law_mark -/
def b__law_mark : FS := sSeq (sSet 2 (eCall g__law_draws (aCons (eSh 0) (aCons (eC (.int 8)) (aNil)))))
  (sRet (e1 D.toTup (eLc (wRange (eVar 1)) (gN 3) (tY) (e2 D.mod (e2 D.get (eVar 2) (eVar 3)) (eIf (t2 D.lt (eVar 1) (eC (.int 4))) (eC (.int 3)) (eC (.int 2)))) [3])))
def g__law_mark : List D → Option D := fnB 2 4 b__law_mark
/-- _law_enough -/
def b__law_enough : FS := sRet (e2 D.eq (e1 D.len (eLc (wRange (e1 D.len (eVar 0))) (gN 2) (t2 D.lt (e2 D.get (eVar 0) (eVar 2)) (e2 D.get (eVar 1) (eVar 2))) (eSh 2) [2])) (eC (.int 0)))
def g__law_enough : List D → Option D := fnB 2 3 b__law_enough
/-- _law_behind -/
def b__law_behind : FS := sRet (e1 D.toTup (eLc (wRange (e1 D.len (eVar 0))) (gN 3) (tY) (e2 D.add (e2 D.sub (e2 D.get (eVar 0) (eVar 3)) (e2 D.get (eVar 1) (eVar 3))) (e2 D.get (eVar 2) (eVar 3))) [3]))
def g__law_behind : List D → Option D := fnB 3 4 b__law_behind
/-- _law_reached -/
def b__law_reached : FS := sSeq (sOwn 3 (eLst (aCons (eSh 1) (aNil))))
  (sSeq (sOwn 4 (eLst (aNil)))
  (sSeq (sSet 5 (eC (.int 0)))
  (sSeq (sWhile (t2 D.lt (eVar 5) (e1 D.len (eVar 3))) (sSeq (sFor (wSeq (eSh 0)) (gT [gN 6, gN 7, gN 8]) (sIf (tE (eCall g__law_enough (aCons (e2 D.get (eVar 3) (eVar 5)) (aCons (eSh 7) (aNil))))) (sSeq (sSet 9 (eCall g__law_behind (aCons (e2 D.get (eVar 3) (eVar 5)) (aCons (eSh 7) (aCons (eSh 8) (aNil))))))
  (sSeq (sIf (t2 (D.has true) (eVar 9) (eVar 3)) (sSeq (sIf (t2 D.ge (e1 D.len (eVar 3)) (eVar 2)) (sRet (eC .non)) (sNext))
  (sApp 3 (eSh 9))) (sNext))
  (sApp 4 (eTup (aCons (eSh 5) (aCons (eSh 6) (aCons (e2 D.index (eVar 3) (eVar 9)) (aNil)))))))) (sNext)))
  (sSet 5 (e2 D.add (eSh 5) (eC (.int 1))))))
  (sFrz [3, 4] (sRet (eTup (aCons (eSh 3) (aCons (eSh 4) (aNil)))))))))
def g__law_reached : List D → Option D := fnB 3 10 b__law_reached
/-- _law_row -/
def b__law_row : FS := sSeq (sOwn 2 (eLc (wSeq (eSh 0)) (gN 3) (tY) (eC (.int 0)) [3]))
  (sSeq (sFor (wSeq (eSh 1)) (gT [gN 3, gN 4]) (sPut 2 (e2 D.index (eVar 0) (eVar 3)) (eSh 4)))
  (sRet (e1 D.toTup (eVar 2))))
def g__law_row : List D → Option D := fnB 2 5 b__law_row
/-- _law_rows -/
def b__law_rows : FS := sRet (eLc (wSeq (eSh 1)) (gT [gN 2, gN 3, gN 4]) (tY) (eTup (aCons (eSh 2) (aCons (eCall g__law_row (aCons (eSh 0) (aCons (eSh 3) (aNil)))) (aCons (eCall g__law_row (aCons (eSh 0) (aCons (eSh 4) (aNil)))) (aNil))))) [2, 3, 4])
def g__law_rows : List D → Option D := fnB 2 5 b__law_rows
/-- is_name -/
def b_is_name : FS := sSeq (sIf (tOr (tNot (tE (e1 (isT "str") (eVar 0)))) (tOr (t2 D.lt (e1 D.len (eVar 0)) (eC (.int 1))) (tOr (t2 D.gt (e1 D.len (eVar 0)) (eC (.int 8))) (t2 (D.has true) (e2 D.get (eVar 0) (eC (.int 0))) (eC (.str [97, 98, 99, 100, 101, 102, 103, 104, 105, 106, 107, 108, 109, 110, 111, 112, 113, 114, 115, 116, 117, 118, 119, 120, 121, 122])))))) (sRet (eC (.bl false))) (sNext))
  (sRet (eGx true (wSeq (eSh 0)) (gN 1) (e2 (D.has false) (eVar 1) (eC (.str [97, 98, 99, 100, 101, 102, 103, 104, 105, 106, 107, 108, 109, 110, 111, 112, 113, 114, 115, 116, 117, 118, 119, 120, 121, 122, 48, 49, 50, 51, 52, 53, 54, 55, 56, 57]))) [1]))
def g_is_name : List D → Option D := fnB 1 2 b_is_name
/-- is_number -/
def b_is_number : FS := sRet (eAnd (e1 (isT "int") (eVar 0)) (eAnd (e1 (D.isntB true) (eVar 0)) (eAnd (e1 (D.isntB false) (eVar 0)) (e2 D.ge (eVar 0) (eVar 1)))))
def g_is_number : List D → Option D := fnB 2 2 b_is_number
/-- is_side -/
def b_is_side : FS := sSeq (sIf (tNot (tE (e1 (isT "tuple") (eVar 1)))) (sRet (eC (.bl false))) (sNext))
  (sSeq (sSet 2 (e1 D.neg (eC (.int 1))))
  (sSeq (sFor (wSeq (eSh 1)) (gN 3) (sSeq (sIf (tOr (tNot (tE (e1 (isT "tuple") (eVar 3)))) (tOr (t2 D.ne (e1 D.len (eVar 3)) (eC (.int 2))) (tOr (tNot (tE (eCall g_is_name (aCons (e2 D.get (eVar 3) (eC (.int 0))) (aNil))))) (t2 (D.has true) (e2 D.get (eVar 3) (eC (.int 0))) (eVar 0))))) (sRet (eC (.bl false))) (sNext))
  (sSeq (sSet 4 (e2 D.index (eVar 0) (e2 D.get (eVar 3) (eC (.int 0)))))
  (sSeq (sIf (tOr (t2 D.le (eVar 4) (eVar 2)) (tOr (tNot (tE (eCall g_is_number (aCons (e2 D.get (eVar 3) (eC (.int 1))) (aCons (eC (.int 1)) (aNil)))))) (t2 D.gt (e2 D.get (eVar 3) (eC (.int 1))) (eC (.int 9))))) (sRet (eC (.bl false))) (sNext))
  (sSet 2 (eSh 4))))))
  (sRet (eC (.bl true)))))
def g_is_side : List D → Option D := fnB 2 5 b_is_side
/-- is_move -/
def b_is_move : FS := sSeq (sIf (tOr (tNot (tE (e1 (isT "tuple") (eVar 1)))) (tOr (t2 D.ne (e1 D.len (eVar 1)) (eC (.int 3))) (tNot (tE (eCall g_is_name (aCons (e2 D.get (eVar 1) (eC (.int 0))) (aNil))))))) (sRet (eC (.bl false))) (sNext))
  (sRet (eAnd (eCall g_is_side (aCons (eSh 0) (aCons (e2 D.get (eVar 1) (eC (.int 1))) (aNil)))) (eCall g_is_side (aCons (eSh 0) (aCons (e2 D.get (eVar 1) (eC (.int 2))) (aNil))))))
def g_is_move : List D → Option D := fnB 2 2 b_is_move
/-- Net.__init__ -/
def b_Net_init : FS := sSeq (sIf (tOr (tNot (tE (e1 (isT "tuple") (eVar 1)))) (tOr (t2 D.lt (e1 D.len (eVar 1)) (eC (.int 1))) (t2 D.gt (e1 D.len (eVar 1)) (eC (.int 8))))) (sNever) (sNext))
  (sSeq (sOwn 3 (eLst (aNil)))
  (sSeq (sFor (wSeq (eSh 1)) (gN 4) (sSeq (sIf (tOr (tNot (tE (eCall g_is_name (aCons (eSh 4) (aNil))))) (t2 (D.has false) (eVar 4) (eVar 3))) (sNever) (sNext))
  (sApp 3 (eSh 4))))
  (sSeq (sIf (tOr (tNot (tE (e1 (isT "tuple") (eVar 2)))) (t2 D.gt (e1 D.len (eVar 2)) (eC (.int 9)))) (sNever) (sNext))
  (sSeq (sFor (wSeq (eSh 2)) (gN 5) (sSeq (sIf (tOr (tNot (tE (eCall g_is_move (aCons (eSh 1) (aCons (eSh 5) (aNil)))))) (t2 (D.has false) (e2 D.get (eVar 5) (eC (.int 0))) (eVar 3))) (sNever) (sNext))
  (sApp 3 (e2 D.get (eVar 5) (eC (.int 0))))))
  (sSeq (sFld 0 0 0 (eSh 1))
  (sFld 0 0 1 (eSh 2)))))))
def g_Net_init : List D → Option (List D) := fnI 0 2 6 b_Net_init
/-- turned_back -/
def b_turned_back : FS := sRet (eMake 0 g_Net_init (aCons (e1 (D.fld 0 0) (eSh 0)) (aCons (e1 D.toTup (eLc (wSeq (e1 (D.fld 0 1) (eSh 0))) (gT [gN 1, gN 2, gN 3]) (tY) (eTup (aCons (eSh 1) (aCons (eSh 3) (aCons (eSh 2) (aNil))))) [1, 2, 3])) (aNil))))
def g_turned_back : List D → Option D := fnB 1 4 b_turned_back
/-- check_some -/
def b_check_some : FS := sSeq (sIf (tNot (tE (e1 (isT "tuple") (eVar 1)))) (sNever) (sNext))
  (sSeq (sSet 2 (e1 D.neg (eC (.int 1))))
  (sFor (wSeq (eSh 1)) (gN 3) (sSeq (sIf (tOr (t2 (D.has true) (eVar 3) (e1 (D.fld 0 0) (eSh 0))) (t2 D.le (e2 D.index (e1 (D.fld 0 0) (eSh 0)) (eVar 3)) (eVar 2))) (sNever) (sNext))
  (sSet 2 (e2 D.index (e1 (D.fld 0 0) (eSh 0)) (eVar 3))))))
def g_check_some : List D → Option D := fnB 2 4 b_check_some
/-- touches -/
def b_touches : FS := sRet (eGx false (wSeq (eSh 1)) (gN 2) (e2 D.gt (e2 D.get (eVar 0) (eVar 2)) (eC (.int 0))) [2])
def g_touches : List D → Option D := fnB 2 3 b_touches
/-- is_siphon_at -/
def b_is_siphon_at : FS := sRet (eGx true (wSeq (eSh 0)) (gT [gN 2, gN 3, gN 4]) (eOr (eCall g_touches (aCons (eSh 3) (aCons (eSh 1) (aNil)))) (e1 D.not (eCall g_touches (aCons (eSh 4) (aCons (eSh 1) (aNil)))))) [2, 3, 4])
def g_is_siphon_at : List D → Option D := fnB 2 5 b_is_siphon_at
/-- row_of -/
def b_row_of : FS := sSeq (sOwn 2 (eLc (wSeq (e1 (D.fld 0 0) (eSh 0))) (gN 3) (tY) (eC (.int 0)) [3]))
  (sSeq (sFor (wSeq (eSh 1)) (gT [gN 3, gN 4]) (sPut 2 (e2 D.index (e1 (D.fld 0 0) (eSh 0)) (eVar 3)) (eSh 4)))
  (sRet (e1 D.toTup (eVar 2))))
def g_row_of : List D → Option D := fnB 2 5 b_row_of
/-- rows_of -/
def b_rows_of : FS := sRet (eLc (wSeq (e1 (D.fld 0 1) (eSh 0))) (gT [gN 1, gN 2, gN 3]) (tY) (eTup (aCons (eSh 1) (aCons (eCall g_row_of (aCons (eSh 0) (aCons (eSh 2) (aNil)))) (aCons (eCall g_row_of (aCons (eSh 0) (aCons (eSh 3) (aNil)))) (aNil))))) [1, 2, 3])
def g_rows_of : List D → Option D := fnB 1 4 b_rows_of
/-- indices -/
def b_indices : FS := sRet (eLc (wSeq (eSh 1)) (gN 2) (tY) (e2 D.index (e1 (D.fld 0 0) (eSh 0)) (eVar 2)) [2])
def g_indices : List D → Option D := fnB 2 3 b_indices
/-- is_siphon -/
def b_is_siphon : FS := sSeq (sDrop (eCall g_check_some (aCons (eSh 0) (aCons (eSh 1) (aNil)))))
  (sRet (eCall g_is_siphon_at (aCons (eCall g_rows_of (aCons (eSh 0) (aNil))) (aCons (eCall g_indices (aCons (eSh 0) (aCons (eSh 1) (aNil)))) (aNil)))))
def g_is_siphon : List D → Option D := fnB 2 2 b_is_siphon
/-- is_trap -/
def b_is_trap : FS := sSeq (sDrop (eCall g_check_some (aCons (eSh 0) (aCons (eSh 1) (aNil)))))
  (sRet (eCall g_is_siphon_at (aCons (eLc (wSeq (eCall g_rows_of (aCons (eSh 0) (aNil)))) (gT [gN 2, gN 3, gN 4]) (tY) (eTup (aCons (eSh 2) (aCons (eSh 4) (aCons (eSh 3) (aNil))))) [2, 3, 4]) (aCons (eCall g_indices (aCons (eSh 0) (aCons (eSh 1) (aNil)))) (aNil)))))
def g_is_trap : List D → Option D := fnB 2 5 b_is_trap
/-- places_at -/
def b_places_at : FS := sRet (e1 D.toTup (eLc (wSeq (eSh 1)) (gN 2) (tY) (e2 D.get (e1 (D.fld 0 0) (eSh 0)) (eVar 2)) [2]))
def g_places_at : List D → Option D := fnB 2 3 b_places_at
/-- greatest_at -/
def b_greatest_at : FS := sSeq (sSet 2 (e1 D.toLst (eVar 1)))
  (sSeq (sSet 3 (eC (.bl true)))
  (sSeq (sWhile (tE (eVar 3)) (sSeq (sSet 3 (eC (.bl false)))
  (sFor (wSeq (eSh 0)) (gT [gN 4, gN 5, gN 6]) (sIf (tAnd (tE (eCall g_touches (aCons (eSh 6) (aCons (eSh 2) (aNil))))) (tNot (tE (eCall g_touches (aCons (eSh 5) (aCons (eSh 2) (aNil))))))) (sSeq (sSet 2 (eLc (wSeq (eSh 2)) (gN 7) (t2 D.eq (e2 D.get (eVar 6) (eVar 7)) (eC (.int 0))) (eSh 7) [7]))
  (sSet 3 (eC (.bl true)))) (sNext)))))
  (sRet (eSh 2))))
def g_greatest_at : List D → Option D := fnB 2 8 b_greatest_at
/-- greatest_siphon -/
def b_greatest_siphon : FS := sSeq (sDrop (eCall g_check_some (aCons (eSh 0) (aCons (eSh 1) (aNil)))))
  (sRet (eCall g_places_at (aCons (eSh 0) (aCons (eCall g_greatest_at (aCons (eCall g_rows_of (aCons (eSh 0) (aNil))) (aCons (eCall g_indices (aCons (eSh 0) (aCons (eSh 1) (aNil)))) (aNil)))) (aNil)))))
def g_greatest_siphon : List D → Option D := fnB 2 2 b_greatest_siphon
/-- greatest_trap -/
def b_greatest_trap : FS := sSeq (sDrop (eCall g_check_some (aCons (eSh 0) (aCons (eSh 1) (aNil)))))
  (sSeq (sSet 2 (eLc (wSeq (eCall g_rows_of (aCons (eSh 0) (aNil)))) (gT [gN 3, gN 4, gN 5]) (tY) (eTup (aCons (eSh 3) (aCons (eSh 5) (aCons (eSh 4) (aNil))))) [3, 4, 5]))
  (sRet (eCall g_places_at (aCons (eSh 0) (aCons (eCall g_greatest_at (aCons (eSh 2) (aCons (eCall g_indices (aCons (eSh 0) (aCons (eSh 1) (aNil)))) (aNil)))) (aNil))))))
def g_greatest_trap : List D → Option D := fnB 2 6 b_greatest_trap
/-- changes_of -/
def b_changes_of : FS := sRet (eLc (wSeq (eCall g_rows_of (aCons (eSh 0) (aNil)))) (gT [gN 1, gN 2, gN 3]) (tY) (e1 D.toTup (eLc (wRange (e1 D.len (eVar 2))) (gN 4) (tY) (e2 D.sub (e2 D.get (eVar 3) (eVar 4)) (e2 D.get (eVar 2) (eVar 4))) [4])) [1, 2, 3])
def g_changes_of : List D → Option D := fnB 1 5 b_changes_of
/-- common -/
def b_common : FS := sSeq (sWhile (t2 D.gt (eVar 1) (eC (.int 0))) (sPar 0 1 (eSh 1) (e2 D.mod (eVar 0) (eVar 1))))
  (sRet (eSh 0))
def g_common : List D → Option D := fnB 2 2 b_common
/-- joined -/
def b_joined : FS := sSeq (sSet 3 (e1 D.neg (e2 D.get (e2 D.get (eVar 1) (eC (.int 1))) (eVar 2))))
  (sSeq (sSet 4 (e2 D.get (e2 D.get (eVar 0) (eC (.int 1))) (eVar 2)))
  (sSeq (sSet 5 (eLc (wRange (e1 D.len (e2 D.get (eVar 0) (eC (.int 0))))) (gN 9) (tY) (e2 D.add (e2 D.mul (eVar 3) (e2 D.get (e2 D.get (eVar 0) (eC (.int 0))) (eVar 9))) (e2 D.mul (eVar 4) (e2 D.get (e2 D.get (eVar 1) (eC (.int 0))) (eVar 9)))) [9]))
  (sSeq (sSet 6 (eLc (wRange (e1 D.len (e2 D.get (eVar 0) (eC (.int 1))))) (gN 9) (tY) (e2 D.add (e2 D.mul (eVar 3) (e2 D.get (e2 D.get (eVar 0) (eC (.int 1))) (eVar 9))) (e2 D.mul (eVar 4) (e2 D.get (e2 D.get (eVar 1) (eC (.int 1))) (eVar 9)))) [9]))
  (sSeq (sSet 7 (eC (.int 0)))
  (sSeq (sFor (wSeq (eSh 5)) (gN 8) (sSet 7 (eIf (t2 D.gt (eVar 7) (eVar 8)) (eCall g_common (aCons (eSh 7) (aCons (eSh 8) (aNil)))) (eCall g_common (aCons (eSh 8) (aCons (eSh 7) (aNil)))))))
  (sRet (eTup (aCons (e1 D.toTup (eLc (wSeq (eSh 5)) (gN 8) (tY) (e2 D.fdiv (eVar 8) (eVar 7)) [8])) (aCons (e1 D.toTup (eLc (wSeq (eSh 6)) (gN 8) (tY) (e2 D.fdiv (eVar 8) (eVar 7)) [8])) (aNil))))))))))
def g_joined : List D → Option D := fnB 3 10 b_joined
/-- holds_within -/
def b_holds_within : FS := sRet (eGx true (wRange (e1 D.len (eVar 0))) (gN 2) (eOr (e2 D.eq (e2 D.get (eVar 0) (eVar 2)) (eC (.int 0))) (e2 D.gt (e2 D.get (eVar 1) (eVar 2)) (eC (.int 0)))) [2])
def g_holds_within : List D → Option D := fnB 2 3 b_holds_within
/-- least_rows -/
def b_least_rows : FS := sSeq (sOwn 1 (eLst (aNil)))
  (sSeq (sFor (wRange (e1 D.len (eVar 0))) (gN 2) (sSeq (sSet 3 (e2 D.get (e2 D.get (eVar 0) (eVar 2)) (eC (.int 0))))
  (sSeq (sSet 4 (eC (.bl true)))
  (sSeq (sFor (wRange (e1 D.len (eVar 0))) (gN 5) (sIf (tAnd (t2 D.ne (eVar 5) (eVar 2)) (tE (eCall g_holds_within (aCons (e2 D.get (e2 D.get (eVar 0) (eVar 5)) (eC (.int 0))) (aCons (eSh 3) (aNil)))))) (sIf (tOr (tNot (tE (eCall g_holds_within (aCons (eSh 3) (aCons (e2 D.get (e2 D.get (eVar 0) (eVar 5)) (eC (.int 0))) (aNil)))))) (t2 D.lt (eVar 5) (eVar 2))) (sSet 4 (eC (.bl false))) (sNext)) (sNext)))
  (sIf (tE (eVar 4)) (sApp 1 (e2 D.get (eVar 0) (eVar 2))) (sNext))))))
  (sFrz [1] (sRet (eSh 1))))
def g_least_rows : List D → Option D := fnB 1 6 b_least_rows
/-- least_solutions -/
def b_least_solutions : FS := sSeq (sOwn 2 (eLst (aNil)))
  (sSeq (sFor (wRange (e1 D.len (eVar 0))) (gN 3) (sApp 2 (eTup (aCons (e1 D.toTup (eLc (wRange (e1 D.len (eVar 0))) (gN 9) (tY) (eIf (t2 D.eq (eVar 9) (eVar 3)) (eC (.int 1)) (eC (.int 0))) [9])) (aCons (e2 D.get (eVar 0) (eVar 3)) (aNil))))))
  (sSeq (sFor (wRange (eVar 1)) (gN 3) (sSeq (sOwn 4 (eLc (wVar 2) (gN 7) (t2 D.eq (e2 D.get (e2 D.get (eVar 7) (eC (.int 1))) (eVar 3)) (eC (.int 0))) (eSh 7) [7]))
  (sSeq (sFrz [2] (sFor (wSeq (eSh 2)) (gN 5) (sFrz [2] (sFor (wSeq (eSh 2)) (gN 6) (sIf (tAnd (t2 D.gt (e2 D.get (e2 D.get (eVar 5) (eC (.int 1))) (eVar 3)) (eC (.int 0))) (t2 D.lt (e2 D.get (e2 D.get (eVar 6) (eC (.int 1))) (eVar 3)) (eC (.int 0)))) (sApp 4 (eCall g_joined (aCons (eSh 5) (aCons (eSh 6) (aCons (eSh 3) (aNil)))))) (sNext))))))
  (sFrz [4] (sSet 2 (eCall g_least_rows (aCons (eSh 4) (aNil))))))))
  (sRet (e1 D.sortT (eLc (wVar 2) (gT [gN 7, gN 8]) (tY) (eSh 7) [7, 8])))))
def g_least_solutions : List D → Option D := fnB 2 10 b_least_solutions
/-- place_laws -/
def b_place_laws : FS := sSeq (sSet 1 (eCall g_changes_of (aCons (eSh 0) (aNil))))
  (sSeq (sSet 2 (eLc (wRange (e1 D.len (e1 (D.fld 0 0) (eSh 0)))) (gN 3) (tY) (e1 D.toTup (eLc (wSeq (eSh 1)) (gN 4) (tY) (e2 D.get (eVar 4) (eVar 3)) [4])) [3]))
  (sRet (e1 D.toTup (eCall g_least_solutions (aCons (eSh 2) (aCons (e1 D.len (eVar 1)) (aNil)))))))
def g_place_laws : List D → Option D := fnB 1 5 b_place_laws
/-- move_laws -/
def b_move_laws : FS := sRet (e1 D.toTup (eCall g_least_solutions (aCons (eCall g_changes_of (aCons (eSh 0) (aNil))) (aCons (e1 D.len (e1 (D.fld 0 0) (eSh 0))) (aNil)))))
def g_move_laws : List D → Option D := fnB 1 1 b_move_laws
/-- subsets -/
def b_subsets : FS := sSeq (sSet 1 (eLst (aCons (eTup (aNil)) (aNil))))
  (sSeq (sFor (wRange (eVar 0)) (gN 2) (sSet 1 (e2 D.add (eSh 1) (eLc (wSeq (eSh 1)) (gN 3) (tY) (e2 D.add (eSh 3) (eTup (aCons (eSh 2) (aNil)))) [3]))))
  (sRet (e1 D.sortK (eVar 1))))
def g_subsets : List D → Option D := fnB 1 4 b_subsets
/-- moves_at -/
def b_moves_at : FS := sRet (eLc (wSeq (eSh 0)) (gN 2) (tE (eGx false (wSeq (eSh 1)) (gN 3) (eOr (e2 D.gt (e2 D.get (e2 D.get (eVar 2) (eC (.int 1))) (eVar 3)) (eC (.int 0))) (e2 D.gt (e2 D.get (e2 D.get (eVar 2) (eC (.int 2))) (eVar 3)) (eC (.int 0)))) [3])) (eSh 2) [2])
def g_moves_at : List D → Option D := fnB 2 4 b_moves_at
/-- come_from -/
def b_come_from : FS := sSeq (sSet 3 (eLst (aCons (eSh 2) (aNil))))
  (sSeq (sSet 4 (eC (.int 0)))
  (sSeq (sWhile (t2 D.lt (eVar 4) (e1 D.len (eVar 3))) (sSeq (sFor (wSeq (eSh 0)) (gT [gN 5, gN 6, gN 7]) (sIf (t2 D.gt (e2 D.get (eVar 6) (e2 D.get (eVar 3) (eVar 4))) (eC (.int 0))) (sSet 3 (e2 D.add (eSh 3) (eLc (wSeq (eSh 1)) (gN 8) (tAnd (t2 D.gt (e2 D.get (eVar 7) (eVar 8)) (eC (.int 0))) (t2 (D.has true) (eVar 8) (eVar 3))) (eSh 8) [8]))) (sNext)))
  (sAug 4 (eC (.int 1)))))
  (sRet (eSh 3))))
def g_come_from : List D → Option D := fnB 3 9 b_come_from
/-- is_machine_part -/
def b_is_machine_part : FS := sSeq (sSet 2 (eCall g_moves_at (aCons (eCall g_rows_of (aCons (eSh 0) (aNil))) (aCons (eSh 1) (aNil)))))
  (sSeq (sFor (wSeq (eSh 2)) (gT [gN 3, gN 4, gN 5]) (sIf (tOr (t2 D.ne (e1 D.sum (eLc (wSeq (eSh 1)) (gN 6) (tY) (e2 D.get (eVar 4) (eVar 6)) [6])) (eC (.int 1))) (t2 D.ne (e1 D.sum (eLc (wSeq (eSh 1)) (gN 6) (tY) (e2 D.get (eVar 5) (eVar 6)) [6])) (eC (.int 1)))) (sRet (eC (.bl false))) (sNext)))
  (sRet (eAnd (e2 D.gt (e1 D.len (eVar 1)) (eC (.int 0))) (eGx true (wSeq (eSh 1)) (gN 6) (e2 D.eq (e1 D.len (eCall g_come_from (aCons (eSh 2) (aCons (eSh 1) (aCons (eSh 6) (aNil)))))) (e1 D.len (eVar 1))) [6]))))
def g_is_machine_part : List D → Option D := fnB 2 7 b_is_machine_part
/-- named -/
def b_named : FS := sRet (e1 D.toTup (eLc (wSeq (eSh 1)) (gN 2) (tY) (e2 D.get (e1 (D.fld 0 0) (eSh 0)) (eVar 2)) [2]))
def g_named : List D → Option D := fnB 2 3 b_named
/-- machine_parts -/
def b_machine_parts : FS := sRet (e1 D.toTup (eLc (wSeq (eCall g_subsets (aCons (e1 D.len (e1 (D.fld 0 0) (eSh 0))) (aNil)))) (gN 1) (tE (eCall g_is_machine_part (aCons (eSh 0) (aCons (eSh 1) (aNil))))) (eCall g_named (aCons (eSh 0) (aCons (eSh 1) (aNil)))) [1]))
def g_machine_parts : List D → Option D := fnB 1 2 b_machine_parts
/-- rank_of -/
def b_rank_of : FS := sSeq (sOwn 1 (eLc (wSeq (eCall g_changes_of (aCons (eSh 0) (aNil)))) (gN 5) (tY) (e1 D.toLst (eVar 5)) [5]))
  (sSeq (sSet 2 (eC (.int 0)))
  (sSeq (sFor (wRange (e1 D.len (e1 (D.fld 0 0) (eSh 0)))) (gN 3) (sSeq (sSet 4 (eLc (wRange2 (eVar 2) (e1 D.len (eVar 1))) (gN 7) (t2 D.ne (e2 D.get (e2 D.get (eVar 1) (eVar 7)) (eVar 3)) (eC (.int 0))) (eSh 7) [7]))
  (sIf (t2 D.gt (e1 D.len (eVar 4)) (eC (.int 0))) (sSeq (sPut2 1 (eVar 2) (e2 D.get (eVar 4) (eC (.int 0))) (e2 D.get (eVar 1) (e2 D.get (eVar 4) (eC (.int 0)))) (e2 D.get (eVar 1) (eVar 2)))
  (sSeq (sSet 6 (e2 D.get (eVar 1) (eVar 2)))
  (sSeq (sFor (wRange2 (e2 D.add (eSh 2) (eC (.int 1))) (e1 D.len (eVar 1))) (gN 7) (sSeq (sSet 8 (e2 D.get (e2 D.get (eVar 1) (eVar 7)) (eVar 3)))
  (sPut 1 (eVar 7) (eLc (wRange (e1 D.len (eVar 6))) (gN 9) (tY) (e2 D.sub (e2 D.mul (e2 D.get (eVar 6) (eVar 3)) (e2 D.get (e2 D.get (eVar 1) (eVar 7)) (eVar 9))) (e2 D.mul (eVar 8) (e2 D.get (eVar 6) (eVar 9)))) [9]))))
  (sAug 2 (eC (.int 1)))))) (sNext))))
  (sRet (eSh 2))))
def g_rank_of : List D → Option D := fnB 1 10 b_rank_of
/-- check_mark -/
def b_check_mark : FS := sSeq (sIf (tOr (tNot (tE (e1 (isT "tuple") (eVar 1)))) (t2 D.ne (e1 D.len (eVar 1)) (e1 D.len (e1 (D.fld 0 0) (eSh 0))))) (sNever) (sNext))
  (sFor (wSeq (eSh 1)) (gN 2) (sIf (tNot (tE (eCall g_is_number (aCons (eSh 2) (aCons (eC (.int 0)) (aNil)))))) (sNever) (sNext)))
def g_check_mark : List D → Option D := fnB 2 3 b_check_mark
/-- is_enough -/
def b_is_enough : FS := sRet (eGx true (wRange (e1 D.len (eVar 0))) (gN 2) (e2 D.ge (e2 D.get (eVar 0) (eVar 2)) (e2 D.get (eVar 1) (eVar 2))) [2])
def g_is_enough : List D → Option D := fnB 2 3 b_is_enough
/-- moved -/
def b_moved : FS := sRet (e1 D.toTup (eLc (wRange (e1 D.len (eVar 0))) (gN 3) (tY) (e2 D.add (e2 D.sub (e2 D.get (eVar 0) (eVar 3)) (e2 D.get (eVar 1) (eVar 3))) (e2 D.get (eVar 2) (eVar 3))) [3]))
def g_moved : List D → Option D := fnB 3 4 b_moved
/-- explored -/
def b_explored : FS := sSeq (sSet 3 (eCall g_rows_of (aCons (eSh 0) (aNil))))
  (sSeq (sOwn 4 (eLst (aCons (eSh 1) (aNil))))
  (sSeq (sOwn 5 (eLst (aCons (eC .non) (aNil))))
  (sSeq (sOwn 6 (eDic1 (eSh 1) (eC (.int 0))))
  (sSeq (sOwn 7 (eLst (aNil)))
  (sSeq (sSet 8 (eC (.int 0)))
  (sSeq (sWhile (t2 D.lt (eVar 8) (e1 D.len (eVar 4))) (sSeq (sFor (wSeq (eSh 3)) (gT [gN 9, gN 10, gN 11]) (sIf (tE (eCall g_is_enough (aCons (e2 D.get (eVar 4) (eVar 8)) (aCons (eSh 10) (aNil))))) (sSeq (sSet 12 (eCall g_moved (aCons (e2 D.get (eVar 4) (eVar 8)) (aCons (eSh 10) (aCons (eSh 11) (aNil))))))
  (sSeq (sIf (t2 (D.has true) (eVar 12) (eVar 6)) (sSeq (sIf (t2 D.ge (e1 D.len (eVar 4)) (eVar 2)) (sNever) (sNext))
  (sSeq (sDput 6 (eSh 12) (e1 D.len (eVar 4)))
  (sSeq (sApp 4 (eSh 12))
  (sApp 5 (eTup (aCons (eSh 8) (aCons (eSh 9) (aNil)))))))) (sNext))
  (sApp 7 (eTup (aCons (eSh 8) (aCons (eSh 9) (aCons (e2 D.get (eVar 6) (eVar 12)) (aNil)))))))) (sNext)))
  (sAug 8 (eC (.int 1)))))
  (sFrz [4, 5, 7] (sRet (eTup (aCons (eSh 4) (aCons (eSh 5) (aCons (eSh 7) (aNil)))))))))))))
def g_explored : List D → Option D := fnB 3 13 b_explored
/-- reached -/
def b_reached : FS := sSeq (sDrop (eCall g_check_mark (aCons (eSh 0) (aCons (eSh 1) (aNil)))))
  (sSeq (sAsg (gT [gN 3, gN 4, gN 5]) (eCall g_explored (aCons (eSh 0) (aCons (eSh 1) (aCons (eSh 2) (aNil))))))
  (sRet (e1 D.toTup (eVar 3))))
def g_reached : List D → Option D := fnB 3 6 b_reached
/-- word_to -/
def b_word_to : FS := sSeq (sOwn 2 (eLst (aNil)))
  (sSeq (sWhile (tE (e1 D.isntNon (e2 D.get (eVar 0) (eVar 1)))) (sSeq (sAsg (gT [gN 1, gN 3]) (e2 D.get (eVar 0) (eVar 1)))
  (sApp 2 (eSh 3))))
  (sRet (e1 D.revTup (eVar 2))))
def g_word_to : List D → Option D := fnB 2 4 b_word_to
/-- way -/
def b_way : FS := sSeq (sDrop (eCall g_check_mark (aCons (eSh 0) (aCons (eSh 1) (aNil)))))
  (sSeq (sDrop (eCall g_check_mark (aCons (eSh 0) (aCons (eSh 2) (aNil)))))
  (sSeq (sSet 4 (eCall g_rows_of (aCons (eSh 0) (aNil))))
  (sSeq (sOwn 5 (eLst (aCons (eSh 1) (aNil))))
  (sSeq (sOwn 6 (eLst (aCons (eC .non) (aNil))))
  (sSeq (sOwn 7 (eDic1 (eSh 1) (eC (.int 0))))
  (sSeq (sSet 8 (eC (.int 0)))
  (sSeq (sWhile (tAnd (t2 D.lt (eVar 8) (e1 D.len (eVar 5))) (t2 (D.has true) (eVar 2) (eVar 7))) (sSeq (sFor (wSeq (eSh 4)) (gT [gN 9, gN 10, gN 11]) (sIf (tE (eCall g_is_enough (aCons (e2 D.get (eVar 5) (eVar 8)) (aCons (eSh 10) (aNil))))) (sSeq (sSet 12 (eCall g_moved (aCons (e2 D.get (eVar 5) (eVar 8)) (aCons (eSh 10) (aCons (eSh 11) (aNil))))))
  (sIf (tAnd (t2 (D.has true) (eVar 12) (eVar 7)) (t2 (D.has true) (eVar 2) (eVar 7))) (sSeq (sIf (t2 D.ge (e1 D.len (eVar 5)) (eVar 3)) (sNever) (sNext))
  (sSeq (sDput 7 (eSh 12) (e1 D.len (eVar 5)))
  (sSeq (sApp 5 (eSh 12))
  (sApp 6 (eTup (aCons (eSh 8) (aCons (eSh 9) (aNil)))))))) (sNext))) (sNext)))
  (sAug 8 (eC (.int 1)))))
  (sSeq (sIf (t2 (D.has true) (eVar 2) (eVar 7)) (sRet (eC .non)) (sNext))
  (sFrz [6] (sRet (eCall g_word_to (aCons (eSh 6) (aCons (e2 D.get (eVar 7) (eVar 2)) (aNil))))))))))))))
def g_way : List D → Option D := fnB 4 13 b_way
/-- found_move -/
def b_found_move : FS := sSeq (sFor (wSeq (eCall g_rows_of (aCons (eSh 0) (aNil)))) (gN 2) (sIf (t2 D.eq (e2 D.get (eVar 2) (eC (.int 0))) (eVar 1)) (sRet (eSh 2)) (sNext)))
  (sNever)
def g_found_move : List D → Option D := fnB 2 3 b_found_move
/-- run -/
def b_run : FS := sSeq (sDrop (eCall g_check_mark (aCons (eSh 0) (aCons (eSh 1) (aNil)))))
  (sSeq (sSet 3 (eLc (wSeq (eSh 2)) (gN 5) (tY) (eCall g_found_move (aCons (eSh 0) (aCons (eSh 5) (aNil)))) [5]))
  (sSeq (sFor (wRange (e1 D.len (eVar 3))) (gN 4) (sSeq (sAsg (gT [gN 5, gN 6, gN 7]) (e2 D.get (eVar 3) (eVar 4)))
  (sSeq (sIf (tNot (tE (eCall g_is_enough (aCons (eSh 1) (aCons (eSh 6) (aNil)))))) (sNever) (sNext))
  (sSet 1 (eCall g_moved (aCons (eSh 1) (aCons (eSh 6) (aCons (eSh 7) (aNil)))))))))
  (sRet (eSh 1))))
def g_run : List D → Option D := fnB 3 8 b_run
/-- law -/
def b_law : FS := sSeq (sAsg (gT [gN 11, gN 12]) (eCall g__law_net (aCons (eCall g__law_cell (aCons (eSh 0) (aCons (eC (.int 0)) (aNil)))) (aNil))))
  (sSeq (sSet 1 (eCall g__law_mark (aCons (eCall g__law_cell (aCons (eSh 0) (aCons (eC (.int 1)) (aNil)))) (aCons (e1 D.len (eVar 11)) (aNil)))))
  (sSeq (sSet 2 (eCall g__law_reached (aCons (eCall g__law_rows (aCons (eSh 11) (aCons (eSh 12) (aNil)))) (aCons (eSh 1) (aCons (eC (.int 30)) (aNil))))))
  (sSeq (sIf (tE (e1 D.isNon (eVar 2))) (sRet (eC (.bl true))) (sNext))
  (sSeq (sSet 3 (eMake 0 g_Net_init (aCons (eSh 11) (aCons (eSh 12) (aNil)))))
  (sSeq (sSet 4 (eCall g__law_draws (aCons (eCall g__law_cell (aCons (eSh 0) (aCons (eC (.int 2)) (aNil)))) (aCons (eC (.int 20)) (aNil)))))
  (sSeq (sSet 5 (eCall g_turned_back (aCons (eSh 3) (aNil))))
  (sSeq (sIf (tOr (t2 D.ne (e1 (D.fld 0 1) (eCall g_turned_back (aCons (eSh 5) (aNil)))) (e1 (D.fld 0 1) (eSh 3))) (t2 D.ne (e1 (D.fld 0 0) (eSh 5)) (e1 (D.fld 0 0) (eSh 3)))) (sRet (eC (.bl false))) (sNext))
  (sSeq (sSet 6 (e1 D.toTup (eLc (wRange (e1 D.len (eVar 11))) (gN 13) (t2 D.eq (e2 D.mod (e2 D.get (eVar 4) (eVar 13)) (eC (.int 2))) (eC (.int 0))) (e2 D.get (eVar 11) (eVar 13)) [13])))
  (sSeq (sIf (t2 D.eq (e1 D.len (eVar 6)) (eC (.int 0))) (sSet 6 (e2 D.takeTo (eSh 11) (eC (.int 1)))) (sNext))
  (sSeq (sIf (tOr (t2 D.ne (eCall g_is_siphon (aCons (eSh 5) (aCons (eSh 6) (aNil)))) (eCall g_is_trap (aCons (eSh 3) (aCons (eSh 6) (aNil))))) (t2 D.ne (eCall g_is_trap (aCons (eSh 5) (aCons (eSh 6) (aNil)))) (eCall g_is_siphon (aCons (eSh 3) (aCons (eSh 6) (aNil)))))) (sRet (eC (.bl false))) (sNext))
  (sSeq (sIf (tOr (t2 D.ne (eCall g_greatest_siphon (aCons (eSh 5) (aCons (eSh 6) (aNil)))) (eCall g_greatest_trap (aCons (eSh 3) (aCons (eSh 6) (aNil))))) (tOr (t2 D.ne (eCall g_place_laws (aCons (eSh 5) (aNil))) (eCall g_place_laws (aCons (eSh 3) (aNil)))) (t2 D.ne (eCall g_move_laws (aCons (eSh 5) (aNil))) (eCall g_move_laws (aCons (eSh 3) (aNil)))))) (sRet (eC (.bl false))) (sNext))
  (sSeq (sIf (tOr (t2 D.ne (eCall g_machine_parts (aCons (eSh 5) (aNil))) (eCall g_machine_parts (aCons (eSh 3) (aNil)))) (t2 D.ne (eCall g_rank_of (aCons (eSh 5) (aNil))) (eCall g_rank_of (aCons (eSh 3) (aNil))))) (sRet (eC (.bl false))) (sNext))
  (sSeq (sSet 7 (eCall (fun ds => g_reached (ds ++ [.int 500])) (aCons (eSh 3) (aCons (eSh 1) (aNil)))))
  (sSeq (sIf (t2 D.ne (eVar 7) (e1 D.toTup (e2 D.get (eVar 2) (eC (.int 0))))) (sRet (eC (.bl false))) (sNext))
  (sSeq (sSet 8 (e2 D.get (eVar 7) (e2 D.mod (e2 D.get (eVar 4) (eC (.int 6))) (e1 D.len (eVar 7)))))
  (sSeq (sSet 9 (eCall (fun ds => g_way (ds ++ [.int 500])) (aCons (eSh 3) (aCons (eSh 1) (aCons (eSh 8) (aNil))))))
  (sSeq (sIf (tOr (t2 D.ne (eCall g_run (aCons (eSh 3) (aCons (eSh 1) (aCons (eSh 9) (aNil))))) (eVar 8)) (t2 D.ne (eCall g_run (aCons (eSh 5) (aCons (eSh 8) (aCons (e1 D.toTup (e1 D.revLst (eVar 9))) (aNil))))) (eVar 1))) (sRet (eC (.bl false))) (sNext))
  (sSeq (sFor (wSeq (eCall g_place_laws (aCons (eSh 3) (aNil)))) (gN 10) (sIf (t2 D.ne (e1 D.sum (eLc (wRange (e1 D.len (eVar 10))) (gN 13) (tY) (e2 D.mul (e2 D.get (eVar 10) (eVar 13)) (e2 D.get (eVar 8) (eVar 13))) [13])) (e1 D.sum (eLc (wRange (e1 D.len (eVar 10))) (gN 13) (tY) (e2 D.mul (e2 D.get (eVar 10) (eVar 13)) (e2 D.get (eVar 1) (eVar 13))) [13]))) (sRet (eC (.bl false))) (sNext)))
  (sRet (eC (.bl true)))))))))))))))))))))
def g_law : List D → Option D := fnB 1 14 b_law
end F15
end Vl
end
section
set_option Elab.async false
set_option linter.all false
set_option maxRecDepth 100000
set_option maxHeartbeats 2000000
/-! list(reversed(a tuple)), at the library's level -/
namespace Lr
open PySem PyProof.Rows RT
theorem nolen_rt : typeLookup (.type "reversed") "__len__" = pure none := by rw [typeLookup_type, builtinLookup_eq_fast]; kernel_rfl
theorem hint_rt : typeLookup (.type "reversed") "__length_hint__" = pure (some (.builtin "reversed.__length_hint__")) := by rw [typeLookup_type, builtinLookup_eq_fast]; kernel_rfl
theorem walks_rt {prog : Program} {w : World} {A : Around} (hh : A.handled = none) (I t : Addr) (hne : t ≠ I) (items : Array Value) (hn : items.size ≤ sizeLine) :
    Walks prog w A I [I, t] [I] items.size (fun i v => items[items.size - 1 - i]? = some v) (fun i h => i ≤ items.size ∧ IsRt h I t ((items.size : Int) - 1 - (i : Int)) ∧ IsTup h t items) where
  sub := fun b hb => by simp at hb; simp [hb]
  frame := fun _ _ _ x hk => ⟨x.1, x.2.1.at fun o e => hk I (by simp) o e, let ⟨o, ho, r⟩ := x.2.2; ⟨o, hk t (by simp) o ho, r⟩⟩
  item := fun i s Q E hi x hQ => by
    have e : (items.size : Int) - 1 - (i : Int) = ((items.size - 1 - i : Nat) : Int) := by omega
    have hit := x.2.1
    rw [e] at hit
    have hx : items[items.size - 1 - i]? = some (items[items.size - 1 - i]'(by omega)) := Array.getElem?_eq_getElem (by omega)
    refine next_rt_item hit x.2.2 hx hn fun h' hit' hs' => ?_
    have e2 : ((items.size - 1 - i : Nat) : Int) - 1 = (items.size : Int) - 1 - ((i + 1 : Nat) : Int) := by omega
    rw [e2] at hit'
    exact hQ _ h' (s.toks + 1) hx ⟨hi, hit', let ⟨o, ho, r⟩ := x.2.2; ⟨o, (hs'.2 t hne).trans ho, r⟩⟩ fun b o hb eo => hs'.extBut b o (fun h => hb (by simp [h])) eo
  done := fun s Q E x hQ => by
    have e : (items.size : Int) - 1 - (items.size : Int) = -1 := by omega
    have hit := x.2.1
    rw [e] at hit
    refine next_rt_end hh hit fun h' he' => ?_
    exact hQ h' s.toks fun b o hb eo => he' b o (fun h => hb (by simp [h])) eo
  self := fun _ _ _ _ x hQ => iter_rt x.2.1 hQ
theorem asI {prog : Program} {w : World} {A : Around} {E : Value → Shared → Prop} {s : Shared} {β : Type} {z : Int} {tk : Tok} {f : Option Int → Sem β} {Q : β → Shared → Prop} (h : wpAny (model prog w) A (f (some z)) Q E s) : wpAny (model prog w) A (asInt? (.int z tk) >>= f) Q E s := wpAny_bind (wpAny_pure h)
theorem slot_rt_hint : Slot "reversed" "__length_hint__" "reversed.__length_hint__" :=
  .of (owner := "reversed") (n := "__length_hint__") (by rw [typeLookup_type, builtinLookup_eq_fast]; kernel_rfl) (by decide +kernel) (by decide +kernel) (by decide +kernel)
    (by first | exact .inl (by decide +kernel) | exact .inr (by decide +kernel)) (by rw [isSubtype_type]; kernel_rfl)
theorem entry_rt_hint : entryFor table "reversed.__length_hint__" = some Builtin.«reversed.__length_hint__» := entryFor_of_tree (by kernel_rfl)
theorem args_rt_hint (a : Value) : argsOk "reversed.__length_hint__" ⟨[a], []⟩ := by
  unfold argsOk; rw [signature?_of (id := "reversed.__length_hint__") (n := ['_', '_', 't', 'n', 'i', 'h', '_', 'h', 't', 'g', 'n', 'e', 'l', '_', '_']) (o := ['d', 'e', 's', 'r', 'e', 'v', 'e', 'r']) (by kernel_rfl) owner_rt]; kernel_rfl
section
variable {prog : Program} {w : World} {A : Around} {E : Value → Shared → Prop} {s : Shared}
theorem call_hint {it t : Addr} {items : Array Value} {Q : Value → Shared → Prop} (hit : IsRt s.heap it t ((items.size : Int) - 1)) (ht : IsTup s.heap t items) (hn : items.size ≤ sizeLine)
    (h : ∀ tk tk', Q (.int items.size tk) { s with toks := tk' }) : wpAny (model prog w) A (call (.builtin "reversed.__length_hint__") [.ref it]) Q E s := by
  refine wpAny_call_entry slot_rt_hint hit.typeIs entry_rt_hint ?_ (args_rt_hint _)
  obtain ⟨o, ho, hc, hd⟩ := id hit
  unfold Builtin.«reversed.__length_hint__»
  refine wpAny_bind (wpAny_of_eq (a := Value.ref it) rfl ?_)
  try dsimp only
  refine wpAny_bind (wpAny_field ho hd (x := .ref t) rfl ?_)
  try dsimp only
  rw [if_neg (by show ¬ (Value.ref t == Value.none) = true; intro z; cases z)]
  refine wpAny_bind (len_tuple ht (by rw [sizeLine_eq] at hn; omega) ?_)
  refine wpAny_bind (wpAny_of_eq (a := some (items.size : Int)) rfl ?_)
  try dsimp only
  refine wpAny_bind (wpAny_field (s := { s with toks := s.toks + 1 + 1 }) ho hd (x := rawInt ((items.size : Int) - 1)) rfl ?_)
  show wpAny _ _ (if (items.size : Int) < (items.size : Int) - 1 + 1 then _ else _) _ _ _
  rw [if_neg (by omega)]
  have e : (items.size : Int) - 1 + 1 = (items.size : Int) := by omega
  rw [e]
  refine wpAny_bind (wpAny_mkInt ?_)
  exact wpAny_pure ⟨_, rfl, h _ _⟩
end
section
variable {prog : Program} {w : World} {A : Around} {s : Shared} {R : Result → Shared → Prop} {I t : Addr} {items : Array Value}
theorem extend_rt (hh : A.handled = none) (hne : t ≠ I) (hit : IsRt s.heap I t ((items.size : Int) - 1)) (ht : IsTup s.heap t items) (S : Addr) (res : Value) (c₀ : Nat) (hSf : S ∉ [I, t])
    (hS : s.heap.get? S = some { cls := .type "list", data := .seq #[] c₀ }) (hn : items.size ≤ sizeLine)
    (hR : ∀ (h' : Heap) (tk : Nat) (acc' : Array Value) (c' : Nat), (∀ b o, b ≠ S → b ≠ I → s.heap.get? b = some o → h'.get? b = some o) → h'.get? S = some { cls := .type "list", dict := none, data := .seq acc' c', slots := #[] } → ItemsOf (fun i v => items[items.size - 1 - i]? = some v) acc' items.size → R (.ok (.ret res)) { s with heap := h', toks := tk }) :
    wpAny (model prog w) A.in1 (Builtin.List.listExtendWith (.ref S) (.ref I) res)
      (fun fin s' => match fin with | .done f => R (.ok f) s' | .again c' => c'.quiet = true ∧ codeAny (model prog w) A c' R s') (fun e s' => R (.error e) s') s := by
  have hSI : S ≠ I := fun e => hSf (e ▸ List.mem_cons_self)
  have W := (walks_rt (prog := prog) (w := w) (A := A.in1) hh I t hne items hn).toS
  unfold Builtin.List.listExtendWith
  refine wpAny_bind (wpAny_typeOf hit.typeIs ?_)
  have h1 : Builtin.List.listSameRef (.ref S) (.ref I) = false := by simp [Builtin.List.listSameRef, hSI]
  rw [if_neg (by rw [h1]; decide)]
  refine wpAny_bind (iter_rt hit ?_)
  refine wpAny_bind (wpAny_holding ?_)
  unfold Builtin.List.listLengthHint
  refine wpAny_bind (wpAny_specialOf hit.typeIs nolen_rt ?_)
  show wpAny _ A.in1 (specialOf (Value.ref I) (Str.ofString "__length_hint__") >>= _) _ _ _
  refine wpAny_bind (wpAny_specialOf hit.typeIs hint_rt ?_)
  generalize hid : ("reversed.__length_hint__" : String) = id0
  wp_delta
  rw [show splitId id0 = some ("reversed", "__length_hint__") from by subst hid; decide +kernel]
  subst hid
  refine wpAny_bind (wpAny_isInstance (b := true) hit.typeIs (by rw [isSubtype_type]; kernel_rfl) ?_)
  rw [if_neg (by decide)]
  try dsimp only
  rw [if_neg (by decide)]
  refine wpAny_bind (wpAny_rule ?_)
  unfold bindSpecial
  refine wpAny_bind (wpAny_bind (wpAny_of_eq (a := Value.type "method_descriptor") (by kernel_rfl) ?_))
  rw [if_pos (by decide)]
  refine wpAny_pure ?_
  refine wpAny_bind (wpAny_attempt (call_hint hit ht hn fun tk tk' => ?_))
  dsimp only
  refine asI ?_
  dsimp only
  have hsz : items.size ≤ 16777216 := by rw [sizeLine_eq] at hn; exact hn
  have f1 : Builtin.List.listFitsIndex (items.size : Int) = true := by
    unfold Builtin.List.listFitsIndex
    rw [Bool.and_eq_true, decide_eq_true_eq, decide_eq_true_eq]
    have e63 : (2 : Int) ^ 63 = 9223372036854775808 := by decide +kernel
    omega
  have f2 : Builtin.List.listTooLong (items.size : Int).toNat = false := L2.notLongL (by rw [Int.toNat_natCast]; exact hn)
  show wpAny _ _ (if (!Builtin.List.listFitsIndex (items.size : Int)) = true then _ else _) _ _ _
  rw [if_neg (by rw [f1]; decide)]
  rw [if_neg (by omega)]
  rw [if_neg (by rw [f2]; decide)]
  refine wpAny_pure ?_
  have fin : ∀ (s1 : Shared) (c1 : Nat), s1.os = s.os → s1.gens = s.gens → s1.drawn = s.drawn → (∀ b o, b ≠ S → s.heap.get? b = some o → s1.heap.get? b = some o) → s1.heap.get? S = some { cls := .type "list", data := .seq #[] c1 } →
      codeAny (model prog w) A (.builtin "list.extend.loop" ⟨[.ref S, .ref I, res], []⟩) R s1 := by
    intro s1 c1 e1 e2 e3 hk hS1
    have oth : ∀ b ∈ [I, t], ∀ o, s.heap.get? b = some o → s1.heap.get? b = some o := fun b hb o e => hk b o (fun z => hSf (z ▸ hb)) e
    refine codeAny_extend_loopS W hn _ hSf _ items.size 0 _ _ _ rfl (Nat.zero_le _) ⟨Nat.zero_le _, ?_, ?_⟩ hS1 (ItemsOf.nil _) fun s' acc' c' hm hS' hacc => ?_
    · have e0 : (items.size : Int) - 1 - ((0 : Nat) : Int) = (items.size : Int) - 1 := by omega
      rw [e0]
      exact hit.at fun o e => oth I (by simp) o e
    · obtain ⟨o, ho, r⟩ := ht
      exact ⟨o, oth t (by simp) o ho, r⟩
    · have q := Moved.eq_with hm
      rw [q]
      have z := hR s'.heap s'.toks acc' c' (fun b o h1 h2 e => hm.heap b o (fun hmem => ?_) (hk b o h1 e)) hS' hacc
      · rw [← e1, ← e2, ← e3] at z
        exact z
      · rcases List.mem_cons.mp hmem with e' | hmem
        · exact h1 e'
        · exact h2 (List.mem_singleton.mp hmem)
  clear f1 f2 hsz
  split
  · refine wpAny_bind (wpAny_rule ?_)
    refine wpAny_bind ?_
    show wpAny _ A.in1 (updateSeq S (·.push .none) >>= fun _ => updateSeq S (·.pop)) _ _ _
    refine wpAny_bind (wpAny_updateSeq hS rfl ?_)
    have hS₂ := Heap.get?_update_self (Obj.mapSeq (·.push Value.none)) hS rfl
    refine wpAny_updateSeq (hz := by seq_fits) hS₂ rfl ?_
    have hS₃ := Heap.get?_update_self (Obj.mapSeq (·.pop)) hS₂ rfl
    refine wpAny_pure ⟨plainId_quiet F.plain_extend_loop _, fin _ _ rfl rfl rfl (fun b o hb e => (Heap.get?_update_other _ _ (Ne.symm hb)).trans ((Heap.get?_update_other _ _ (Ne.symm hb)).trans e)) hS₃⟩
  · exact wpAny_pure ⟨plainId_quiet F.plain_extend_loop _, fin _ _ rfl rfl rfl (fun b o hb e => e) hS⟩
theorem init_rt (hh : A.handled = none) (hne : t ≠ I) (hit : IsRt s.heap I t ((items.size : Int) - 1)) (ht : IsTup s.heap t items) (S : Addr) (hSf : S ∉ [I, t])
    (hS : s.heap.get? S = some { cls := .type "list", data := .seq #[] }) (hn : items.size ≤ sizeLine)
    (hR : ∀ (h' : Heap) (tk : Nat) (acc' : Array Value) (c' : Nat), (∀ b o, b ≠ S → b ≠ I → s.heap.get? b = some o → h'.get? b = some o) → h'.get? S = some { cls := .type "list", dict := none, data := .seq acc' c', slots := #[] } → ItemsOf (fun i v => items[items.size - 1 - i]? = some v) acc' items.size → R (.ok (.ret .none)) { s with heap := h', toks := tk }) :
    wpAny (model prog w) A.in1 (Builtin.«list.__init__» ⟨[.ref S, .ref I], []⟩)
      (fun fin s' => match fin with | .done f => R (.ok f) s' | .again c' => c'.quiet = true ∧ codeAny (model prog w) A c' R s') (fun e s' => R (.error e) s') s := by
  show wpAny _ A.in1 (do let old ← Builtin.List.listItems (.ref S); Builtin.List.listUpdate (.ref S) (fun _ => #[]); letGo old.toList.reverse; Builtin.List.listExtendWith (.ref S) (.ref I) .none) _ _ s
  refine wpAny_bind ?_
  unfold Builtin.List.listItems
  refine wpAny_bind (wpAny_seqItems hS rfl (wpAny_pure ?_))
  show wpAny _ A.in1 (updateSeq S (fun _ => #[]) >>= fun _ => letGo (#[] : Array Value).toList.reverse >>= fun _ => Builtin.List.listExtendWith (.ref S) (.ref I) .none) _ _ s
  refine wpAny_bind (wpAny_updateSeq hS rfl ?_)
  have hS₂ := Heap.get?_update_self (Obj.mapSeq (fun _ => (#[] : Array Value))) hS rfl
  have oth : ∀ b o, b ≠ S → s.heap.get? b = some o → (s.heap.update S (Obj.mapSeq (fun _ => (#[] : Array Value)))).get? b = some o :=
    fun b o hb e => (Heap.get?_update_other _ _ (Ne.symm hb)).trans e
  refine wpAny_bind (wpAny_letGo ?_)
  have nI : I ≠ S := fun z => hSf (by rw [z]; exact List.mem_cons_self)
  have nt : t ≠ S := fun z => hSf (by rw [z]; exact List.mem_cons_of_mem _ List.mem_cons_self)
  refine extend_rt hh hne (hit.at fun o e => oth I o nI e) (let ⟨o, ho, r⟩ := ht; ⟨o, oth t o nt ho, r⟩) S .none _ hSf hS₂ hn fun h' tk acc' c' hk hS' hacc => ?_
  exact hR h' tk acc' c' (fun b o h1 h2 e => hk b o h1 h2 (oth b o h1 e)) hS' hacc
end
section
variable {prog : Program} {w : World} {A : Around} {E : Value → Shared → Prop} {s : Shared} {I t : Addr} {items : Array Value}
theorem call_list_rt {Q : Value → Shared → Prop} (hh : A.handled = none) (hne : t ≠ I) (hit : IsRt s.heap I t ((items.size : Int) - 1)) (ht : IsTup s.heap t items) (hn : items.size ≤ sizeLine)
    (hQ : ∀ (h' : Heap) (tk : Nat) (acc' : Array Value) (c' : Nat), (∀ b o, b ≠ I → s.heap.get? b = some o → h'.get? b = some o) →
      h'.get? s.heap.objs.size = some { cls := .type "list", dict := none, data := .seq acc' c', slots := #[] } → ItemsOf (fun i v => items[items.size - 1 - i]? = some v) acc' items.size → Q (.ref s.heap.objs.size) { s with heap := h', toks := tk }) :
    wpAny (model prog w) A (call (.type "list") [.ref I]) Q E s := by
  obtain ⟨oI, hoI, _⟩ := id hit
  obtain ⟨ot, hot, _⟩ := id ht
  have hSf : s.heap.objs.size ∉ [I, t] := by
    simp only [List.mem_cons, List.not_mem_nil, or_false, not_or]
    exact ⟨Nat.ne_of_gt (Heap.lt_size hoI), Nat.ne_of_gt (Heap.lt_size hot)⟩
  refine callType_codes (Q₁ := fun obj s₁ => obj = .ref s.heap.objs.size ∧ s₁ = { s with heap := s.heap.push { cls := .type "list", data := .seq #[] } }) F.called_list (F.typeCall_list_1 _) F.entry_list_init
    (code_list_new _ ⟨rfl, rfl⟩) fun obj s₁ h₁ => ?_
  obtain ⟨rfl, rfl⟩ := h₁
  have hS : (s.heap.push { cls := .type "list", data := .seq #[] }).get? s.heap.objs.size = some { cls := .type "list", data := .seq #[] } := Heap.get?_push_size _ rfl
  refine ⟨⟨_, hS, rfl⟩, F.args_list_init_2 _ _, init_rt (A := A.in1) (R := wants (fun r s₂ => r = Value.none ∧ Q (Value.ref s.heap.objs.size) s₂) E) (prog := prog) (w := w) (s := { s with heap := s.heap.push { cls := .type "list", data := .seq #[] } }) hh hne (hit.at fun o e => Heap.get?_push_of_some _ e) (let ⟨o, ho, r⟩ := ht; ⟨o, Heap.get?_push_of_some _ ho, r⟩) _ hSf hS hn fun h' tk acc' c' hk hS' hacc => ?_⟩
  exact ⟨rfl, hQ h' tk acc' c' (fun b o h1 e => hk b o (Nat.ne_of_lt (Heap.lt_size e)) h1 (Heap.get?_push_of_some _ e)) hS' hacc⟩
end
end Lr
end
section
set_option Elab.async false
set_option linter.all false
set_option maxRecDepth 100000
set_option maxHeartbeats 2000000
/-! any, all of a generator expression: the element may call defs, over whatever PI walks -/
namespace Gx
open PySem PySem.Spec PyProof.Rows L2 GenW GxR

/-- the context of a generator expression's frame -/
abbrev gcx (X : Cx) (A' : Around) (s : Shared) (H : Hp) (cenv : Env) (fp : List Addr) (pn : List (Addr × Obj)) : Cx :=
  { X with A := A', s_0 := s, H_0 := H, env := cenv, outer := X.stack, stack := cenv :: X.stack, ex := fp, fn := fun _ => false, pn := pn, xe := fun _ _ => False }
abbrev genv (X : Cx) (scope : Scope) (C : Addr) (code : Value) : Env := genEnv scope (cloFrom X.env.cells scope.names []) C code builtinsNs X.env

/-- the generator expression's own scope -/
structure GSc (N : List Str) (sc scope : Scope) (own : List (Str × Nat)) : Prop where
  blk : BlkOk N sc scope own
  co : scope.isCoroutine = false
  cell : ∀ y ∈ scope.names, y.2 ≠ .cell
  dot : scope.names.lookup (".0" : Str) = some NameKind.local

section
variable {X : Cx} {pins : List (Addr × Obj)} {σ : L2.St} {H : Hp} {s : Shared}
theorem start {scope : Scope} {own : List (Str × Nat)} {fp : List Addr} {pn : List (Addr × Obj)} {A' : Around} {code : Value} {h' : Heap} {g' : Array GenState} {tk : Nat} {m : Str → Option Value} (I : Inv X pins σ H s) (S : GSc X.N X.env.scope scope own) (hN : X.N.Nodup)
    (hfp : ∀ b ∈ fp, FpOk X pins H b ∧ b < s.heap.objs.size) (hA1 : A'.handled = none) (hA2 : A'.frames = some (genv X scope s.heap.objs.size code :: X.stack)) (hn : h'.Ns s.heap.objs.size m)
    (kp : ∀ b o, s.heap.get? b = some o → h'.get? b = some o) (hb : AllBare g') (hpn : ∀ p ∈ pn, h'.get? p.1 = some p.2 ∧ s.heap.objs.size < p.1 ∧ ∀ v, p.2.data ≠ .cell v) :
    Inv (gcx X A' s H (genv X scope s.heap.objs.size code) fp pn) [] (wipe σ (own.map (·.2))) H { s with heap := h', gens := g', toks := tk } := by
  have ok := S.blk
  have hfree : ∀ y ∈ scope.names, y.2 = .free → ∃ c, X.env.cells.lookup y.1 = some c := fun y hy e => by
    rcases ok.free y hy e with k | k
    · exact I.ok.has _ (.inl k)
    · exact I.ok.has _ (.inr k)
  generalize hcenv : genv X scope s.heap.objs.size code = cenv at *
  have hL : cenv.locals = s.heap.objs.size := by rw [← hcenv]; rfl
  have hcl : cenv.cells = cloFrom X.env.cells scope.names [] := by rw [← hcenv]; rfl
  have hsc : cenv.scope = scope := by rw [← hcenv]; rfl
  have cm : ∀ {y c}, (y, c) ∈ cloFrom X.env.cells scope.names [] → X.env.cells.lookup y = some c ∧ c < s.heap.objs.size := fun {y c} hm => by
    rcases cloFrom_mem hm with hm | ⟨h1, rfl⟩
    · cases hm
    · obtain ⟨c, hc⟩ := hfree _ h1 rfl
      rw [hc]
      obtain ⟨w, z⟩ := I.cell _ _ hc
      exact ⟨rfl, z.lt⟩
  have mem : ∀ {y c}, cenv.cells.lookup y = some c → X.env.cells.lookup y = some c ∧ c < s.heap.objs.size := fun {y c} e => by
    rw [hcl] at e
    exact cm (PySem.mem_of_lookup e)
  have look : ∀ {y}, scope.names.lookup y = some .free → ∃ c, cenv.cells.lookup y = some c ∧ X.env.cells.lookup y = some c := fun {y} hl => by
    have hy : (y, NameKind.free) ∈ scope.names := PySem.mem_of_lookup hl
    obtain ⟨c', e'⟩ := mem_lookup (cloFrom_has (cells := X.env.cells) (acc := []) hy)
    rw [← hcl] at e'
    exact ⟨c', e', (mem e').1⟩
  have okB : (gcx X A' s H cenv fp pn).Ok := by
    refine ⟨I.ok.mod, by show cenv.scope.kind = _; rw [hsc]; exact ok.kind, by show cenv.globals = _; rw [← hcenv]; exact I.ok.glob, by show cenv.builtins = _; rw [← hcenv]; rfl, by show s.heap.objs.size ≤ cenv.locals; rw [hL]; exact Nat.le_refl _,
      fun y z c e1 e2 => ?_, fun y hy => ?_, fun y c z e => ?_, fun _ => hA1, hA2, .inr ⟨rfl, ?_⟩, fun b hb => ⟨?_, fun y c e z => ?_⟩, I.bs, Nat.le_trans I.ok.bsz I.sz, fun b o e hb => ?_, fun b hb z => ?_, I.stack, I.stkFree⟩
    · have e1 : cenv.cells.lookup y = some c := e1
      have e2 : cenv.cells.lookup z = some c := e2
      exact I.ok.inj y z c (mem e1).1 (mem e2).1
    · show ∃ c, cenv.cells.lookup y = some c
      have hy' : scope.names.lookup y = some .cell ∨ scope.names.lookup y = some .free := by rw [← hsc]; exact hy
      rcases hy' with z | z
      · exact absurd rfl (S.cell _ (PySem.mem_of_lookup z))
      · obtain ⟨c, h1, _⟩ := look z
        exact ⟨c, h1⟩
    · cases z
    · show cenv.frame = some cenv.locals
      rw [← hcenv]; rfl
    · show b ≠ cenv.locals
      rw [hL]; exact Nat.ne_of_lt (hfp b hb).2
    · have e : cenv.cells.lookup y = some c := e
      exact (hfp b hb).1.2.2.2.2.1 y c (mem e).1 z
    · rcases (hfp b hb).1.2.2.2.1 with z | z
      · exact I.ok.noex b o e z
      · exact absurd (Nat.lt_of_lt_of_le (Heap.lt_size e) (Nat.le_trans I.ok.bsz z)) (Nat.lt_irrefl _)
    · rcases List.mem_cons.mp (I.stkSub b z) with z | z
      · exact (hfp b hb).1.2.1 z
      · exact (hfp b hb).1.2.2.1 z
  have young : ∀ b, s.heap.objs.size < b → H b = none ∧ b ≠ cenv.locals ∧ b ∉ frs X.stack := fun b hb => by
    refine ⟨I.hok.fresh (Nat.le_of_lt hb), by rw [hL]; exact Nat.ne_of_gt hb, fun z => ?_⟩
    rcases List.mem_cons.mp (I.stkSub b z) with z | z
    · have h1 := I.lt
      rw [← z] at h1
      exact absurd (Nat.lt_trans hb h1) (Nat.lt_irrefl _)
    · exact I.nofs (Nat.le_of_lt hb) z
  refine ⟨okB, rfl, hb, Un.kept kp, ⟨m, ?_, fun i y av e1 e2 e3 => ?_⟩, fun y c e => ?_, ?_, fun y c e => ?_, fun p hp => ?_, I.hok.kept kp, by rw [wipe_length]; exact I.len⟩
  · show Heap.Ns _ cenv.locals _
    rw [hL]
    exact hn
  · obtain ⟨e2, hne⟩ := wipe_some e2
    have hfr : scope.names.lookup y = some .free := by
      have e3 : Vis cenv.scope y := e3
      unfold Vis at e3
      rw [hsc] at e3
      have no : ∀ k, scope.names.lookup y = some k → ¬ (k = .local ∨ k = .cell) := fun k e hh => by
        rcases ok.own _ (PySem.mem_of_lookup e) hh with e' | e'
        · obtain ⟨p, hp, hpy⟩ := List.mem_map.mp e'
          have e3 := ok.ix p hp
          have : p.1 = y := hpy
          rw [this] at e3
          exact hne (List.mem_map.mpr ⟨p, hp, nodup_ix hN e3 e1⟩)
        · exact e' (List.mem_of_getElem? e1)
      rcases e3 with e3 | e3 | e3
      · exact absurd (.inl rfl) (no _ e3)
      · exact absurd (.inr rfl) (no _ e3)
      · exact e3
    obtain ⟨m0, hn0, hl⟩ := I.loc
    have hvis : Vis X.env.scope y := (ok.free _ (PySem.mem_of_lookup hfr) rfl).elim (fun k => .inr (.inl k)) (fun k => .inr (.inr k))
    obtain ⟨w, r, q⟩ := hl i y av e1 e2 hvis
    refine ⟨w, r, .inr ⟨.inr (by show cenv.scope.names.lookup y = _; rw [hsc]; exact hfr), ?_⟩⟩
    obtain ⟨c, h1, h2⟩ := look hfr
    rcases q with ⟨k, _⟩ | ⟨_, c', e', z⟩
    · have k : X.env.scope.names.lookup y = some .local := k
      rcases ok.free _ (PySem.mem_of_lookup hfr) rfl with k' | k' <;> rw [show X.env.scope.names.lookup y = _ from k'] at k <;> cases k
    · rw [h2] at e'; cases e'
      exact ⟨c, h1, z.keeps kp⟩
  · have e : cenv.cells.lookup y = some c := e
    obtain ⟨w, z⟩ := I.cell y c (mem e).1
    exact ⟨w, z.keeps kp⟩
  · show H cenv.locals = none
    rw [hL]; exact I.hok.fresh (Nat.le_refl _)
  · have e : cenv.cells.lookup y = some c := e
    exact I.freeC y c (mem e).1
  · have hp : p ∈ pn := by
      have : p ∈ pn ++ [] := hp
      simpa using this
    obtain ⟨h1, h2, h3⟩ := hpn p hp
    obtain ⟨y1, y2, y3⟩ := young p.1 h2
    exact ⟨h1, y1, y2, y3, h3⟩
/-- the same heap -/
theorem inv_same {s' : Shared} (I : Inv X pins σ H s) (hh : s'.heap = s.heap) (ho : s'.os = s.os) (hb : AllBare s'.gens) : Inv X pins σ H s' := by
  obtain ⟨h, g, d, t, o⟩ := s'
  have e1 : h = s.heap := hh
  have e2 : o = s.os := ho
  subst e1 e2
  exact ⟨I.ok, I.os, hb, I.base, I.loc, I.cell, I.free, I.freeC, I.pin, I.hok, I.len⟩
/-- from the generator's frame back to the def's -/
theorem back {A' : Around} {s4 s' : Shared} {H4 H' : Hp} {cenv : Env} {fp : List Addr} {pn : List (Addr × Obj)} {σ' : L2.St} {pins' : List (Addr × Obj)} (I : Inv X pins σ H4 s4) (J : Inv (gcx X A' s4 H4 cenv fp pn) pins' σ' H' s') (hfp : ∀ b ∈ fp, FpOk X pins H4 b) : Inv X pins σ H' s' :=
  I.call' (ch := fp) J.os J.base J.hok J.bare fun b hb => let ⟨_, h1, _, h3, h4, h5⟩ := hfp b hb; ⟨h3, h1, h4, h5⟩
end

/-- at the end: all items passed -/
def REnd (X : Cx) (σw : L2.St) (al : Bool) (Q : Bool → Hp → Prop) : GenEnd := fun _ _ r s => r = .ok .next ∧ ∃ H, Inv X [] σw H s ∧ Q al H
/-- an item's truth is handed out -/
def YOut (X : Cx) (σw : L2.St) (al : Bool) (Q : Bool → Hp → Prop) : Protocol := fun _ _ v s kap => ∃ (b : Bool) (H : Hp), v = .bool b ∧ Inv X [] σw H s ∧
  if b = al then ∀ s'', s''.heap = s.heap → s''.os = s.os → AllBare s''.gens → kap (.send .none) s'' else Q b H
section
variable {X : Cx} {A : Around} {tg iter elt : Expr} {scope : Scope} {gpos : Pos} {J : It} {fp : List Addr} {it : Addr} {tn : Nat → Heap → Prop} {g : TG} {te : TE}
theorem seg_turns (hA : A.over (.compLoop (.GeneratorExp elt [⟨tg, iter, [], 0⟩] scope gpos) 0 (.ref it) .none X.env) [] = X.A) (hc : X.calm = true) (hxe : X.xe = fun _ _ => False)
    (T : Turn X.prog X.w X.K tg J fp it tn) (stat : ∀ H' : Hp, (∀ b ∈ fp, H' b = none) → ∀ b ∈ fp, FpOk X [] H' b) (hg : PG X tg g) (he : PE X elt te) (hco : X.env.scope.isCoroutine = false)
    {al : Bool} {vs : List Nat} {σw : L2.St} {Q : Bool → Hp → Prop} {W : Nat → Nat → Hp → Prop}
    (turn : ∀ i m H, W i m H → (J.stop i H ∧ Q al H) ∨ (J.go i H ∧ ∃ Nx : Hp → Prop, (∀ H', Nx H' → ∃ m', m' < m ∧ W (i + 1) m' H') ∧ ∀ x H', J.yld i H x H' → g x σw H' fun σ2 H2 => wipe σ2 vs = σw ∧ te σ2 H2 fun y H3 => ∃ b, y = .bl b ∧ if b = al then Nx H3 else Q b H3)) :
    ∀ (n m i : Nat) (H : Hp) (s₀ s : Shared), m < n → Inv X [] σw H s → tn i s.heap → (∀ b ∈ fp, H b = none) → W i m H →
      Seg (model X.prog X.w) A (REnd X σw al Q) (YOut X σw al Q) n s₀
        (.compLoop (.GeneratorExp elt [⟨tg, iter, [], 0⟩] scope gpos) 0 (.ref it) .none X.env)
        ((model X.prog X.w).den (.compLoop (.GeneratorExp elt [⟨tg, iter, [], 0⟩] scope gpos) 0 (.ref it) .none X.env)) [] s := by
  have nox : ∀ {e : Value} {s' : Shared}, X.xe e s' → False := fun {e s'} h => by rw [hxe] at h; exact h
  intro n
  induction n with
  | zero => intro m i H s₀ s hm; omega
  | succ n ih =>
    intro m i H s₀ s hmn I st fr w
    show Seg _ A _ _ _ s₀ _ ((compTurn (.GeneratorExp elt [⟨tg, iter, [], 0⟩] scope gpos) 0 (.ref it) .none X.env).onRaise (leaving X.env)) [] s
    rw [compTurn_gen, Sem.onRaise_eq_wrap]
    refine seg_bind_wrap (wpAny_standAt ?_)
    rcases turn i m H w with ⟨hstop, hq⟩ | ⟨hgo, Nx, hN, step⟩
    · refine seg_bind_wrap ?_
      rw [hA]
      refine wpAny_mono (T.done X rfl rfl rfl hc i [] s σw H (fun _ _ => False) I (stat H fr) st hstop) (fun r s1 ⟨hr, I1⟩ => ?_) (fun _ _ z => False.elim z)
      subst hr
      exact seg_end (.ok .next) ⟨rfl, H, I1, hq⟩
    · refine seg_bind_wrap ?_
      rw [hA]
      refine wpAny_mono (T.item X rfl rfl rfl hc i [] s σw H (fun _ _ => False) I (stat H fr) st hgo) (fun r s1 ⟨u, hr, h4⟩ => ?_) (fun _ _ z => False.elim z)
      subst hr
      refine seg_bind_wrap ?_
      rw [hA]
      refine wpAny_mono h4 (fun _ s2 ⟨x, H2, I2, r2, y2, st2, fr2⟩ => ?_) (fun _ _ z => False.elim z)
      have I2' := I2.pinned (stat H2 fr2) (T.obj _ _ st2)
      refine seg_bind_wrap ?_
      rw [hA]
      refine wpAny_mono (hg.run _ s2 σw H2 x u _ I2' r2 (step x H2 y2)) (fun _ s3 ⟨σ3, H3, I3, hw, q3⟩ => ?_) (fun _ _ z => (nox z).elim)
      refine seg_bind_wrap ?_
      rw [List.forIn_nil]
      refine wpAny_pure ?_
      simp only [if_true]
      have hy : ∀ v, yieldOut X.env v = yieldValue v := fun v => by simp only [yieldOut, hco, Bool.false_eq_true, if_false]
      simp only [hy]
      rw [Sem.bind_eq_wrap', Sem.bind_eq_wrap', Sem.wrap_wrap, Sem.wrap_wrap]
      refine seg_wrap ?_
      rw [hA]
      refine wpAny_mono (he.run _ s3 σ3 H3 _ I3 q3) (fun y s4 ⟨v, H4, I4, r4, b, hv, q4⟩ => ?_) (fun _ _ z => (nox z).elim)
      subst hv
      have r4 : y = Value.bool b := r4
      subst r4
      have keep : ∀ b ∈ fp, ∀ o, s2.heap.get? b = some o → s4.heap.get? b = some o := fun b hb o e => (I4.pin (b, o) (List.mem_append_right _ (List.mem_append_right _ (mem_pinsAt hb e)))).1
      have st4 := T.keep _ _ _ st2 keep
      have fr4 : ∀ b ∈ fp, H4 b = none := fun b hb => by
        obtain ⟨o, e, d⟩ := T.obj _ _ st2 b hb
        exact (I4.pin (b, o) (List.mem_append_right _ (List.mem_append_right _ (mem_pinsAt hb e)))).2.1
      have I5 : Inv X [] σw H4 s4 := by
        have I6 := I4.unpinned
        refine I6.weak (by rw [← hw, wipe_length]) fun i v e => ?_
        rw [← hw] at e
        exact (wipe_some e).1
      refine seg_at (seg_yield rfl rfl rfl ⟨b, H4, rfl, I5, ?_⟩)
      by_cases hb : b = al
      · rw [if_pos hb] at q4 ⊢
        obtain ⟨m', hm', w'⟩ := hN H4 q4
        intro s'' hh ho hba
        have I7 := inv_same I5 hh ho hba
        refine seg_again rfl (ih m' (i + 1) H4 s'' s'' (by omega) I7 (by rw [hh]; exact st4) fr4 w')
      · rw [if_neg hb] at q4 ⊢
        exact q4
end

section
variable {X : Cx} {A : Around} {tg iter elt : Expr} {scope : Scope} {gpos : Pos} {J : It} {fp : List Addr} {it : Addr} {tn : Nat → Heap → Prop}
theorem seg_begin {al : Bool} {σw : L2.St} {Q : Bool → Hp → Prop} {n : Nat} {s₀ s : Shared} (T : Turn X.prog X.w X.K tg J fp it tn) (st : tn 0 s.heap)
    (loop : Seg (model X.prog X.w) A (REnd X σw al Q) (YOut X σw al Q) n s₀
        (.compLoop (.GeneratorExp elt [⟨tg, iter, [], 0⟩] scope gpos) 0 (.ref it) .none X.env)
        ((model X.prog X.w).den (.compLoop (.GeneratorExp elt [⟨tg, iter, [], 0⟩] scope gpos) 0 (.ref it) .none X.env)) [] s) :
    Seg (model X.prog X.w) A (REnd X σw al Q) (YOut X σw al Q) n s₀
        (.compStart (.GeneratorExp elt [⟨tg, iter, [], 0⟩] scope gpos) 0 (.ref it) .none X.env)
        ((model X.prog X.w).den (.compStart (.GeneratorExp elt [⟨tg, iter, [], 0⟩] scope gpos) 0 (.ref it) .none X.env)) [] s := by
  show Seg _ A _ _ _ s₀ _ ((compStart (.GeneratorExp elt [⟨tg, iter, [], 0⟩] scope gpos) 0 (.ref it) .none X.env).onRaise (leaving X.env)) [] s
  unfold compStart
  rw [Sem.onRaise_eq_wrap]
  show Seg _ A _ _ _ s₀ _ ((ask >>= _).wrap _ _ _ _) [] s
  refine seg_bind_wrap (wpAny_askSetting ?_)
  split
  · exact seg_again rfl loop
  · first
      | exact seg_bind_wrap (wpAny_rule (seg_bind_wrap (wpAny_standAt (seg_bind_wrap (T.self _ 0 s _ _ st (seg_again rfl loop))))))
      | (refine seg_bind_wrap (wpAny_rule ?_); show Seg _ A _ _ _ s₀ _ ((standAt iter.pos >>= _).wrap _ _ _ _) [] s; exact seg_bind_wrap (wpAny_standAt (seg_bind_wrap (T.self _ 0 s _ _ st (seg_again rfl loop)))))

/-- the generator at a, asleep -/
def Asleep (X : Cx) (A : Around) (σw : L2.St) (al : Bool) (Q : Bool → Hp → Prop) (a : Addr) (g n : Nat) (s : Shared) : Prop :=
  s.heap.IsGen a g ∧ s.heap.NoLimit ∧ ∃ gs, s.gens[g]? = some gs ∧ gs.Goes (model X.prog X.w) A (REnd X σw al Q) (YOut X σw al Q) n (.send .none) (s.setGen g .running)

theorem next_gx {al : Bool} {σw : L2.St} {Q : Bool → Hp → Prop} {a : Addr} {g n : Nat} {s : Shared} {R : Option Value → Shared → Prop} {E : Value → Shared → Prop} (hh : A.handled = none) (hd : A.depth < recursionLimit)
    (hpn : ∀ {H s'}, Inv X [] σw H s' → s'.heap.IsGen a g)
    (z : Asleep X A.in1 σw al Q a g n s)
    (hend : ∀ H s', Inv X [] σw H s' → Q al H → R none s')
    (hout : ∀ H s', Inv X [] σw H s' → Q (!al) H → R (some (.bool (!al))) s')
    (hgo : ∀ n' s', n' < n → (∃ H, Inv X [] σw H s') → Asleep X A.in1 σw al Q a g n' s' → R (some (.bool al)) s') : wpAny (model X.prog X.w) A (pyNext (.ref a)) R E s := by
  obtain ⟨hg, hl, gs, hgs, hgo'⟩ := z
  have hgl : g < s.gens.size := (Array.getElem?_eq_some_iff.mp hgs).1
  refine wpAny_gsz (n := g + 1) hgl (wpAny_pyNext_genexpQ (A := A) (n := n) (P := fun _ _ s => ∃ H, Inv X [] σw H s ∧ Q al H) hh hl hd hg hgs hgo' (fun v s₁ gs' hbare hv hsz => ?_) (fun s₁ hp h' hk hsz => ?_))
  · obtain ⟨b, H, rfl, I, hb⟩ := hv
    have I2 : Inv X [] σw H (s₁.setGen g gs') := inv_same I rfl rfl (allBare_setGen I.bare hbare)
    have hsz1 : g < s₁.gens.size := by
      have q : (s₁.setGen g gs').gens.size = s₁.gens.size := setGen_size _ _ _
      have hsz' : g + 1 ≤ (s₁.setGen g gs').gens.size := hsz
      omega
    by_cases e : b = al
    · rw [if_pos e] at hb
      subst e
      cases n with
      | zero => exact (hb s₁ rfl rfl I.bare).elim
      | succ m =>
        refine hgo m _ (Nat.lt_succ_self m) ⟨H, I2⟩ ⟨hpn I2, I2.nolimit, gs', setGen_at hsz1, ?_⟩
        exact hb ((s₁.setGen g gs').setGen g .running) rfl rfl (allBare_setGen I2.bare rfl)
    · rw [if_neg e] at hb
      have e2 : b = !al := by cases b <;> cases al <;> simp_all
      subst e2
      exact hout H _ I2 hb
  · obtain ⟨H, I, hq⟩ := hp
    have I2 : Inv X [] σw H { s₁.setGen g .finished with heap := h' } := by
      have I3 : Inv X [] σw H (s₁.setGen g .finished) := inv_same I rfl rfl (allBare_setGen I.bare rfl)
      exact I3.kept (t' := s₁.toks) hk
    exact hend H _ I2 hq

theorem loop_any {R : Result → Shared → Prop} {σw : L2.St} {Q : Bool → Hp → Prop} {a : Addr} {g : Nat} (hh : A.handled = none) (hd : A.depth < recursionLimit) (hpn : ∀ {H s'}, Inv X [] σw H s' → s'.heap.IsGen a g)
    (hR : ∀ b H s', Inv X [] σw H s' → Q b H → R (.ok (.ret (.bool b))) s') : ∀ (n : Nat) (s : Shared), Asleep X A.in1.in1 σw false Q a g n s → codeAny (model X.prog X.w) A (.builtin "any.loop" ⟨[.ref a], []⟩) R s := by
  intro n
  induction n using Nat.strongRecOn with
  | ind n ih =>
    intro s z
    refine codeAny_builtin F.entry_any_loop ?_
    rw [Around.under_plainId F.plain_any_loop _]
    show wpAny _ A.in1 (pyNext (.ref a) >>= _) _ _ s
    refine wpAny_bind (next_gx (A := A.in1) hh hd hpn z (fun H s' I q => ?_) (fun H s' I q => ?_) fun n' s' hn ⟨H, I⟩ z' => ?_)
    · exact wpAny_bind (wpAny_rule (wpAny_pure (hR false H s' I q)))
    · refine wpAny_bind (wpAny_holding (wpAny_truthy_bool ?_))
      refine wpAny_bind (wpAny_letGo ?_)
      exact wpAny_bind (wpAny_rule (wpAny_pure (hR true H s' I q)))
    · refine wpAny_bind (wpAny_holding (wpAny_truthy_bool ?_))
      refine wpAny_bind (wpAny_letGo ?_)
      exact wpAny_pure ⟨plainId_quiet F.plain_any_loop _, ih n' hn s' z'⟩
theorem loop_all {R : Result → Shared → Prop} {σw : L2.St} {Q : Bool → Hp → Prop} {a : Addr} {g : Nat} (hh : A.handled = none) (hd : A.depth < recursionLimit) (hpn : ∀ {H s'}, Inv X [] σw H s' → s'.heap.IsGen a g)
    (hR : ∀ b H s', Inv X [] σw H s' → Q b H → R (.ok (.ret (.bool b))) s') : ∀ (n : Nat) (s : Shared), Asleep X A.in1.in1 σw true Q a g n s → codeAny (model X.prog X.w) A (.builtin "all.loop" ⟨[.ref a], []⟩) R s := by
  intro n
  induction n using Nat.strongRecOn with
  | ind n ih =>
    intro s z
    refine codeAny_builtin F.entry_all_loop ?_
    rw [Around.under_plainId F.plain_all_loop _]
    show wpAny _ A.in1 (pyNext (.ref a) >>= _) _ _ s
    refine wpAny_bind (next_gx (A := A.in1) hh hd hpn z (fun H s' I q => ?_) (fun H s' I q => ?_) fun n' s' hn ⟨H, I⟩ z' => ?_)
    · exact wpAny_bind (wpAny_rule (wpAny_pure (hR true H s' I q)))
    · refine wpAny_bind (wpAny_holding (wpAny_truthy_bool ?_))
      refine wpAny_bind (wpAny_letGo ?_)
      exact wpAny_bind (wpAny_rule (wpAny_pure (hR false H s' I q)))
    · refine wpAny_bind (wpAny_holding (wpAny_truthy_bool ?_))
      refine wpAny_bind (wpAny_letGo ?_)
      exact wpAny_pure ⟨plainId_quiet F.plain_all_loop _, ih n' hn s' z'⟩
end

/-- any (al = false), all (al = true) of a generator expression, as a reading -/
def tGx (al : Bool) (P : Addr) (wi : TI) (g : TG) (te : TE) (vs : List Nat) : TE := fun σ H Q => wi σ H fun J H1 => TabG H1 P ∧ ∀ H2, Tabbed P H1 H2 → ∃ W : Nat → Nat → Hp → Prop, (∃ m, W 0 m H2) ∧ ∀ i m H, W i m H →
  (J.stop i H ∧ Q (.bl al) H) ∨ (J.go i H ∧ ∃ Nx : Hp → Prop, (∀ H', Nx H' → ∃ m', m' < m ∧ W (i + 1) m' H') ∧ ∀ x H', J.yld i H x H' → g x (wipe σ vs) H' fun σ2 H2 => wipe σ2 vs = wipe σ vs ∧ te σ2 H2 fun y H3 => ∃ b, y = .bl b ∧ if b = al then Nx H3 else Q (.bl b) H3)
section
variable {X : Cx} {tg iter elt : Expr} {scope : Scope} {gpos : Pos} {own : List (Str × Nat)} {wi : TI} {g : TG} {te : TE} {c P : Addr} {k : Nat}
theorem resume_room {k : Nat} {A : Around} {env : Env} {it : Addr} (hr : Room (k + 1) A) : Room k (A.in1.in1.over (.compLoop (.GeneratorExp elt [⟨tg, iter, [], 0⟩] scope gpos) 0 (.ref it) .none env) []) :=
  ⟨hr.hd, by have := hr.dp; show A.depth + 0 + 1 + 3 * k + 5 < _; omega, by have := hr.un; show A.units + 1 + 1 + 0 + 3 + 16 * k + 200 < _; omega⟩
theorem resume_frames {A : Around} {env : Env} {it : Addr} {fr : List Env} (h : A.frames = some fr) : (A.in1.in1.over (.compLoop (.GeneratorExp elt [⟨tg, iter, [], 0⟩] scope gpos) 0 (.ref it) .none env) []).frames = some (env :: fr) := by
  show pushEnvs [env] (pushEnvs [] A.frames) = _
  rw [h]
  rfl
theorem make_gx {al : Bool} {pins : List (Addr × Obj)} {σ : L2.St} {H : Hp} {s : Shared} {Q : VK} {Q' : Value → Shared → Prop} (hr : Room (k + 1) X.A) (TB : TabB X.base X.mg c P) (hcode : X.env.code = .ref c) (hc : X.calm = true) (hN : X.N.Nodup) (hi : PI X tg iter wi) (S : GSc X.N X.env.scope scope own)
    (hgt : ∀ (A' : Around) (s : Shared) (H : Hp) (C : Addr) (code : Value) (fp : List Addr) (pn : List (Addr × Obj)), Room k A' → PG (gcx X A' s H (genv X scope C code) fp pn) tg g)
    (he : ∀ (A' : Around) (s : Shared) (H : Hp) (C : Addr) (code : Value) (fp : List Addr) (pn : List (Addr × Obj)), Room k A' → PE (gcx X A' s H (genv X scope C code) fp pn) elt te)
    (hs : ∀ v, genFold iter X.env v = pure v) (I : Inv X pins σ H s) (h : tGx al P wi g te (own.map (·.2)) σ H Q)
    (hQ : ∀ (a : Addr) (gn n : Nat) (X' : Cx) (s5 : Shared) (H5 : Hp), X'.prog = X.prog → X'.w = X.w → s5.heap.IsGen a gn → Inv X pins σ H5 s5 → (∀ {H' s'}, Inv X' [] (wipe σ (own.map (·.2))) H' s' → s'.heap.IsGen a gn) → (∀ H' s', Inv X' [] (wipe σ (own.map (·.2))) H' s' → Inv X pins σ H' s') →
      Asleep X' X.A.in1.in1 (wipe σ (own.map (·.2))) al (fun b H => Q (.bl b) H) a gn n s5 → Q' (.ref a) s5) :
    wpAny (model X.prog X.w) X.A (eval (.GeneratorExp elt [⟨tg, iter, [], 0⟩] scope gpos) X.env) Q' X.xe s := by
  have hfree : ∀ y ∈ scope.names, y.2 = .free → ∃ c, X.env.cells.lookup y.1 = some c := fun y hy e => by
    rcases S.blk.free y hy e with k | k
    · exact I.ok.has _ (.inl k)
    · exact I.ok.has _ (.inr k)
  refine wpAny_GeneratorExp_make S.co (closure_ok hfree) S.cell S.dot S.blk.kind (by have := hr.dp; omega) ?_ hs
  refine thn (hi.run pins s σ H _ I h) fun xv s1 h1 => thn h1 fun itv s2 h2 => ?_
  obtain ⟨it, fp, tn, J, H2, e, I2, T, st2, f2, ⟨ps, hP, ht⟩, q⟩ := h2
  subst e
  refine ⟨I2.nolimit, ?_⟩
  have hPs : s2.heap.get? P = some { cls := .none, data := .fields ps } := I2.hok P _ hP
  have cd : PySem.W.CodeHd s2.heap c P := TB.code.keeps fun b u e => I2.bk b u e
  have cont : ∀ (code : Value) (h3 : Heap) (tk : Nat) (ps' : Array Value), Heap.ExtBut P s2.heap h3 → s2.heap.objs.size ≤ h3.objs.size → h3.get? P = some { cls := .none, data := .fields ps' } → (∃ more, ps' = ps ++ more) → TriplesOk ps'.toList →
      wpAny (model X.prog X.w) X.A (builtinsFor X.env.globals X.env.builtins) (fun bi s₄ =>
        ∀ h', h'.Ns s₄.heap.objs.size (fun y => if y = ".0" then some (Value.ref it) else none) → Heap.SameBut s₄.heap.objs.size (s₄.heap.push { cls := .type "frame", data := .dict #[] }) h' →
          Q' (.ref h'.objs.size) { s₄ with
            gens := s₄.gens.push (.fresh (.compStart (.GeneratorExp elt [⟨tg, iter, [], 0⟩] scope gpos) 0 (.ref it) .none (genEnv scope (cloFrom X.env.cells scope.names []) s₄.heap.objs.size code bi X.env))),
            toks := s₄.toks + 1 + 1 + 1,
            heap := h'.push { cls := .type "generator", data := .fields #[.int s₄.gens.size 0, .str "<genexpr>" (s₄.toks + 1), .str (X.env.qual ++ "<genexpr>") (s₄.toks + 1 + 1)] } }) X.xe { s2 with heap := h3, toks := tk } := by
    intro code h3 tk ps' hx hsz hP3 hmore ht3
    obtain ⟨bm, ob, e1, e2, e3, e4, e5, e6, e7, e8⟩ := TB.bm
    have keep3 : ∀ b u, b ≠ P → s2.heap.get? b = some u → h3.get? b = some u := fun b u hb e => hx b u hb e
    refine wpAny_builtinsFor (m := X.mg) (by rw [I2.ok.glob]; exact (I2.mod.glob.keeps I2.bk).extBut hx TB.gP) e1 e2 (keep3 _ _ e4 (I2.bk _ _ e5)) e6 e7 e8 ?_
    obtain ⟨more, em⟩ := hmore
    -- the def's own invariant behind the code's table
    have I4 : Inv X pins σ (upd H2 P (.tbl (ps ++ more))) { s2 with heap := h3, toks := tk } := by
      have J4 := inv_tab (more := more) (h' := h3) (g' := s2.gens) (d' := s2.drawn) (t' := tk) I2 hP keep3 (by rw [← em]; exact hP3) I2.bare
      exact J4
    have hTab : Tabbed P H2 (upd H2 P (.tbl (ps ++ more))) := ⟨⟨ps ++ more, upd_same, by rw [← em]; exact ht3⟩, fun b hb => upd_ne hb⟩
    obtain ⟨W, ⟨m0, w0⟩, turn⟩ := q _ hTab
    have fp4 : ∀ b ∈ fp, FpOk X pins (upd H2 P (.tbl (ps ++ more))) b := fun b hb => by
      obtain ⟨f0, f1⟩ := f2 b hb
      refine ⟨?_, f1⟩
      rw [upd_ne (fun z => by rw [z, hP] at f0; cases f0)]
      exact f0
    have st4 : tn 0 h3 := T.keep _ _ _ st2 fun b hb o e => keep3 b o (fun z => by have f0 := (f2 b hb).1; rw [z, hP] at f0; cases f0) e
    have lt4 : ∀ b ∈ fp, b < h3.objs.size := fun b hb => by
      obtain ⟨o, e, _⟩ := T.obj _ _ st4 b hb
      exact Heap.lt_size e
    intro h' hn hsb
    have sz' : h'.objs.size = h3.objs.size + 1 := by rw [hsb.1, Heap.size_push]
    have kp' : ∀ b o, h3.get? b = some o → h'.get? b = some o := fun b o e => hsb.extBut b o (Nat.ne_of_lt (Heap.lt_size e)) (Heap.get?_push_of_some _ e)
    generalize hgo : ({ cls := .type "generator", data := .fields #[.int s2.gens.size 0, .str "<genexpr>" (tk + 1), .str (X.env.qual ++ "<genexpr>") (tk + 1 + 1)] } : Obj) = go
    have kp5 : ∀ b o, h3.get? b = some o → (h'.push go).get? b = some o := fun b o e => Heap.get?_push_of_some _ (kp' b o e)
    have bare5 : AllBare (s2.gens.push (.fresh (.compStart (.GeneratorExp elt [⟨tg, iter, [], 0⟩] scope gpos) 0 (.ref it) .none (genEnv scope (cloFrom X.env.cells scope.names []) h3.objs.size code builtinsNs X.env)))) := AllBare.push I2.bare rfl
    have gotA : (h'.push go).get? h'.objs.size = some go := by
      subst hgo
      exact Heap.get?_push_size _ rfl
    have isg : ∀ {hh : Heap}, hh.get? h'.objs.size = some go → hh.IsGen h'.objs.size s2.gens.size := fun {hh} e => by
      subst hgo
      exact ⟨_, _, _, e, rfl, rfl, rfl⟩
    have I5 : Inv X pins σ (upd H2 P (.tbl (ps ++ more))) { s2 with heap := h'.push go, gens := s2.gens.push (.fresh (.compStart (.GeneratorExp elt [⟨tg, iter, [], 0⟩] scope gpos) 0 (.ref it) .none (genEnv scope (cloFrom X.env.cells scope.names []) h3.objs.size code builtinsNs X.env))), toks := tk + 1 + 1 + 1 } := by
      have I6 := I4.kept (t' := tk + 1 + 1 + 1) (h' := h'.push go) kp5
      exact inv_same I6 rfl rfl bare5
    have J5 := start (X := X) (s := { s2 with heap := h3, toks := tk }) (A' := X.A.in1.in1.over (.compLoop (.GeneratorExp elt [⟨tg, iter, [], 0⟩] scope gpos) 0 (.ref it) .none (genv X scope h3.objs.size code)) []) (code := code) (h' := h'.push go) (tk := tk + 1 + 1 + 1) (pn := [(h'.objs.size, go)]) I4 S hN
      (fun b hb => ⟨fp4 b hb, lt4 b hb⟩) hr.hd (resume_frames I2.ok.frames) (hn.push go) kp5 bare5 (fun p hp => by
        rw [List.mem_singleton.mp hp]
        refine ⟨gotA, by show h3.objs.size < h'.objs.size; omega, fun v q => ?_⟩
        subst hgo
        cases q)
    have hRm : Room k (X.A.in1.in1.over (.compLoop (.GeneratorExp elt [⟨tg, iter, [], 0⟩] scope gpos) 0 (.ref it) .none (genv X scope h3.objs.size code)) []) := resume_room hr
    refine hQ h'.objs.size s2.gens.size (m0 + 1) (gcx X (X.A.in1.in1.over (.compLoop (.GeneratorExp elt [⟨tg, iter, [], 0⟩] scope gpos) 0 (.ref it) .none (genv X scope h3.objs.size code)) []) { s2 with heap := h3, toks := tk } (upd H2 P (.tbl (ps ++ more))) (genv X scope h3.objs.size code) fp [(h'.objs.size, go)]) _ _ rfl rfl (isg gotA) I5 (fun {H' s'} J => isg (J.pin (h'.objs.size, go) (List.mem_append_left _ (List.mem_singleton.mpr rfl))).1) (fun H' s' J => back I4 J fp4) ⟨isg gotA, I5.nolimit, _, Array.getElem?_push_size .., rfl, ?_⟩
    have J6 := inv_same (s' := ({ s2 with heap := h'.push go, gens := s2.gens.push (.fresh (.compStart (.GeneratorExp elt [⟨tg, iter, [], 0⟩] scope gpos) 0 (.ref it) .none (genEnv scope (cloFrom X.env.cells scope.names []) h3.objs.size code builtinsNs X.env))), toks := tk + 1 + 1 + 1 } : Shared).setGen s2.gens.size .running) J5 rfl rfl (allBare_setGen bare5 rfl)
    have st6 : tn 0 (h'.push go) := T.keep _ _ _ st4 fun b _ o e => kp5 b o e
    refine seg_begin (X := gcx X _ _ _ _ fp [(h'.objs.size, go)]) T st6 ?_
    refine seg_turns (X := gcx X _ _ _ _ fp [(h'.objs.size, go)]) (vs := own.map (·.2)) (W := W) rfl hc rfl T (fun H' hH b hb => ?_) (hgt _ _ _ _ _ _ _ hRm) (he _ _ _ _ _ _ _ hRm) S.co turn (m0 + 1) m0 0 _ _ _ (Nat.lt_succ_self _) J6 st6 (fun b hb => (fp4 b hb).1) w0
    refine ⟨hH b hb, J5.ok.exf b hb |>.1, J5.ok.exfs b hb, .inl hb, (J5.ok.exf b hb).2, fun p hp => ?_⟩
    have hp2 : p ∈ [(h'.objs.size, go)] := by
      have hp3 : p ∈ [(h'.objs.size, go)] ++ [] := hp
      simpa using hp3
    rw [List.mem_singleton.mp hp2]
    have := lt4 b hb
    exact Nat.ne_of_gt (by show b < h'.objs.size; rw [sz']; exact Nat.lt_succ_of_lt this)
  cases hf : codeAmong gpos ps.toList with
  | none =>
    refine wpAny_genexprCodeX hcode (cd.code hPs ht) (cd.tab hPs) hf fun c' h' tk hx hge hlt hco' _ htab' _ => ?_
    obtain ⟨o1, vs, f1, tf, fl, tg', inF, tx, tt, op, _, _, _, _, _, _, _, _, _, htr, _⟩ := hco'
    exact cont _ h' tk _ hx (Nat.le_trans hge (Nat.le_of_lt hlt)) htab'.2 ⟨_, rfl⟩ htr
  | some cv =>
    refine wpAny_genexprCode_hit hcode (cd.code hPs ht) hf ?_
    exact cont cv s2.heap s2.toks ps (Heap.ExtBut.refl _ _) (Nat.le_refl _) hPs ⟨#[], by simp⟩ ht

variable {p pos : Pos}
theorem pe_anyG (hr : Room (k + 1) X.A) (hg : Gl X "any") (hm : X.mg "any" = none) (TB : TabB X.base X.mg c P) (hcode : X.env.code = .ref c) (hc : X.calm = true) (hN : X.N.Nodup) (hi : PI X tg iter wi) (S : GSc X.N X.env.scope scope own)
    (hgt : ∀ (A' : Around) (s : Shared) (H : Hp) (C : Addr) (code : Value) (fp : List Addr) (pn : List (Addr × Obj)), Room k A' → PG (gcx X A' s H (genv X scope C code) fp pn) tg g)
    (he : ∀ (A' : Around) (s : Shared) (H : Hp) (C : Addr) (code : Value) (fp : List Addr) (pn : List (Addr × Obj)), Room k A' → PE (gcx X A' s H (genv X scope C code) fp pn) elt te)
    (hs : ∀ v, genFold iter X.env v = pure v := by intro _; rfl)
    (hst : starEach [.GeneratorExp elt [⟨tg, iter, [], 0⟩] scope gpos] X.env = (false, eval (.GeneratorExp elt [⟨tg, iter, [], 0⟩] scope gpos) X.env) :: starEach [] X.env := by rfl) :
    PE X (.Call (.Name "any" p) [.GeneratorExp elt [⟨tg, iter, [], 0⟩] scope gpos] [] pos) (tGx false P wi g te (own.map (·.2))) := by
  refine ⟨fun pins s σ H Q I h => ?_⟩
  refine wpAny_Call_Name_kw (ld_blt I hg hm boot_any ?_)
  refine PyProof.Rows.callWith_builtin1 ?_ hst (by rfl)
  rw [hst]
  show wpAny _ _ (spliced ((false, eval (.GeneratorExp elt [⟨tg, iter, [], 0⟩] scope gpos) X.env) :: backTo pos (starEach [] X.env))) _ _ s
  refine Calls.spliced_cons (make_gx hr TB hcode hc hN hi S hgt he hs I h fun a gn n X' s5 H5 e1 e2 hgen I5 hpn hbk z => ?_)
  refine Calls.spliced_nil ?_
  refine call_function_tree F.kind_any F.plain_any F.entry_any (F.args_any1 _) ?_
  unfold Builtin.«any»
  refine wpAny_bind (m := oneArg "any" _) (wpAny_pure ?_)
  refine wpAny_bind (wpAny_pyIter_gen hgen ?_)
  have L := loop_any (X := X') (A := X.A) (R := fun r s' => match r with | .ok (.ret u) => EP X pins σ Q u s' | .ok _ => False | .error e => X.xe e s') (σw := wipe σ (own.map (·.2))) (Q := fun b H => Q (.bl b) H) (a := a) (g := gn) hr.hd (by have := hr.dp; omega) hpn
    (fun b H' s' J q => ⟨.bl b, H', hbk _ _ J, rfl, q⟩) n s5 z
  rw [e1, e2] at L
  exact wpAny_pure ⟨plainId_quiet F.plain_any_loop _, codeAny_mono L fun r s' hq => hq⟩
theorem boot_all0 : bootBuiltins "all" = some (.builtin "all") := by decide +kernel
theorem pe_allG (hr : Room (k + 1) X.A) (hg : Gl X "all") (hm : X.mg "all" = none) (TB : TabB X.base X.mg c P) (hcode : X.env.code = .ref c) (hc : X.calm = true) (hN : X.N.Nodup) (hi : PI X tg iter wi) (S : GSc X.N X.env.scope scope own)
    (hgt : ∀ (A' : Around) (s : Shared) (H : Hp) (C : Addr) (code : Value) (fp : List Addr) (pn : List (Addr × Obj)), Room k A' → PG (gcx X A' s H (genv X scope C code) fp pn) tg g)
    (he : ∀ (A' : Around) (s : Shared) (H : Hp) (C : Addr) (code : Value) (fp : List Addr) (pn : List (Addr × Obj)), Room k A' → PE (gcx X A' s H (genv X scope C code) fp pn) elt te)
    (hs : ∀ v, genFold iter X.env v = pure v := by intro _; rfl)
    (hst : starEach [.GeneratorExp elt [⟨tg, iter, [], 0⟩] scope gpos] X.env = (false, eval (.GeneratorExp elt [⟨tg, iter, [], 0⟩] scope gpos) X.env) :: starEach [] X.env := by rfl) :
    PE X (.Call (.Name "all" p) [.GeneratorExp elt [⟨tg, iter, [], 0⟩] scope gpos] [] pos) (tGx true P wi g te (own.map (·.2))) := by
  refine ⟨fun pins s σ H Q I h => ?_⟩
  refine wpAny_Call_Name_kw (ld_blt I hg hm boot_all0 ?_)
  refine PyProof.Rows.callWith_builtin1 ?_ hst (by rfl)
  rw [hst]
  show wpAny _ _ (spliced ((false, eval (.GeneratorExp elt [⟨tg, iter, [], 0⟩] scope gpos) X.env) :: backTo pos (starEach [] X.env))) _ _ s
  refine Calls.spliced_cons (make_gx hr TB hcode hc hN hi S hgt he hs I h fun a gn n X' s5 H5 e1 e2 hgen I5 hpn hbk z => ?_)
  refine Calls.spliced_nil ?_
  refine call_function_tree F.kind_all F.plain_all F.entry_all (F.args_all1 _) ?_
  unfold Builtin.«all»
  refine wpAny_bind (m := oneArg "all" _) (wpAny_pure ?_)
  refine wpAny_bind (wpAny_pyIter_gen hgen ?_)
  have L := loop_all (X := X') (A := X.A) (R := fun r s' => match r with | .ok (.ret u) => EP X pins σ Q u s' | .ok _ => False | .error e => X.xe e s') (σw := wipe σ (own.map (·.2))) (Q := fun b H => Q (.bl b) H) (a := a) (g := gn) hr.hd (by have := hr.dp; omega) hpn
    (fun b H' s' J q => ⟨.bl b, H', hbk _ _ J, rfl, q⟩) n s5 z
  rw [e1, e2] at L
  exact wpAny_pure ⟨plainId_quiet F.plain_all_loop _, codeAny_mono L fun r s' hq => hq⟩
end
end Gx
end
section
set_option Elab.async false
set_option linter.all false
set_option maxRecDepth 100000
set_option maxHeartbeats 2000000
/-! tuples whose object is known: it has no dict of its own, so that t.index, t.count may be called -/
namespace TupF
open PySem PySem.Spec PyProof.Rows L2 HT RT
/-- the tuple at a: its object has no dict -/
def NoD (K : PySem.W.Frag) (H : Hp) (a : Addr) : Prop := (∃ o u, H a = some (.frz o u) ∧ o.dict = none) ∨ ∃ o, K.lookup a = some o ∧ o.dict = none
def NewT (H : Hp) (xs : List V) (Q : VK) : Prop := ∀ p o, H p = none → o.dict = none → Q (.ref p) (upd H p (.frz o (.tup xs)))
section
variable {X : Cx} {es : List Expr} {e : Expr} {t : TA} {te : TE} {pos p p2 pos2 : Pos}
theorem laidF {pins : List (Addr × Obj)} {σ : L2.St} {H : Hp} {s : Shared} {h0 : Heap} {its : List Value} {xs : List V} {tk : Nat} (I : Inv X pins σ H { s with heap := h0, toks := tk }) (r : Vals xs its) (hz : xs.length ≤ sizeLine) :
    Inv X pins σ (upd H h0.objs.size (.frz { cls := .type "tuple", data := .seq its.toArray } (.tup xs))) { s with heap := h0.push { cls := .type "tuple", data := .seq its.toArray }, toks := tk } := by
  refine I.laid (t' := tk) (fun b u e => Heap.get?_push_of_some _ e) (Nat.le_refl _) ?_
  exact ⟨Heap.get?_push_size _ rfl, hz, its, r, ⟨_, Heap.get?_push_size _ rfl, rfl, _, rfl⟩⟩
def tTupF (t : TA) : TE := fun σ H Q => t σ H fun xs H1 => xs.length ≤ sizeLine ∧ NewT H1 xs Q
theorem pe_tupF {x1} (h : PA X es t) : PE X (.Tuple es x1 pos) (tTupF t) := by
  refine ⟨fun pins s σ H Q I hq => ?_⟩
  refine wpAny_Tuple_spliced (thn (h.run pos pins s σ H _ I hq) fun us s1 ⟨xs, H1, I1, r, z, q⟩ => ⟨by rw [← r.length]; exact z, ?_⟩)
  have hf : H1 s1.heap.objs.size = none := I1.hok.fresh (Nat.le_refl _)
  exact ⟨.ref s1.heap.objs.size, _, laidF (s := s1) (h0 := s1.heap) (tk := s1.toks) I1 r z, rfl, q _ _ hf rfl⟩
/-- tuple(x), x a list; x a tuple: x itself -/
def rTup (K : PySem.W.Frag) : List V → Hp → VK → Prop := fun xs H Q => ∃ p ys, xs = [.ref p] ∧ ((SqL K H p ys ∧ NewT H ys Q) ∨ (SqT K H p ys ∧ Q (.ref p) H))
theorem call_tupF : CallR X (.type "tuple") (rTup X.K) := by
  intro pins s σ H xs us Q I r h
  obtain ⟨p, ys, rfl, h⟩ := h
  obtain ⟨u, rfl, rx⟩ := vals1 r
  cases rx
  rcases h with ⟨hq, q⟩ | ⟨hq, q⟩
  · obtain ⟨its, r', pl, hz⟩ := I.list hq
    have hlen := r'.length
    refine call_tuple_list pl.isList (fun h' kp => ?_) (by simp only [List.size_toArray] <;> omega)
    have I1 : Inv X pins σ H { s with heap := h', toks := s.toks } := I.kept (t' := s.toks) kp
    exact ⟨.ref h'.objs.size, _, laidF (s := s) I1 r' hz, rfl, q _ _ (I1.hok.fresh (Nat.le_refl _)) rfl⟩
  · obtain ⟨its, r', pl, hz⟩ := I.tuple hq
    exact call_tuple_same pl ⟨.ref p, H, I, rfl, q⟩
/-- t[lo:hi]: the whole of it is t itself -/
def rSlF (K : PySem.W.Frag) : V → Option Int → Option Int → Hp → VK → Prop := fun x lo hi H Q => ∃ a xs, x = .ref a ∧ SqT K H a xs ∧
  (HT.sIx xs.length 0 lo = 0 ∧ HT.sIx xs.length xs.length hi = xs.length → Q (.ref a) H) ∧ (¬ (HT.sIx xs.length 0 lo = 0 ∧ HT.sIx xs.length xs.length hi = xs.length) → NewT H (cutV xs lo hi) Q)
theorem sl_tupF : SlR X (rSlF X.K) := by
  intro pins s σ H x v vl vu lo hi sl Q I rx hs pl pu h
  obtain ⟨a, xs, rfl, hx, q1, q2⟩ := h
  cases rx
  obtain ⟨its, r, ht, hz⟩ := I.tuple hx
  have hlen : its.toArray.size = xs.length := by rw [List.size_toArray]; exact r.length.symm
  refine ⟨"tuple", _, PyProof.Rows.slot_tuple_getitem.lookup, ht.typeIs, ?_⟩
  by_cases hw : HT.sIx xs.length 0 lo = 0 ∧ HT.sIx xs.length xs.length hi = xs.length
  · exact getItem_tuple_whole ht hs pl pu (by rw [hlen]; exact hw) ⟨.ref a, H, I, rfl, q1 hw⟩
  · refine HT.getItem_tuple_cut ht hs pl pu (by rw [hlen]; exact hw) ?_ (by rw [hlen]; exact hz)
    rw [hlen]
    exact ⟨.ref s.heap.objs.size, _, laidF (s := s) (h0 := s.heap) (tk := s.toks) I ((r.drop (HT.sIx xs.length 0 lo)).take (HT.sIx xs.length xs.length hi - HT.sIx xs.length 0 lo)) (Nat.le_trans (cutV_length xs lo hi) hz), rfl, q2 hw _ _ (I.hok.fresh (Nat.le_refl _)) rfl⟩
/-- t + u -/
def rCatF (K : PySem.W.Frag) : R2 := fun x y H Q => ∃ a b xs ys, x = .ref a ∧ y = .ref b ∧ SqT K H a xs ∧ SqT K H b ys ∧ xs.length + ys.length ≤ sizeLine ∧
  (xs = [] → Q (.ref b) H) ∧ (xs ≠ [] → ys = [] → Q (.ref a) H) ∧ (xs ≠ [] → ys ≠ [] → NewT H (xs ++ ys) Q)
theorem op_catF : OpR X (binaryOp .Add) (rCatF X.K) := by
  intro pins s σ H x y v u Q I rx ry h
  obtain ⟨a, b, xs, ys, rfl, rfl, ha, hb, hz, q0, q1, q2⟩ := h
  cases rx
  cases ry
  obtain ⟨its, r1, p1, _⟩ := I.tuple ha
  obtain ⟨its2, r2, p2, _⟩ := I.tuple hb
  by_cases hx : xs = []
  · subst hx
    cases r1
    exact cat_tup0 p1 p2 ⟨.ref b, H, I, rfl, q0 rfl⟩
  · refine HT.cat_tup p1 p2 (fun z => hx (r1.nil_iff.mp z)) (fun z => ⟨.ref a, H, I, rfl, q1 hx (r2.nil_iff.mp z)⟩) (fun z => ?_) (by rw [← r1.length, ← r2.length]; exact hz)
    exact ⟨.ref s.heap.objs.size, _, laidF (s := s) (h0 := s.heap) (tk := s.toks) I (r1.append r2) (by rw [List.length_append]; exact hz), rfl, q2 hx (fun w => z (r2.nil_iff.mpr w)) _ _ (I.hok.fresh (Nat.le_refl _)) rfl⟩
/-- tuple(reversed(x)), x a list: a new tuple -/
def tTupRevF (K : PySem.W.Frag) (te : TE) : TE := fun σ H Q => te σ H fun v H1 => ∃ (a : Addr) (xs : List V), v = .ref a ∧ SqL K H1 a xs ∧ NewT H1 xs.reverse Q
theorem pe_tupRevF (hc : X.calm = true) (hg : Gl X "tuple") (hm : X.mg "tuple" = none) (hg2 : Gl X "reversed") (hm2 : X.mg "reversed" = none) (he : PE X e te)
    (hs : starEach [e] X.env = (false, eval e X.env) :: starEach [] X.env := by rfl)
    (hs2 : starEach [.Call (.Name "reversed" p2) [e] [] pos2] X.env = (false, eval (.Call (.Name "reversed" p2) [e] [] pos2) X.env) :: starEach [] X.env := by rfl) :
    PE X (.Call (.Name "tuple" p) [.Call (.Name "reversed" p2) [e] [] pos2] [] pos) (tTupRevF X.K te) := by
  refine ⟨fun pins s σ H Q I h => ?_⟩
  refine Call_ (ld_blt I hg hm boot_tuple (PyProof.Rows.callWith_type1 (args_cons (Call_ (ld_blt I hg2 hm2 PyProof.Rows.boot_reversed (PyProof.Rows.callWith_type1 (args_cons (thn (he.run pins s σ H _ I h) fun u s1 ⟨v, H1, I1, r1, q1⟩ => args_nil ?_) hs) hs rfl))) hs2) hs2 rfl))
  obtain ⟨a, xs, ev, hq, q⟩ := q1
  subst ev
  obtain rfl : u = Value.ref a := r1
  obtain ⟨its, rv, p', hz⟩ := I1.list hq
  refine call_reversed_list p'.isList (args_nil ?_)
  have k0 : ∀ b o, s1.heap.get? b = some o → (s1.heap.push (revObj a ((its.toArray.size : Int) - 1))).get? b = some o := fun b o e => Heap.get?_push_of_some _ e
  have I2 : Inv X pins σ H1 { s1 with heap := s1.heap.push (revObj a ((its.toArray.size : Int) - 1)) } := I1.kept (t' := s1.toks) k0
  obtain ⟨f0, f1, f2, f3, f4, f5⟩ := I1.fpOk (H' := H1) (b := s1.heap.objs.size) (Nat.le_refl _) (I1.hok.fresh (Nat.le_refl _))
  have hl := p'.isList
  obtain ⟨ol, hol, _⟩ := id hl
  have hne : a ≠ s1.heap.objs.size := Nat.ne_of_lt (Heap.lt_size hol)
  have hn : its.toArray.size ≤ sizeLine := by rw [List.size_toArray, ← rv.length]; exact hz
  refine call_tuple_rev (s := { s1 with heap := s1.heap.push (revObj a ((its.toArray.size : Int) - 1)) }) (I1.ok.hd hc) ⟨_, Heap.get?_push_size _ rfl, rfl, rfl⟩ (hl.push _) hne hn fun h' tk acc hk hi => ?_
  have I3 : Inv X pins σ H1 { s1 with heap := h', toks := tk } := I2.turned (t' := tk) (fun b o hb e => hk b o hb e) f0 f1 f3 f4 f5
  have L := laidF (s := s1) (h0 := h') (tk := tk) (its := acc.toList) I3 (vals_rev rv hi) (by rw [List.length_reverse]; exact hz)
  rw [Array.toArray_toList] at L
  exact ⟨.ref h'.objs.size, _, L, rfl, q _ _ (I3.hok.fresh (Nat.le_refl _)) rfl⟩

/-! ### t.m(..) -/
def tTM (K : PySem.W.Frag) (r : V → List V → Hp → VK → Prop) (to : TE) (t : TA) : TE := fun σ H Q => to σ H fun x H1 => (∃ a xs, x = .ref a ∧ SqT K H1 a xs ∧ NoD K H1 a) ∧ t σ H1 fun xs H2 => r x xs H2 Q
variable {o : Expr} {to : TE} {name : Str} {apos cpos : Pos} {id : String} {r : V → List V → Hp → VK → Prop}
theorem pe_tm (pa : PlainAttrs "tuple") (slot : Slot "tuple" name id) (hty : typeOf (.builtin id) = pure (.type "method_descriptor")) (hm : MtR X id r) (ho : PE X o to) (ha : PA X (e :: es) t)
    (hbase : attributeBase o name X.env (eval o X.env) = eval o X.env := by rfl)
    (hfew : ((backTo cpos (starEach (e :: es) X.env)).all (fun x => !x.1) && (backToKw cpos (keywordEach [] X.env)).all (fun x => x.1.isSome)
      && decide ((e :: es).length + ([] : List Keyword).length + (if ([] : List Keyword).isEmpty then 0 else 1) < 30)) = true := by rfl)
    (hline : (apos.endLine == cpos.line) = true := by rfl) (hs : starEach (e :: es) X.env = (false, eval e X.env) :: starEach es X.env := by rfl) (hplain : (backTo cpos (starEach es X.env)).any (·.1) = false := by rfl) :
    PE X (.Call (.Attribute o name apos) (e :: es) [] cpos) (tTM X.K r to t) := by
  refine ⟨fun pins s σ H Q I h => ?_⟩
  refine wpAny_Call_method_late hbase hfew hline rfl (thn (ho.run pins s σ H _ I h) fun v s1 ⟨x, H1, I1, r1, ⟨a, xs, ex, hx, hd⟩, q1⟩ => ?_)
  subst ex
  obtain rfl : v = Value.ref a := r1
  obtain ⟨its, rv, ht, hz⟩ := I1.tuple hx
  have hD : ∀ b, Value.ref a = .ref b → ∃ ob, s1.heap.get? b = some ob ∧ ob.dict = none := fun b e => by
    cases e
    rcases hd with ⟨o, u, h1, h2⟩ | ⟨o, h1, h2⟩
    · exact ⟨o, (I1.hok a _ h1).1, h2⟩
    · exact ⟨o, I1.kIn a o h1, h2⟩
  refine ⟨"tuple", id, pa, slot, hty, ht.typeIs, hD, ?_⟩
  have hA := ha.run cpos pins s1 σ H1 _ I1 q1
  rw [hs] at hA ⊢
  refine Calls.callWith_builtin (by show (false || (backTo cpos (starEach es X.env)).any (·.1)) = false; rw [hplain] <;> rfl) (Calls.evalArgs_plain ?_)
  exact thn hA fun us s2 ⟨vs, H2, I2, r2, q2⟩ => hm pins s2 σ H2 (.ref a) vs (.ref a) us Q I2 rfl r2 q2
/-- t.index(x): the first place of an equal one, the items data of any depth -/
def rIndexT (K : PySem.W.Frag) : V → List V → Hp → VK → Prop := fun x xs H Q => ∃ (a : Addr) (y : V) (d : PyData) (ds : List PyData) (j : Nat) (z : PyData), x = V.ref a ∧ xs = [y] ∧ Dp K H (V.ref a) (.tuple ds) ∧ Dp K H y d ∧
  SeqAt.shaped (.tuple ds) = true ∧ SeqAt.shaped d = true ∧ ds[j]? = some z ∧ PyData.eqv z d = true ∧ (∀ (m : Nat) (z' : PyData), m < j → ds[m]? = some z' → PyData.eqv z' d = false) ∧ Q (.int (j : Nat)) H
theorem mt_indexT (hu : X.A.units + 65 < cLine) : MtR X "tuple.index" (rIndexT X.K) := by
  intro pins s σ H x xs v us Q I rx rxs h
  obtain ⟨a, y, d, ds, j, z, rfl, rfl, hl, hy, sl, sd, hz, hzj, hno, q⟩ := h
  cases rx
  cases rxs with
  | cons ry rt =>
    rename_i uy ut
    cases rt
    obtain ⟨bs, r1⟩ := Dp.reads I d y uy hy ry
    have hxs : PyData.canLayAll0 ds = true := by
      have := SeqAt.canLay_of_shaped sl
      simpa only [PyData.canLay0] using this
    have hroom : X.A.units + 1 + min (PyData.depthAll ds) d.depth < cLine := by
      have h1 := SeqAt.depth_of_shaped sd
      have h2 : min (PyData.depthAll ds) d.depth ≤ d.depth := Nat.min_le_right _ _
      omega
    cases hl with
    | tup hs ha =>
      obtain ⟨its, rv, ⟨⟨cls, dd, data, sls⟩, ho, hc, n, hdt⟩, hlen⟩ := I.tuple hs
      simp only at hc hdt
      subst hc hdt
      obtain ⟨as, h4⟩ := Dp.readsAll I ds _ its ha rv
      have hn : its.length = ds.length := SeqAt.ReadsAll.length ds its as h4
      have hmap : its.map (SeqAt.readOf s.heap) = ds := SeqAt.readsAll_map ds its as hxs h4
      obtain ⟨hjd, _⟩ := List.getElem?_eq_some_iff.mp hz
      have hjl : j < its.length := by omega
      have hj : j < its.toArray.size := by simpa using hjl
      have at_ : ∀ (m : Nat) (hm : m < its.toArray.size) (z' : PyData), ds[m]? = some z' → SeqAt.readOf s.heap its.toArray[m] = z' := by
        intro m hm z' hz'
        have hml : m < its.length := by simpa using hm
        rw [← hmap, List.getElem?_map, List.getElem?_eq_getElem hml] at hz'
        have e1 : SeqAt.readOf s.heap its[m] = z' := Option.some.inj (show some (SeqAt.readOf s.heap its[m]) = some z' from hz')
        simpa using e1
      refine call_meets PySem.F.slot_tuple_index ⟨_, ho, rfl⟩ PySem.F.entry_tuple_index (PySem.F.args_tuple_index_2 _ _)
        (TI.tuple_indexAt a its.toArray n dd sls uy (fun u => PyData.eqv (SeqAt.readOf s.heap u) d) j hj ?_ ?_) ⟨ho, SeqAt.items_eqAt (vs := its.toArray) (show ReadsAll s.heap its.toArray.toList ds as from h4) r1 hxs (SeqAt.canLay_of_shaped sd) hroom, ?_⟩
      · show PyData.eqv (SeqAt.readOf s.heap its.toArray[j]) d = true
        rw [at_ j hj z hz]
        exact hzj
      · intro m hm hmj
        have hmd : m < ds.length := by omega
        have hz' : ds[m]? = some ds[m] := List.getElem?_eq_getElem hmd
        show PyData.eqv (SeqAt.readOf s.heap its.toArray[m]) d = false
        rw [at_ m hm _ hz']
        exact hno m _ hmj hz'
      · exact ⟨.int (j : Nat), H, I.tok _, ⟨_, rfl⟩, q⟩
end
end TupF
end
section
set_option Elab.async false
set_option linter.all false
set_option maxRecDepth 100000
set_option maxHeartbeats 2000000
/-! dicts whose keys are tuples of ints and texts that are known to the object -/
namespace Dc
open PySem PySem.Spec PyProof.Rows L2
abbrev DRow := List Key × Addr × V
abbrev RowV := List Key × Addr × Value
abbrev Prs : List DRow → List RowV → Prop := Paired fun p q => p.1 = q.1 ∧ p.2.1 = q.2.1 ∧ RelV p.2.2 q.2.2
def Dok (P : Program) (w : World) (a : Addr) (kvs : List DRow) (h : Heap) : Prop :=
  kvs.length ≤ sizeLine ∧ (a == sysModules) = false ∧ ∃ xs, Prs kvs xs ∧ ∃ o es ep, h.get? a = some o ∧ o.ExactDict ∧ o.data = .dict es ep ∧ es.toList = xs.map (entryOfKey (tupleKind (mixKind P w))) ∧ (xs.map (·.1)).Nodup
def DicO (P : Program) (w : World) (a : Addr) (kvs : List DRow) : HO := .ext (Dok P w a kvs)
def valW (kvs : List DRow) (k : List Key) : Option V := (kvs.find? fun p => decide (p.1 = k)).map (·.2.2)
def putW (kvs : List DRow) (k : List Key) (b : Addr) (v : V) : List DRow := if (valW kvs k).isSome then kvs.map fun p => if p.1 = k then (p.1, p.2.1, v) else p else kvs ++ [(k, b, v)]
theorem putW_le (kvs : List DRow) (k : List Key) (b : Addr) (v : V) : (putW kvs k b v).length ≤ kvs.length + 1 := by
  unfold putW
  split <;> simp
theorem valW_pos {p : DRow} {ps : List DRow} {k : List Key} (e : p.1 = k) : valW (p :: ps) k = some p.2.2 := by
  unfold valW
  rw [List.find?_cons_of_pos (by simpa using e)]
  rfl
theorem valW_neg {p : DRow} {ps : List DRow} {k : List Key} (e : ¬ p.1 = k) : valW (p :: ps) k = valW ps k := by
  unfold valW
  rw [List.find?_cons_of_neg (by simpa using e)]
theorem Prs.val {kvs : List DRow} {xs : List RowV} (r : Prs kvs xs) (k : List Key) : RelO (valW kvs k) ((atKey xs k).map (·.2)) := by
  induction r with
  | nil => exact True.intro
  | @cons p q ps qs h t ih =>
    obtain ⟨h1, _, h2⟩ := h
    by_cases e : p.1 = k
    · have e' : q.1 = k := h1.symm.trans e
      have b : atKey (q :: qs) k = some q.2 := by simp [atKey, List.find?_cons, e']
      rw [valW_pos e, b]; exact h2
    · have e' : ¬ q.1 = k := fun z => e (h1.trans z)
      have b : atKey (q :: qs) k = atKey qs k := by simp [atKey, List.find?_cons, e']
      rw [valW_neg e, b]; exact ih
theorem Prs.repl {kvs : List DRow} {xs : List RowV} (r : Prs kvs xs) (k : List Key) {y : V} {u : Value} (ry : RelV y u) :
    Prs (kvs.map fun p => if p.1 = k then (p.1, p.2.1, y) else p) (xs.map (putAt k u)) := by
  induction r with
  | nil => exact .nil
  | @cons p q ps qs h t ih =>
    rw [List.map_cons, List.map_cons]
    refine .cons ?_ ih
    obtain ⟨h1, h2, h3⟩ := h
    unfold putAt
    by_cases e : p.1 = k
    · rw [if_pos e, if_pos (h1.symm.trans e)]; exact ⟨h1, h2, ry⟩
    · rw [if_neg e, if_neg (fun z => e (h1.trans z))]; exact ⟨h1, h2, h3⟩
theorem Prs.put {kvs : List DRow} {xs : List RowV} (r : Prs kvs xs) (k : List Key) (b : Addr) {y : V} {u : Value} (ry : RelV y u) :
    Prs (putW kvs k b y) (storedH xs k b u) := by
  have e : (valW kvs k).isSome = (atKey xs k).isSome := by
    rw [(r.val k).isSome_eq, Option.isSome_map]
  unfold putW storedH
  rw [e]
  by_cases q : (atKey xs k).isSome = true
  · rw [if_pos q, if_pos q]; exact r.repl k ry
  · rw [if_neg q, if_neg q]; exact Paired.snoc r ⟨rfl, rfl, ry⟩
def Kys (K : PySem.W.Frag) (H : Hp) (kvs : List DRow) : Prop := ∀ p ∈ kvs, SqT K H p.2.1 (p.1.map kV)
section
variable {X : Cx} {pins : List (Addr × Obj)} {σ : L2.St} {H : Hp} {s : Shared} {a b : Addr} {kvs : List DRow} {k : List Key} {A : Around} {E : Value → Shared → Prop}
theorem key_ofT (I : Inv X pins σ H s) (h : SqT X.K H b (k.map kV)) : (tupleKind (mixKind X.prog X.w)).is s.heap k b := by
  obtain ⟨its, r, ⟨o, h1, h2, n, h3⟩, _⟩ := I.tuple h
  exact ⟨o, its.toArray, n, h1, h2, h3, by simpa using items_are r⟩
theorem dok_of (I : Inv X pins σ H s) (e : H a = some (DicO X.prog X.w a kvs)) : Dok X.prog X.w a kvs s.heap := (I.hok a _ e).1
theorem dic_of (I : Inv X pins σ H s) (e : H a = some (DicO X.prog X.w a kvs)) (hk : Kys X.K H kvs) : kvs.length ≤ sizeLine ∧ (a == sysModules) = false ∧ ∃ xs, Prs kvs xs ∧ s.heap.DictOfH (tupleKind (mixKind X.prog X.w)) a xs := by
  obtain ⟨z, y, xs, r, o, es, ep, h1, h2, h3, h4, h5⟩ := dok_of I e
  refine ⟨z, y, xs, r, o, es, ep, h1, h2, h3, h4, fun x hx => ?_, h5⟩
  have all : ∀ {l : List DRow} {m : List RowV}, Prs l m → (∀ p ∈ l, SqT X.K H p.2.1 (p.1.map kV)) → ∀ x ∈ m, (tupleKind (mixKind X.prog X.w)).is s.heap x.1 x.2.1 := by
    intro l m q
    induction q with
    | nil => intro _ x hx; exact nomatch hx
    | @cons p q ps qs hq t ih =>
      intro hl x hx
      rcases List.mem_cons.mp hx with e | hx
      · subst e
        rw [← hq.1, ← hq.2.1]
        exact key_ofT I (hl p List.mem_cons_self)
      · exact ih (fun p hp => hl p (List.mem_cons_of_mem _ hp)) x hx
  exact all r hk x hx
/-- what the dict at a holds at the key y -/
def GetW (X : Cx) (H : Hp) (a : Addr) (y : V) (r : Option V) : Prop := ∃ kvs k b, H a = some (DicO X.prog X.w a kvs) ∧ Kys X.K H kvs ∧ y = .ref b ∧ SqT X.K H b (k.map kV) ∧ r = valW kvs k
variable {y v : V} {u r : Value} {o : Option V}
theorem w_getItem {Q : Value → Shared → Prop} (hu : A.units + 1 < cLine) (I : Inv X pins σ H s) (g : GetW X H a y (some v)) (ry : RelV y u) (h : ∀ w' s', Inv X pins σ H s' → RelV v w' → Q w' s') :
    wpAny (model X.prog X.w) A (getItem (.ref a) u) Q E s := by
  obtain ⟨kvs, k, b, e, hk, ey, eb, l⟩ := g
  subst ey
  cases (show u = Value.ref b from ry)
  obtain ⟨z, hd, xs, rel, dd⟩ := dic_of I e hk
  obtain ⟨w', hw, rw'⟩ := RelO.some_of (v := v) (o := (atKey xs k).map (·.2)) (by rw [l]; exact rel.val k)
  obtain ⟨p, hp, hp2⟩ := Option.map_eq_some_iff.mp hw
  refine wpAny_getItem_heap (tupleKind_room_in1 hu) (key_ofT I eb) dd hp ?_
  rw [hp2]
  exact h w' _ (I.tok _) rw'
theorem w_in {Q : Value → Shared → Prop} (hu : A.units + 1 < cLine) (I : Inv X pins σ H s) (g : GetW X H a y o) (ry : RelV y u) (h : ∀ s', Inv X pins σ H s' → Q (.bool o.isSome) s') :
    wpAny (model X.prog X.w) A (compareOp .In u (.ref a)) Q E s := by
  obtain ⟨kvs, k, b, e, hk, ey, eb, l⟩ := g
  subst ey
  cases (show u = Value.ref b from ry)
  obtain ⟨z, hd, xs, rel, dd⟩ := dic_of I e hk
  refine wpAny_in_heap (tupleKind_room_in1 hu) (key_ofT I eb) hd dd ?_
  have q := (rel.val k).isSome_eq
  rw [Option.isSome_map] at q
  rw [← q, ← l]
  exact h _ (I.tok _)
theorem w_notIn {Q : Value → Shared → Prop} (hu : A.units + 1 < cLine) (I : Inv X pins σ H s) (g : GetW X H a y o) (ry : RelV y u) (h : ∀ s', Inv X pins σ H s' → Q (.bool (!o.isSome)) s') :
    wpAny (model X.prog X.w) A (compareOp .NotIn u (.ref a)) Q E s := by
  obtain ⟨kvs, k, b, e, hk, ey, eb, l⟩ := g
  subst ey
  cases (show u = Value.ref b from ry)
  obtain ⟨z, hd, xs, rel, dd⟩ := dic_of I e hk
  refine wpAny_notIn_heap (tupleKind_room_in1 hu) (key_ofT I eb) hd dd ?_
  have q := (rel.val k).isSome_eq
  rw [Option.isSome_map] at q
  rw [← q, ← l]
  exact h _ (I.tok _)
theorem dok_stay {P : Program} {w : World} {h1 h2 : Heap} (x : Dok P w a kvs h1) (e : ∀ o, h1.get? a = some o → h2.get? a = some o) : Dok P w a kvs h2 := by
  obtain ⟨z, y, xs, r, o, es, ep, h1, h2, h3, h4, h5⟩ := x
  exact ⟨z, y, xs, r, o, es, ep, e _ h1, h2, h3, h4, h5⟩
theorem dok_new {P : Program} {w : World} {H' : Hp} {h' : Heap} (x : Dok P w a kvs h') : ObjOk P w H' h' a (DicO P w a kvs) := by
  refine ⟨x, ?_, fun h1 h2 x e => dok_stay x e⟩
  obtain ⟨z, y, xs, r, o, es, ep, h1, _⟩ := x
  exact ⟨o, h1⟩
theorem w_setItem {Q : Unit → Shared → Prop} (hu : A.units + 1 < cLine) (I : Inv X pins σ H s) (e : H a = some (DicO X.prog X.w a kvs)) (hk : Kys X.K H kvs) (eb : SqT X.K H b (k.map kV)) (hl : kvs.length < sizeLine) (rv : RelV v r)
    (h : ∀ s', Inv X pins σ (upd H a (DicO X.prog X.w a (putW kvs k b v))) s' → Q () s') :
    wpAny (model X.prog X.w) A (setItem (.ref a) (.ref b) r) Q E s := by
  obtain ⟨z, hd, xs, rel, dd⟩ := dic_of I e hk
  have hz : xs.length ≤ sizeLine := by rw [← Paired.length rel]; exact z
  have hl : (putW kvs k b v).length ≤ sizeLine := by have := putW_le kvs k b v; omega
  refine wpAny_setItem_heap (hsz := hz) (tupleKind_room_in1 hu) (key_ofT I eb) dd fun h' dd' hs => h _ ?_
  obtain ⟨q, es, ep, hq, h2, h3, h4, _, h5⟩ := dd'
  exact d_write I (by rw [e]; exact True.intro) hs ⟨q, hq⟩ (dok_new ⟨hl, hd, _, rel.put k b rv, q, es, ep, hq, h2, h3, h4, h5⟩)
theorem dic_typeIs (I : Inv X pins σ H s) (e : H a = some (DicO X.prog X.w a kvs)) (hk : Kys X.K H kvs) : s.TypeIs (.ref a) "dict" := by
  obtain ⟨_, _, xs, _, dd⟩ := dic_of I e hk
  exact dd.typeIs
end
def rInW (X : Cx) (neg : Bool) : R2 := fun y x H Q => ∃ a o, x = .ref a ∧ GetW X H a y o ∧ Q (.bl (if neg then !o.isSome else o.isSome)) H
def tGetW (X : Cx) (td ty : TE) : TE := fun σ H Q => td σ H fun x H1 => ty σ H1 fun y H2 => ∃ a v, x = .ref a ∧ GetW X H2 a y (some v) ∧ Q v H2
def sPutW (X : Cx) (td ty tv : TE) : TS := fun D σ H => tv σ H fun v H1 => td σ H1 fun x H2 => ty σ H2 fun y H3 => ∃ a b kvs k, x = .ref a ∧ y = .ref b ∧ H3 a = some (DicO X.prog X.w a kvs) ∧ Kys X.K H3 kvs ∧ SqT X.K H3 b (k.map kV) ∧ kvs.length < sizeLine ∧ D.nx σ (upd H3 a (DicO X.prog X.w a (putW kvs k b v)))
section
variable {X : Cx} {o i e value : Expr} {pos pos' tpos : Pos} {td ty tv : TE}
theorem op_inW (hu : X.A.units + 1 < cLine) : OpR X (compareOp .In) (rInW X false) := by
  intro pins s σ H x y v u Q I rx ry h
  obtain ⟨a, o, rfl, g, q⟩ := h
  obtain rfl : u = Value.ref a := ry
  exact w_in hu I g rx fun s' I' => ⟨.bl o.isSome, H, I', rfl, q⟩
theorem op_notInW (hu : X.A.units + 1 < cLine) : OpR X (compareOp .NotIn) (rInW X true) := by
  intro pins s σ H x y v u Q I rx ry h
  obtain ⟨a, o, rfl, g, q⟩ := h
  obtain rfl : u = Value.ref a := ry
  exact w_notIn hu I g rx fun s' I' => ⟨.bl (!o.isSome), H, I', rfl, q⟩
theorem pe_getW (hu : X.A.units + 1 < cLine) (ho : PE X o td) (hi : PE X i ty) (hs : NoSl i) : PE X (.Subscript o i pos) (tGetW X td ty) := by
  refine ⟨fun pins s σ H Q I h => ?_⟩
  refine subD_of PySem.F.slot_dict_getitem.lookup hs (thn (ho.run pins s σ H _ I h) fun u s1 ⟨x, H1, I1, rx, q1⟩ => thn (hi.run pins s1 σ H1 _ I1 q1) fun iv s2 ⟨y, H2, I2, ry, a, v, ex, g, q2⟩ => ?_)
  subst ex
  obtain rfl : u = Value.ref a := rx
  refine ⟨?_, w_getItem hu I2 g ry fun w' s3 I3 rw' => ⟨v, H2, I3, rw', q2⟩⟩
  obtain ⟨kvs, k, b, e, hk, _⟩ := g
  exact dic_typeIs I2 e hk
theorem ps_putW (hu : X.A.units + 1 < cLine) (ho : PE X o td) (hi : PE X i ty) (hv : PE X value tv) (hs : swapsWith value (some (.Subscript o i pos')) pos.line X.env = pure false) :
    PS X (.Assign [.Subscript o i pos'] value pos) (sPutW X td ty tv) := by
  refine ⟨fun pins s σ H D I h => ?_⟩
  refine wpAny_Assign_Subscript (thn (hv.run pins s σ H _ I h) fun r s1 ⟨v, H1, I1, rv, q1⟩ => thn (ho.run pins s1 σ H1 _ I1 q1) fun u s2 ⟨x, H2, I2, rx, q2⟩ => thn (hi.run pins s2 σ H2 _ I2 q2) fun iv s3 ⟨y, H3, I3, ry, a, b, kvs, k, ex, ey, e, hk, eb, hl, q3⟩ => ?_) hs
  subst ex ey
  obtain rfl : u = Value.ref a := rx
  obtain rfl : iv = Value.ref b := ry
  exact w_setItem hu I3 e hk eb hl rv fun s4 I4 => ⟨σ, _, I4, q3⟩
/-- {} -/
theorem pe_newW : PE X (.Dict [] [] pos) (fun _ H Q => ∀ p, H p = none → Q (.ref p) (upd H p (DicO X.prog X.w p []))) := ⟨fun pins s σ H Q I h =>
  wpAny_Dict_empty ⟨.ref s.heap.objs.size, _, I.laid (a := s.heap.objs.size) (o := DicO X.prog X.w s.heap.objs.size []) (t' := s.toks) (fun _ _ q => Heap.get?_push_of_some _ q) (Nat.le_refl _)
    (dok_new ⟨Nat.zero_le _, beq_eq_false_iff_ne.mpr (Ne.symm (Nat.ne_of_lt I.big)), [], .nil, _, #[], 0, Heap.get?_push_size _ rfl, ⟨rfl, rfl, rfl⟩, rfl, rfl, List.nodup_nil⟩), rfl, h _ (I.hok.fresh (Nat.le_refl _))⟩⟩
end
end Dc
namespace Dc
open PySem PySem.Spec PyProof.Rows L2
/-- {k: v} -/
def tDisp1 (X : Cx) (tk tv : TE) : TE := fun σ H Q => ∀ p, H p = none → tk σ (upd H p (DicO X.prog X.w p [])) fun x H1 => tv σ H1 fun y H2 => H2 p = some (DicO X.prog X.w p []) ∧ ∃ b ks, x = .ref b ∧ SqT X.K H2 b (ks.map kV) ∧ Q (.ref p) (upd H2 p (DicO X.prog X.w p [(ks, b, y)]))
theorem pe_disp1 {X : Cx} {k v : Expr} {pos : Pos} {tk tv : TE} (hu : X.A.units < cLine) (hk : PE X k tk) (hv : PE X v tv) : PE X (.Dict [some k] [v] pos) (tDisp1 X tk tv) := by
  refine ⟨fun pins s σ H Q I q => ?_⟩
  have hn := I.hok.fresh (Nat.le_refl s.heap.objs.size)
  have I1 := I.laid (a := s.heap.objs.size) (o := DicO X.prog X.w s.heap.objs.size []) (h' := s.heap.push { cls := .type "dict", data := .dict #[] }) (t' := s.toks) (fun _ _ q => Heap.get?_push_of_some _ q) (Nat.le_refl _)
    (dok_new ⟨Nat.zero_le _, beq_eq_false_iff_ne.mpr (Ne.symm (Nat.ne_of_lt I.big)), [], .nil, _, #[], 0, Heap.get?_push_size _ rfl, ⟨rfl, rfl, rfl⟩, rfl, rfl, List.nodup_nil⟩)
  rw [arm_eval_Dict, zip_pairTrees [some k] [v] X.env pos rfl rfl, dictDisplay_pairs (pairTrees [some k] [v] X.env pos) (fun z => nomatch z) (by show 1 < 17; decide)]
  refine wpAny_bind (wpAny_standAt (wpAny_bind (wpAny_subDictH (knd := tupleKind (mixKind X.prog X.w)) (Q := fun d s' => wpAny (model X.prog X.w) X.A (pure (Value.ref d)) _ X.xe s') hu (by show 1 ≤ _; decide) ?_)))
  refine pairTrees_cons_walk (thn (hk.run pins _ σ _ _ I1 (q _ hn)) fun u s2 ⟨x, H1, I2, rx, q1⟩ => thn (hv.run pins s2 σ H1 _ I2 q1) fun w2 s3 ⟨y, H2, I3, ry, e, b, ks, ex, hb, q2⟩ => pairTrees_nil_walk ?_)
  subst ex
  obtain rfl : u = Value.ref b := rx
  obtain ⟨z, hd, xs, rel, dd⟩ := dic_of I3 e (fun _ h => nomatch h)
  cases rel
  refine ⟨[(ks, b, w2)], ⟨rfl, rfl, key_ofT I3 hb, trivial⟩, dd, fun h' tk dd' hs => wpAny_pure ⟨.ref s.heap.objs.size, _, ?_, rfl, q2⟩⟩
  obtain ⟨qo, es, ep, hq, h2, h3, h4, _, h5⟩ := dd'
  exact d_write I3 (by rw [e]; exact True.intro) hs ⟨qo, hq⟩ (dok_new ⟨by show 1 ≤ sizeLine; decide, hd, _, .cons ⟨rfl, rfl, ry⟩ .nil, qo, es, ep, hq, h2, h3, h4, h5⟩)
end Dc
end
section
set_option Elab.async false
set_option linter.all false
set_option maxRecDepth 100000
set_option maxHeartbeats 2000000
/-! values as plain data over the hand layer -/
namespace Vl
open PySem PySem.Spec PyProof.Rows L2 GxR TupF Dc

/-- a class of the program: where it stands, its fields in order -/
structure ClsTab where
  at_ : Nat → Addr
  fl : Nat → List Str
structure Kx where
  K : PySem.W.Frag
  P : Program
  W : World
  cl : ClsTab
  tabs : List Addr
  /-- the object that is being made -/
  slf : Option Addr
  /-- the tables of code objects of lambdas, the name that each code object bears -/
  lams : List (Addr × Str)

mutual
inductive Rep (κ : Kx) (T F : Hp) : V → D → Prop
  | non : Rep κ T F .non .non
  | bl (b : Bool) : Rep κ T F (.bl b) (.bl b)
  | int (i : Int) : Rep κ T F (.int i) (.int i)
  | str (x : Str) {l : List Nat} : x.cps.toList = l → Rep κ T F (.str x) (.str l)
  | tup {a : Addr} {vs : List V} {ds : List D} : SqT κ.K T a vs → NoD κ.K T a → vs.length ≤ sizeLine → Reps κ T F vs ds → Rep κ T F (.ref a) (.tup ds)
  | lst {a : Addr} {vs : List V} {ds : List D} : SqL κ.K F a vs → vs.length ≤ sizeLine → Reps κ T F vs ds → Rep κ T F (.ref a) (.lst ds)
  | dic {a : Addr} {kvs : List DRow} {ds : List (D × D)} : F a = some (DicO κ.P κ.W a kvs) → RepK κ T F kvs ds → Rep κ T F (.ref a) (.dic ds)
  | ins {a dx : Addr} {c : Nat} {vs : List V} {ds : List D} : F a = some (.ins (κ.cl.at_ c) dx ((κ.cl.fl c).zip vs)) → vs.length ≤ (κ.cl.fl c).length → Reps κ T F vs ds → Rep κ T F (.ref a) (.ins c ds)
inductive Reps (κ : Kx) (T F : Hp) : List V → List D → Prop
  | nil : Reps κ T F [] []
  | cons {v : V} {vs : List V} {d : D} {ds : List D} : Rep κ T F v d → Reps κ T F vs ds → Reps κ T F (v :: vs) (d :: ds)
inductive RepK (κ : Kx) (T F : Hp) : List DRow → List (D × D) → Prop
  | nil : RepK κ T F [] []
  | cons {ns : List Int} {b : Addr} {v : V} {kvs : List DRow} {d : D} {ds : List (D × D)} : SqT κ.K T b (ns.map V.int) → NoD κ.K T b → ns.length ≤ sizeLine → Rep κ T F v d → RepK κ T F kvs ds → RepK κ T F ((ns.map Sum.inl, b, v) :: kvs) ((.tup (ns.map .int), d) :: ds)
end

def isTbl : HO → Prop
  | .tbl _ => True
  | _ => False
/-- the heap and what is shared grow -/
structure Ext (F H F' H' : Hp) : Prop where
  f : ∀ b o, F b = some o → F' b = some o
  h : ∀ b o, H b = some o → ¬ isTbl o → H' b = some o
  t : ∀ b, TabG H b → TabG H' b
  tb : ∀ b ps, H b = some (.tbl ps) → ∃ qs, H' b = some (.tbl qs)
  new : ∀ b o, F' b = some o → F b = some o ∨ H b = none
theorem Ext.refl (F H : Hp) : Ext F H F H := ⟨fun _ _ e => e, fun _ _ e _ => e, fun _ e => e, fun _ ps e => ⟨ps, e⟩, fun _ _ e => .inl e⟩
/-- what is shared lies in the heap -/
def Sub (F H : Hp) : Prop := ∀ b o, F b = some o → H b = some o ∧ ¬ isTbl o
/-- the table at P: each code object that it tells is known, and bears the name q -/
def LamS (H : Hp) (P : Addr) (q : Str) : Prop := ∃ ps : Array Value, H P = some (.tbl ps) ∧ TriplesOk ps.toList ∧ ∀ (pos : Pos) (cv : Value), codeAmong pos ps.toList = some cv → ∃ (c : Addr) (oc : Obj) (vs : Array Value) (t : Tok) (u : HO), cv = .ref c ∧ H c = some (.frz oc u) ∧ oc.data = .fields vs ∧ vs[1]? = some (.str q t)
theorem LamS.ext {H H' : Hp} {P : Addr} {q : Str} (t : LamS H P q) (e : ∀ b ps, b = P → H b = some (.tbl ps) → H' b = some (.tbl ps)) (f : ∀ b o u, H b = some (.frz o u) → H' b = some (.frz o u)) : LamS H' P q := by
  obtain ⟨ps, h1, h2, h3⟩ := t
  refine ⟨ps, e _ _ rfl h1, h2, fun pos cv hc => ?_⟩
  obtain ⟨c, oc, vs, t, u, e1, e2, e3, e4⟩ := h3 pos cv hc
  exact ⟨c, oc, vs, t, u, e1, f _ _ _ e2, e3, e4⟩
/-- tables are told -/
def Tabs (κ : Kx) (H : Hp) : Prop := (∀ P ∈ κ.tabs, TabG H P) ∧ ∀ p ∈ κ.lams, LamS H p.1 p.2 ∧ p.1 ∉ κ.tabs ∧ ∀ p' ∈ κ.lams, p'.1 = p.1 → p'.2 = p.2
theorem Ext.trans {κ : Kx} {F H F1 H1 F2 H2 : Hp} (a : Ext F H F1 H1) (b : Ext F1 H1 F2 H2) (tb : Tabs κ H) : Ext F H F2 H2 where
  f := fun c o e => b.f c o (a.f c o e)
  h := fun c o e n => b.h c o (a.h c o e n) n
  t := fun c e => b.t c (a.t c e)
  tb := fun c ps e => let ⟨qs, e2⟩ := a.tb c ps e; b.tb c qs e2
  new := fun c o e => by
    rcases b.new c o e with z | z
    · exact a.new c o z
    · refine .inr ?_
      cases q : H c with
      | none => rfl
      | some u =>
        by_cases hu : isTbl u
        · cases u with
          | tbl ps =>
            obtain ⟨_, z2⟩ := a.tb c ps q
            rw [z] at z2; cases z2
          | _ => exact hu.elim
        · rw [a.h c u q hu] at z; cases z
theorem Ext.free {κ : Kx} {F H F' H' : Hp} (a : Ext F H F' H') (tb : Tabs κ H) {c : Addr} (z : H' c = none) : H c = none := by
  cases q : H c with
  | none => rfl
  | some u =>
    by_cases hu : isTbl u
    · cases u with
      | tbl ps =>
        obtain ⟨_, z2⟩ := a.tb c ps q
        rw [z] at z2; cases z2
      | _ => exact hu.elim
    · rw [a.h c u q hu] at z; cases z

/-! ### what is held stays held -/
theorem rd_mono {F F' : Hp} (f : ∀ b o, F b = some o → ¬ isTbl o → F' b = some o) {a : Addr} {u : HO} (hu : ¬ isTbl u) (h : Rd F a u) : Rd F' a u := by
  rcases h with h | ⟨o, h⟩
  · exact .inl (f _ _ h hu)
  · exact .inr ⟨o, f _ _ h (fun z => z)⟩
/-- tuples, and what is known to its object: never written -/
def isFix : HO → Prop
  | .tup _ => True
  | .frz _ _ => True
  | _ => False
def Fx (T T' : Hp) : Prop := ∀ b o, T b = some o → isFix o → T' b = some o
theorem Fx.refl (T : Hp) : Fx T T := fun _ _ e _ => e
theorem Fx.of {F F' : Hp} (f : ∀ b o, F b = some o → ¬ isTbl o → F' b = some o) : Fx F F' := fun b o e x => f b o e fun z => by cases o <;> first | exact z.elim | exact x.elim
theorem Fx.upd {T : Hp} {a : Addr} {o : HO} (h : ∀ u, T a = some u → ¬ isFix u) : Fx T (upd T a o) := fun b u e x => by
  by_cases hb : b = a
  · rw [hb] at e; exact (h u e x).elim
  · rw [upd_ne hb]; exact e
theorem Fx.trans {A B C : Hp} (a : Fx A B) (b : Fx B C) : Fx A C := fun c o e x => b c o (a c o e x) x
theorem sqT_mono {K : PySem.W.Frag} {F F' : Hp} (f : Fx F F') {a : Addr} {xs : List V} (h : SqT K F a xs) : SqT K F' a xs := by
  rcases h with h | h
  · rcases h with h | ⟨o, h⟩
    · exact .inl (.inl (f _ _ h trivial))
    · exact .inl (.inr ⟨o, f _ _ h trivial⟩)
  · exact .inr h
theorem noD_mono {K : PySem.W.Frag} {F F' : Hp} (f : Fx F F') {a : Addr} (h : NoD K F a) : NoD K F' a := by
  rcases h with ⟨o, u, h, d⟩ | h
  · exact .inl ⟨o, u, f _ _ h trivial, d⟩
  · exact .inr h
theorem sqL_mono {K : PySem.W.Frag} {F F' : Hp} (f : ∀ b o, F b = some o → ¬ isTbl o → F' b = some o) {a : Addr} {xs : List V} (h : SqL K F a xs) : SqL K F' a xs := by
  rcases h with h | h
  · exact .inl (rd_mono f (fun z => z) h)
  · exact .inr h
mutual
theorem Rep.mono {κ : Kx} {T F T' F' : Hp} (ht : Fx T T') (hf : ∀ b o, F b = some o → ¬ isTbl o → F' b = some o) : ∀ {v : V} {d : D}, Rep κ T F v d → Rep κ T' F' v d
  | _, _, .non => .non
  | _, _, .bl b => .bl b
  | _, _, .int i => .int i
  | _, _, .str x e => .str x e
  | _, _, .tup h n z r => .tup (sqT_mono ht h) (noD_mono ht n) z (Reps.mono ht hf r)
  | _, _, .lst h z r => .lst (sqL_mono hf h) z (Reps.mono ht hf r)
  | _, _, .dic h r => .dic (hf _ _ h (fun z => z)) (RepK.mono ht hf r)
  | _, _, .ins h n r => .ins (hf _ _ h (fun z => z)) n (Reps.mono ht hf r)
theorem Reps.mono {κ : Kx} {T F T' F' : Hp} (ht : Fx T T') (hf : ∀ b o, F b = some o → ¬ isTbl o → F' b = some o) : ∀ {vs : List V} {ds : List D}, Reps κ T F vs ds → Reps κ T' F' vs ds
  | _, _, .nil => .nil
  | _, _, .cons r rs => .cons (Rep.mono ht hf r) (Reps.mono ht hf rs)
theorem RepK.mono {κ : Kx} {T F T' F' : Hp} (ht : Fx T T') (hf : ∀ b o, F b = some o → ¬ isTbl o → F' b = some o) : ∀ {vs : List DRow} {ds : List (D × D)}, RepK κ T F vs ds → RepK κ T' F' vs ds
  | _, _, .nil => .nil
  | _, _, .cons k n l r rs => .cons (sqT_mono ht k) (noD_mono ht n) l (Rep.mono ht hf r) (RepK.mono ht hf rs)
end
section
variable {κ : Kx} {F H F' H' : Hp} {v : V} {d : D}
theorem Rep.ext (r : Rep κ H F v d) (e : Ext F H F' H') : Rep κ H' F' v d := r.mono (Fx.of e.h) fun b o h _ => e.f b o h
theorem Reps.ext {vs : List V} {ds : List D} (r : Reps κ H F vs ds) (e : Ext F H F' H') : Reps κ H' F' vs ds := r.mono (Fx.of e.h) fun b o h _ => e.f b o h
/-- as it stands in the whole heap -/
theorem Rep.all (r : Rep κ H F v d) (s : Sub F H) : Rep κ H H v d := r.mono (Fx.refl _) fun b o h _ => (s b o h).1
theorem Reps.all {vs : List V} {ds : List D} (r : Reps κ H F vs ds) (s : Sub F H) : Reps κ H H vs ds := r.mono (Fx.refl _) fun b o h _ => (s b o h).1
theorem Rep.allExt (r : Rep κ H H v d) (e : Ext F H F' H') : Rep κ H' H' v d := r.mono (Fx.of e.h) fun b o h n => e.h b o h n
theorem Reps.allExt {vs : List V} {ds : List D} (r : Reps κ H H vs ds) (e : Ext F H F' H') : Reps κ H' H' vs ds := r.mono (Fx.of e.h) fun b o h n => e.h b o h n
theorem Reps.length : ∀ {vs : List V} {ds : List D}, Reps κ H F vs ds → vs.length = ds.length
  | _, _, .nil => rfl
  | _, _, .cons _ r => by rw [List.length_cons, List.length_cons, Reps.length r]
theorem Reps.get : ∀ {vs : List V} {ds : List D} {i : Nat} {d : D}, Reps κ H F vs ds → ds[i]? = some d → ∃ v, vs[i]? = some v ∧ Rep κ H F v d
  | _, _, _, _, .nil, e => by simp at e
  | _, _, 0, _, .cons r _, e => by
    simp only [List.getElem?_cons_zero, Option.some.injEq] at e
    subst e
    exact ⟨_, rfl, r⟩
  | _, _, i + 1, d, .cons _ rs, e => by
    obtain ⟨v, h1, h2⟩ := Reps.get (i := i) (d := d) rs (by simpa using e)
    exact ⟨v, by simpa using h1, h2⟩
theorem Reps.get' : ∀ {vs : List V} {ds : List D} {i : Nat} {v : V}, Reps κ H F vs ds → vs[i]? = some v → ∃ d, ds[i]? = some d ∧ Rep κ H F v d
  | _, _, _, _, .nil, e => by simp at e
  | _, _, 0, _, .cons r _, e => by
    simp only [List.getElem?_cons_zero, Option.some.injEq] at e
    subst e
    exact ⟨_, rfl, r⟩
  | _, _, i + 1, v, .cons _ rs, e => by
    obtain ⟨d, h1, h2⟩ := Reps.get' (i := i) (v := v) rs (by simpa using e)
    exact ⟨d, by simpa using h1, h2⟩
theorem Reps.append : ∀ {vs ws : List V} {ds es : List D}, Reps κ H F vs ds → Reps κ H F ws es → Reps κ H F (vs ++ ws) (ds ++ es)
  | _, _, _, _, .nil, s => s
  | _, _, _, _, .cons r rs, s => .cons r (Reps.append rs s)
theorem Reps.set : ∀ {vs : List V} {ds : List D} (i : Nat) {v : V} {d : D}, Rep κ H F v d → Reps κ H F vs ds → Reps κ H F (vs.set i v) (ds.set i d)
  | _, _, _, _, _, _, .nil => .nil
  | _, _, 0, _, _, q, .cons _ rs => .cons q rs
  | _, _, i + 1, _, _, q, .cons r rs => .cons r (Reps.set i q rs)
theorem Reps.reverse : ∀ {vs : List V} {ds : List D}, Reps κ H F vs ds → Reps κ H F vs.reverse ds.reverse
  | _, _, .nil => .nil
  | _, _, .cons r rs => by
    rw [List.reverse_cons, List.reverse_cons]
    exact (Reps.reverse rs).append (.cons r .nil)
theorem Reps.take : ∀ {vs : List V} {ds : List D} (n : Nat), Reps κ H F vs ds → Reps κ H F (vs.take n) (ds.take n)
  | _, _, 0, _ => .nil
  | _, _, _ + 1, .nil => .nil
  | _, _, n + 1, .cons r rs => .cons r (Reps.take n rs)
end
mutual
/-- what no list is in does not lean on what is shared -/
theorem Rep.ofImm {κ : Kx} {T F F' : Hp} : ∀ {v : V} {d : D}, d.imm = true → Rep κ T F v d → Rep κ T F' v d
  | _, _, _, .non => .non
  | _, _, _, .bl b => .bl b
  | _, _, _, .int i => .int i
  | _, _, _, .str x e => .str x e
  | _, _, i, .tup h n z r => .tup h n z (Reps.ofImm (by simpa [D.imm] using i) r)
  | _, _, i, .lst h z r => by simp [D.imm] at i
  | _, _, i, .dic h r => by simp [D.imm] at i
  | _, _, i, .ins h n r => by simp [D.imm] at i
theorem Reps.ofImm {κ : Kx} {T F F' : Hp} : ∀ {vs : List V} {ds : List D}, D.immL ds = true → Reps κ T F vs ds → Reps κ T F' vs ds
  | _, _, _, .nil => .nil
  | _, _, i, .cons r rs => by
    simp only [D.immL, Bool.and_eq_true] at i
    exact .cons (Rep.ofImm i.1 r) (Reps.ofImm i.2 rs)
end

/-! ### states -/
structure Good (κ : Kx) (F H : Hp) : Prop where
  sub : Sub F H
  tabs : Tabs κ H
structure Go (κ : Kx) (F H F' H' : Hp) : Prop extends Ext F H F' H' where
  good : Good κ F' H'
theorem Go.refl {κ : Kx} {F H : Hp} (g : Good κ F H) : Go κ F H F H := ⟨.refl F H, g⟩
theorem Go.trans {κ : Kx} {F H F1 H1 F2 H2 : Hp} (g : Good κ F H) (a : Go κ F H F1 H1) (b : Go κ F1 H1 F2 H2) : Go κ F H F2 H2 := ⟨a.toExt.trans b.toExt g.tabs, b.good⟩
/-- what an own object holds -/
def Own (κ : Kx) (H F : Hp) (a : Addr) : D → Prop
  | .lst ds => ∃ vs, H a = some (.lst vs) ∧ vs.length ≤ sizeLine ∧ Reps κ H F vs ds
  | .dic ds => ∃ kvs, H a = some (DicO κ.P κ.W a kvs) ∧ RepK κ H F kvs ds
  | .ins c ds => κ.slf = some a ∧ ∃ dx vs, H a = some (.ins (κ.cl.at_ c) dx ((κ.cl.fl c).zip vs)) ∧ vs.length ≤ (κ.cl.fl c).length ∧ Reps κ H F vs ds
  | _ => False
theorem Own.there {κ : Kx} {H F : Hp} {a : Addr} : ∀ {d : D}, Own κ H F a d → ∃ o, H a = some o ∧ ¬ isTbl o
  | .lst _, ⟨_, e, _⟩ => ⟨_, e, fun z => z⟩
  | .dic _, ⟨_, e, _⟩ => ⟨_, e, fun z => z⟩
  | .ins _ _, ⟨_, _, _, e, _⟩ => ⟨_, e, fun z => z⟩
theorem Own.mono {κ : Kx} {H F H' F' : Hp} {a : Addr} (ht : Fx H H') (hf : ∀ b o, F b = some o → ¬ isTbl o → F' b = some o) (ha : ∀ o, H a = some o → ¬ isTbl o → H' a = some o) : ∀ {d : D}, Own κ H F a d → Own κ H' F' a d
  | .lst _, ⟨vs, e, z, r⟩ => ⟨vs, ha _ e (fun z => z), z, r.mono ht hf⟩
  | .dic _, ⟨vs, e, r⟩ => ⟨vs, ha _ e (fun z => z), r.mono ht hf⟩
  | .ins _ _, ⟨sl, dx, vs, e, l, r⟩ => ⟨sl, dx, vs, ha _ e (fun z => z), l, r.mono ht hf⟩
/-- as data of the whole heap -/
theorem Own.all {κ : Kx} {H F : Hp} {a : Addr} (s : Sub F H) : ∀ {d : D}, Own κ H F a d → Rep κ H H (.ref a) d
  | .lst _, ⟨vs, e, z, r⟩ => .lst (.inl (.inl e)) z (r.all s)
  | .dic _, ⟨kvs, e, r⟩ => .dic e (r.mono (Fx.refl _) fun b o h _ => (s b o h).1)
  | .ins _ _, ⟨_, dx, vs, e, l, r⟩ => .ins e l (r.all s)
/-- shared from now on -/
theorem Own.share {κ : Kx} {H F : Hp} {a : Addr} (hF : F a = none) {d : D} (h : Own κ H F a d) : ∃ o, H a = some o ∧ ¬ isTbl o ∧ Rep κ H (upd F a o) (.ref a) d := by
  have mono : ∀ (o : HO) b u, F b = some u → ¬ isTbl u → (upd F a o) b = some u := fun o b u e _ => by
    rw [upd_ne (ne_of_none e hF)]
    exact e
  cases d with
  | lst ds =>
    obtain ⟨vs, e, z, r⟩ := h
    exact ⟨_, e, fun z => z, .lst (.inl (.inl upd_same)) z (r.mono (Fx.refl _) (mono _))⟩
  | dic ds =>
    obtain ⟨vs, e, r⟩ := h
    exact ⟨_, e, fun z => z, .dic upd_same (r.mono (Fx.refl _) (mono _))⟩
  | ins c ds =>
    obtain ⟨_, dx, vs, e, l, r⟩ := h
    exact ⟨_, e, fun z => z, .ins upd_same l (r.mono (Fx.refl _) (mono _))⟩
  | _ => exact h.elim
theorem Ext.share {κ : Kx} {F H F' H' : Hp} {a : Addr} {o : HO} (e : Go κ F H F' H') (hH : H a = none) (hF : F' a = none) (ho : H' a = some o) (nt : ¬ isTbl o) : Go κ F H (upd F' a o) H' where
  f := fun b u q => by
    have q2 := e.f b u q
    rw [upd_ne (ne_of_none q2 hF)]
    exact q2
  h := e.h
  t := e.t
  tb := e.tb
  new := fun b u q => by
    by_cases hb : b = a
    · rw [hb]; exact .inr hH
    · rw [upd_ne hb] at q
      exact e.new b u q
  good := ⟨fun b u q => by
    by_cases hb : b = a
    · rw [hb, upd_same] at q
      cases q
      rw [hb]
      exact ⟨ho, nt⟩
    · rw [upd_ne hb] at q
      exact e.good.sub b u q, e.good.tabs⟩

structure RS (κ : Kx) (F0 H0 F H : Hp) (σ : L2.St) (ρ : En) : Prop where
  ext : Ext F0 H0 F H
  tb0 : Tabs κ H0
  good : Good κ F H
  len : ρ.length = σ.length
  sh : ∀ (i : Nat) (d : D), ρ[i]? = some (some (S.sh d)) → ∃ v, σ[i]? = some (some v) ∧ Rep κ H F v d
  ow : ∀ (i : Nat) (d : D), ρ[i]? = some (some (S.ow d)) → ∃ a, σ[i]? = some (some (V.ref a)) ∧ H0 a = none ∧ F a = none ∧ Own κ H F a d
  inj : ∀ (i j : Nat) (d e : D) (a : Addr), ρ[i]? = some (some (S.ow d)) → ρ[j]? = some (some (S.ow e)) → σ[i]? = some (some (V.ref a)) → σ[j]? = some (some (V.ref a)) → i = j
section
variable {κ : Kx} {F0 H0 F H F' H' : Hp} {σ : L2.St} {ρ : En}
theorem RS.go (s : RS κ F0 H0 F H σ ρ) (e : Go κ F H F' H') : RS κ F0 H0 F' H' σ ρ where
  ext := s.ext.trans e.toExt s.tb0
  tb0 := s.tb0
  good := e.good
  len := s.len
  sh := fun i d h => let ⟨v, h1, h2⟩ := s.sh i d h; ⟨v, h1, h2.ext e.toExt⟩
  ow := fun i d h => by
    obtain ⟨a, h1, h2, h3, h4⟩ := s.ow i d h
    refine ⟨a, h1, h2, ?_, h4.mono (Fx.of e.h) (fun b o h _ => e.f b o h) fun o h n => e.h a o h n⟩
    cases q : F' a with
    | none => rfl
    | some o =>
      rcases e.new a o q with z | z
      · rw [h3] at z; cases z
      · obtain ⟨u, hu, _⟩ := h4.there
        rw [z] at hu; cases hu
  inj := s.inj
/-- a shared thing is stored -/
theorem RS.set {i : Nat} {v : V} {d : D} (s : RS κ F0 H0 F H σ ρ) (r : Rep κ H F v d) : RS κ F0 H0 F H (σ.set i (some v)) (ρ.set i (some (S.sh d))) where
  ext := s.ext
  tb0 := s.tb0
  good := s.good
  len := by rw [List.length_set, List.length_set, s.len]
  sh := fun j e h => by
    by_cases hj : i = j
    · subst hj
      have hl : i < ρ.length := by
        have q := (List.getElem?_eq_some_iff.mp h).1
        rwa [List.length_set] at q
      rw [List.getElem?_set_self hl] at h
      cases h
      exact ⟨v, List.getElem?_set_self (by rw [← s.len]; exact hl), r⟩
    · rw [List.getElem?_set_ne hj] at h ⊢
      exact s.sh j e h
  ow := fun j e h => by
    by_cases hj : i = j
    · subst hj
      have hl : i < ρ.length := by
        have q := (List.getElem?_eq_some_iff.mp h).1
        rwa [List.length_set] at q
      rw [List.getElem?_set_self hl] at h
      cases h
    · rw [List.getElem?_set_ne hj] at h ⊢
      exact s.ow j e h
  inj := fun j k d' e a h1 h2 h3 h4 => by
    have n : ∀ {j : Nat} {e : D}, (ρ.set i (some (S.sh d)))[j]? = some (some (S.ow e)) → i ≠ j := fun {j e} h hj => by
      subst hj
      have hl : i < ρ.length := by
        have q := (List.getElem?_eq_some_iff.mp h).1
        rwa [List.length_set] at q
      rw [List.getElem?_set_self hl] at h
      cases h
    have n1 := n h1
    have n2 := n h2
    rw [List.getElem?_set_ne n1] at h1 h3
    rw [List.getElem?_set_ne n2] at h2 h4
    exact s.inj j k d' e a h1 h2 h3 h4
/-- an own thing is stored -/
theorem RS.setOw {i : Nat} {a : Addr} {d : D} (s : RS κ F0 H0 F H σ ρ) (h0 : H0 a = none) (hF : F a = none) (o : Own κ H F a d) (new : ∀ (j : Nat) (e : D), ρ[j]? = some (some (S.ow e)) → j ≠ i → σ[j]? ≠ some (some (V.ref a))) : RS κ F0 H0 F H (σ.set i (some (.ref a))) (ρ.set i (some (S.ow d))) where
  ext := s.ext
  tb0 := s.tb0
  good := s.good
  len := by rw [List.length_set, List.length_set, s.len]
  sh := fun j e h => by
    by_cases hj : i = j
    · subst hj
      have hl : i < ρ.length := by
        have q := (List.getElem?_eq_some_iff.mp h).1
        rwa [List.length_set] at q
      rw [List.getElem?_set_self hl] at h
      cases h
    · rw [List.getElem?_set_ne hj] at h ⊢
      exact s.sh j e h
  ow := fun j e h => by
    by_cases hj : i = j
    · subst hj
      have hl : i < ρ.length := by
        have q := (List.getElem?_eq_some_iff.mp h).1
        rwa [List.length_set] at q
      rw [List.getElem?_set_self hl] at h
      cases h
      exact ⟨a, List.getElem?_set_self (by rw [← s.len]; exact hl), h0, hF, o⟩
    · rw [List.getElem?_set_ne hj] at h ⊢
      exact s.ow j e h
  inj := fun j k d' e b h1 h2 h3 h4 => by
    have hlen : ∀ {j : Nat} {e : D}, (ρ.set i (some (S.ow d)))[j]? = some (some (S.ow e)) → j < σ.length := fun {j e} h => by
      have q := (List.getElem?_eq_some_iff.mp h).1
      rw [List.length_set, s.len] at q
      exact q
    by_cases hj : i = j
    · by_cases hk : i = k
      · rw [← hj, ← hk]
      · subst hj
        rw [List.getElem?_set_self (hlen h1)] at h3
        cases h3
        rw [List.getElem?_set_ne hk] at h2 h4
        exact absurd h4 (new k e h2 (Ne.symm hk))
    · by_cases hk : i = k
      · subst hk
        rw [List.getElem?_set_self (hlen h2)] at h4
        cases h4
        rw [List.getElem?_set_ne hj] at h1 h3
        exact absurd h3 (new j d' h1 (Ne.symm hj))
      · rw [List.getElem?_set_ne hj] at h1 h3
        rw [List.getElem?_set_ne hk] at h2 h4
        exact s.inj j k d' e b h1 h2 h3 h4
/-- forgetting slots -/
theorem RS.wipe (s : RS κ F0 H0 F H σ ρ) : ∀ vs : List Nat, RS κ F0 H0 F H (L2.wipe σ vs) (wipeE ρ vs)
  | [] => s
  | v :: vs => by
    have t := RS.wipe s vs
    unfold L2.wipe wipeE
    have none_set : ∀ {α : Type} {l : List (Option α)} {j : Nat} {x : α}, (l.set v none)[j]? = some (some x) → v ≠ j ∧ l[j]? = some (some x) := fun {α l j x} h => by
      by_cases hj : v = j
      · subst hj
        by_cases hl : v < l.length
        · rw [List.getElem?_set_self hl] at h; cases h
        · rw [List.getElem?_eq_none (by simpa using hl)] at h; cases h
      · rw [List.getElem?_set_ne hj] at h
        exact ⟨hj, h⟩
    refine ⟨t.ext, t.tb0, t.good, by rw [List.length_set, List.length_set, t.len], fun j d h => ?_, fun j d h => ?_, fun j k d e a h1 h2 h3 h4 => ?_⟩
    · obtain ⟨n, h'⟩ := none_set h
      rw [List.getElem?_set_ne n]
      exact t.sh j d h'
    · obtain ⟨n, h'⟩ := none_set h
      rw [List.getElem?_set_ne n]
      exact t.ow j d h'
    · obtain ⟨_, h1'⟩ := none_set h1
      obtain ⟨_, h2'⟩ := none_set h2
      obtain ⟨_, h3'⟩ := none_set h3
      obtain ⟨_, h4'⟩ := none_set h4
      exact t.inj j k d e a h1' h2' h3' h4'
end

/-! ### judgements -/
/-- the classes and the tables of code objects -/
structure Wd where
  cl : ClsTab
  tabs : List Addr
  slf : Option Addr := none
  lams : List (Addr × Str) := []
abbrev kp (P : Program) (w : World) (K : PySem.W.Frag) (M : Wd) : Kx := ⟨K, P, w, M.cl, M.tabs, M.slf, M.lams⟩
abbrev kx (X : Cx) (M : Wd) : Kx := ⟨X.K, X.prog, X.w, M.cl, M.tabs, M.slf, M.lams⟩
/-- e's value, as data of the whole heap (it may be a list that some name owns) -/
def RE (M : Wd) (X : Cx) (e : Expr) (f : FE) : Prop := ∃ te, PE X e te ∧ ∀ F0 H0 F H σ ρ d Q, RS (kx X M) F0 H0 F H σ ρ → f ρ = some d → (∀ F' H' v, Go (kx X M) F H F' H' → Rep (kx X M) H' H' v d → Q v H') → te σ H Q
/-- e's value is shared -/
def VE (M : Wd) (X : Cx) (e : Expr) (f : FE) : Prop := ∃ te, PE X e te ∧ ∀ F0 H0 F H σ ρ d Q, RS (kx X M) F0 H0 F H σ ρ → f ρ = some d → (∀ F' H' v, Go (kx X M) F H F' H' → Rep (kx X M) H' F' v d → Q v H') → te σ H Q
/-- e's value is new, nobody else has it -/
def OE (M : Wd) (X : Cx) (e : Expr) (f : FE) : Prop := ∃ te, PE X e te ∧ ∀ F0 H0 F H σ ρ d Q, RS (kx X M) F0 H0 F H σ ρ → f ρ = some d → (∀ F' H' a, Go (kx X M) F H F' H' → H a = none → F' a = none → Own (kx X M) H' F' a d → Q (.ref a) H') → te σ H Q
/-- arguments: all shared; as they stand -/
def VA (M : Wd) (X : Cx) (es : List Expr) (f : FA) : Prop := ∃ ta, PA X es ta ∧ ∀ F0 H0 F H σ ρ ds Q, RS (kx X M) F0 H0 F H σ ρ → f ρ = some ds → (∀ F' H' vs, Go (kx X M) F H F' H' → Reps (kx X M) H' F' vs ds → Q vs H') → ta σ H Q
def RA (M : Wd) (X : Cx) (es : List Expr) (f : FA) : Prop := ∃ ta, PA X es ta ∧ ∀ F0 H0 F H σ ρ ds Q, RS (kx X M) F0 H0 F H σ ρ → f ρ = some ds → (∀ F' H' vs, Go (kx X M) F H F' H' → Reps (kx X M) H' H' vs ds → Q vs H') → ta σ H Q
def TT' (M : Wd) (X : Cx) (tt : TT) (f : FT) : Prop := ∀ F0 H0 F H σ ρ b Q, RS (kx X M) F0 H0 F H σ ρ → f ρ = some b → (∀ F' H', Go (kx X M) F H F' H' → Q b H') → tt σ H Q
def CT (M : Wd) (X : Cx) (e : Expr) (f : FT) : Prop := ∃ tt, PT X e tt ∧ TT' M X tt f
def CW (M : Wd) (X : Cx) (e : Expr) (f : FT) : Prop := ∃ tt, PW X e tt ∧ TT' M X tt f
/-- shared things stay, fixed ones too -/
structure Le (F H F' H' : Hp) : Prop where
  f : ∀ b o, F b = some o → F' b = some o
  x : Fx H H'
theorem Le.refl (F H : Hp) : Le F H F H := ⟨fun _ _ e => e, Fx.refl H⟩
theorem Le.trans {F H F1 H1 F2 H2 : Hp} (a : Le F H F1 H1) (b : Le F1 H1 F2 H2) : Le F H F2 H2 := ⟨fun c o e => b.f c o (a.f c o e), a.x.trans b.x⟩
theorem Ext.le {F H F' H' : Hp} (e : Ext F H F' H') : Le F H F' H' := ⟨e.f, Fx.of e.h⟩
theorem Rep.le {κ : Kx} {F H F' H' : Hp} {v : V} {d : D} (r : Rep κ H F v d) (e : Le F H F' H') : Rep κ H' F' v d := r.mono e.x fun b o h _ => e.f b o h
theorem Reps.le {κ : Kx} {F H F' H' : Hp} {v : List V} {d : List D} (r : Reps κ H F v d) (e : Le F H F' H') : Reps κ H' F' v d := r.mono e.x fun b o h _ => e.f b o h
/-- what is wanted behind a statement, begun at F, H -/
def OutOk (κ : Kx) (F0 H0 F H : Hp) (E : Ends) : Out → Prop
  | .nx ρ => ∀ F' H' σ, RS κ F0 H0 F' H' σ ρ → Le F H F' H' → E.nx σ H'
  | .rt d => ∀ F' H' v, Go κ F0 H0 F' H' → Rep κ H' F' v d → E.rt v H'
  | .bk ρ => ∀ F' H' σ, RS κ F0 H0 F' H' σ ρ → Le F H F' H' → E.bk σ H'
  | .ct ρ => ∀ F' H' σ, RS κ F0 H0 F' H' σ ρ → Le F H F' H' → E.ct σ H'
def TS' (M : Wd) (X : Cx) (ts : TS) (f : FS) : Prop := ∀ F0 H0 F H σ ρ o E, RS (kx X M) F0 H0 F H σ ρ → f ρ = some o → OutOk (kx X M) F0 H0 F H E o → ts E σ H
def CS (M : Wd) (X : Cx) (s : Stmt) (f : FS) : Prop := ∃ ts, PS X s ts ∧ TS' M X ts f
def CSs (M : Wd) (X : Cx) (s : List Stmt) (f : FS) : Prop := ∃ ts, PSs X s ts ∧ TS' M X ts f

section
variable {M : Wd} {X : Cx} {e a b : Expr} {f fa fb : FE} {pos : Pos}
theorem VE.re (h : VE M X e f) : RE M X e f := let ⟨te, p, q⟩ := h; ⟨te, p, fun F0 H0 F H σ ρ d Q s hd k => q F0 H0 F H σ ρ d Q s hd fun F' H' v g r => k F' H' v g (r.all g.good.sub)⟩
theorem OE.ve (h : OE M X e f) : VE M X e f := by
  obtain ⟨te, p, q⟩ := h
  refine ⟨te, p, fun F0 H0 F H σ ρ d Q s hd k => q F0 H0 F H σ ρ d Q s hd fun F' H' a g hH hF o => ?_⟩
  obtain ⟨u, hu, nt, r⟩ := o.share hF
  exact k _ H' (.ref a) (Ext.share g hH hF hu nt) r
theorem OE.re (h : OE M X e f) : RE M X e f := h.ve.re
theorem RE.imm (h : RE M X e f) : VE M X e (eImm f) := by
  obtain ⟨te, p, q⟩ := h
  refine ⟨te, p, fun F0 H0 F H σ ρ d Q s hd k => ?_⟩
  unfold eImm e1 at hd
  cases hf : f ρ with
  | none => rw [hf] at hd; cases hd
  | some d' =>
    rw [hf] at hd
    simp only [Option.bind_some] at hd
    split at hd
    · rename_i hi
      cases hd
      exact q F0 H0 F H σ ρ _ Q s hf fun F' H' v g r => k F' H' v g (r.ofImm hi)
    · cases hd
theorem ve_var {i : Nat} {x : Str} (h : PE X (.Name x pos) (tVar i)) : VE M X (.Name x pos) (eSh i) := by
  refine ⟨_, h, fun F0 H0 F H σ ρ d Q s hd k => ?_⟩
  unfold eSh at hd
  split at hd
  · rename_i d' he
    cases hd
    obtain ⟨v, h1, h2⟩ := s.sh i _ he
    exact ⟨v, h1, k F H v (.refl s.good) h2⟩
  · cases hd
theorem re_var {i : Nat} {x : Str} (h : PE X (.Name x pos) (tVar i)) : RE M X (.Name x pos) (eVar i) := by
  refine ⟨_, h, fun F0 H0 F H σ ρ d Q s hd k => ?_⟩
  unfold eVar at hd
  split at hd
  · rename_i d' he
    cases hd
    obtain ⟨v, h1, h2⟩ := s.sh i _ he
    exact ⟨v, h1, k F H v (.refl s.good) (h2.all s.good.sub)⟩
  · rename_i d' he
    cases hd
    obtain ⟨a, h1, h2, h3, h4⟩ := s.ow i _ he
    exact ⟨.ref a, h1, k F H _ (.refl s.good) (h4.all s.good.sub)⟩
  · cases hd
theorem ve_const {v : V} {d : D} (h : PE X e (tC v)) (r : ∀ T F, Rep (kx X M) T F v d) : VE M X e (eC d) := ⟨_, h, fun F0 H0 F H σ ρ d' Q s hd k => by
  cases hd
  exact k F H v (.refl s.good) (r H F)⟩
theorem ve_int {i : Int} {j : Nat} : VE M X (.Constant (.int i) j pos) (eC (.int i)) := ve_const pe_int fun _ _ => .int i
theorem ve_bl {i : Bool} {j : Nat} : VE M X (.Constant (.bool i) j pos) (eC (.bl i)) := ve_const pe_bl fun _ _ => .bl i
theorem ve_non {j : Nat} : VE M X (.Constant .none j pos) (eC .non) := ve_const pe_non fun _ _ => .non
theorem ve_str {x : Str} {l : List Nat} {j : Nat} (h : x.cps.toList = l := by first | rfl | decide) : VE M X (.Constant (.str x) j pos) (eC (.str l)) := ve_const pe_str fun _ _ => .str x h
/-- a module's constant -/
theorem ve_glob {x : Str} {v : V} {u : Value} {d : D} (hg : Gl X x) (hm : X.mg x = some u) (r : RelV v u) (q : ∀ T F, Rep (kx X M) T F v d) (hd : (x == ("__debug__" : Str)) = false := by decide) : VE M X (.Name x pos) (eC d) := ve_const (pe_glob hg hm r hd) q

/-- an operation on data -/
def OpD (κ : Kx) (r : R2) (h : D → D → Option D) : Prop := ∀ F H x y da db d (Q : VK), Good κ F H → Rep κ H H x da → Rep κ H H y db → h da db = some d → (∀ F' H' v, Go κ F H F' H' → Rep κ H' F' v d → Q v H') → r x y H Q
def UnD (κ : Kx) (r : V → Hp → VK → Prop) (h : D → Option D) : Prop := ∀ F H x da d (Q : VK), Good κ F H → Rep κ H H x da → h da = some d → (∀ F' H' v, Go κ F H F' H' → Rep κ H' F' v d → Q v H') → r x H Q
theorem ve_two {te : TE} {r : R2} {h : D → D → Option D} (pe : ∀ ta tb, PE X a ta → PE X b tb → PE X e (tOp r ta tb)) (hd : OpD (kx X M) r h) (ha : RE M X a fa) (hb : RE M X b fb) : VE M X e (e2 h fa fb) := by
  obtain ⟨ta, pa, qa⟩ := ha
  obtain ⟨tb, pb, qb⟩ := hb
  refine ⟨_, pe ta tb pa pb, fun F0 H0 F H σ ρ d Q s hf k => ?_⟩
  unfold e2 at hf
  cases hfa : fa ρ with
  | none => rw [hfa] at hf; cases hf
  | some da =>
    rw [hfa] at hf
    simp only [Option.bind_some] at hf
    cases hfb : fb ρ with
    | none => rw [hfb] at hf; cases hf
    | some db =>
      rw [hfb] at hf
      simp only [Option.bind_some] at hf
      refine qa F0 H0 F H σ ρ da _ s hfa fun F1 H1 x g1 r1 => ?_
      refine qb F0 H0 F1 H1 σ ρ db _ (s.go g1) hfb fun F2 H2 y g2 r2 => ?_
      refine hd F2 H2 x y da db d _ g2.good (r1.allExt g2.toExt) r2 hf fun F3 H3 v g3 r3 => ?_
      exact k F3 H3 v ((g1.trans s.good g2).trans s.good g3) r3
/-- an operation on shared data, to shared data -/
def OpS (κ : Kx) (r : R2) (h : D → D → Option D) : Prop := ∀ F H x y da db d (Q : VK), Good κ F H → Rep κ H F x da → Rep κ H F y db → h da db = some d → (∀ F' H' v, Go κ F H F' H' → Rep κ H' F' v d → Q v H') → r x y H Q
theorem ve_twoS {te : TE} {r : R2} {h : D → D → Option D} (pe : ∀ ta tb, PE X a ta → PE X b tb → PE X e (tOp r ta tb)) (hd : OpS (kx X M) r h) (ha : VE M X a fa) (hb : VE M X b fb) : VE M X e (e2 h fa fb) := by
  obtain ⟨ta, pa, qa⟩ := ha
  obtain ⟨tb, pb, qb⟩ := hb
  refine ⟨_, pe ta tb pa pb, fun F0 H0 F H σ ρ d Q s hf k => ?_⟩
  unfold e2 at hf
  cases hfa : fa ρ with
  | none => rw [hfa] at hf; cases hf
  | some da =>
    rw [hfa] at hf
    simp only [Option.bind_some] at hf
    cases hfb : fb ρ with
    | none => rw [hfb] at hf; cases hf
    | some db =>
      rw [hfb] at hf
      simp only [Option.bind_some] at hf
      refine qa F0 H0 F H σ ρ da _ s hfa fun F1 H1 x g1 r1 => ?_
      refine qb F0 H0 F1 H1 σ ρ db _ (s.go g1) hfb fun F2 H2 y g2 r2 => ?_
      refine hd F2 H2 x y da db d _ g2.good (r1.ext g2.toExt) r2 hf fun F3 H3 v g3 r3 => ?_
      exact k F3 H3 v ((g1.trans s.good g2).trans s.good g3) r3
theorem ve_opS {op : Operator} {r : R2} {h : D → D → Option D} (ho : OpR X (binaryOp op) r) (hd : OpS (kx X M) r h) (ha : VE M X a fa) (hb : VE M X b fb) : VE M X (.BinOp a op b pos) (e2 h fa fb) := ve_twoS (te := fun _ _ _ => True) (fun _ _ pa pb => pe_op ho pa pb) hd ha hb
theorem ve_op {op : Operator} {r : R2} {h : D → D → Option D} (ho : OpR X (binaryOp op) r) (hd : OpD (kx X M) r h) (ha : RE M X a fa) (hb : RE M X b fb) : VE M X (.BinOp a op b pos) (e2 h fa fb) := ve_two (te := fun _ _ _ => True) (fun _ _ pa pb => pe_op ho pa pb) hd ha hb
theorem ve_cmp {op : CmpOp} {r : R2} {h : D → D → Option D} (ho : OpR X (compareOp op) r) (hd : OpD (kx X M) r h) (hm : behindInMarks op b = false) (ha : RE M X a fa) (hb : RE M X b fb) : VE M X (.Compare a [op] [b] pos) (e2 h fa fb) := ve_two (te := fun _ _ _ => True) (fun _ _ pa pb => pe_cmpR ho pa pb hm) hd ha hb
theorem ve_un {op : UnaryOp} {r : V → Hp → VK → Prop} {h : D → Option D} (ho : UnR X (unaryOp op) r) (hd : UnD (kx X M) r h) (ha : RE M X a fa) : VE M X (.UnaryOp op a pos) (e1 h fa) := by
  obtain ⟨ta, pa, qa⟩ := ha
  refine ⟨_, pe_un ho pa, fun F0 H0 F H σ ρ d Q s hf k => ?_⟩
  unfold e1 at hf
  cases hfa : fa ρ with
  | none => rw [hfa] at hf; cases hf
  | some da =>
    rw [hfa] at hf
    simp only [Option.bind_some] at hf
    refine qa F0 H0 F H σ ρ da _ s hfa fun F1 H1 x g1 r1 => ?_
    refine hd F1 H1 x da d _ g1.good r1 hf fun F3 H3 v g3 r3 => ?_
    exact k F3 H3 v (g1.trans s.good g3) r3
end
end Vl
end
section
set_option Elab.async false
set_option linter.all false
set_option maxRecDepth 100000
set_option maxHeartbeats 2000000
/-! rules of expressions -/
namespace Vl
open PySem PySem.Spec PyProof.Rows L2 GxR TupF
theorem bsome {α β : Type} {x : Option α} {f : α → Option β} {b : β} (h : x.bind f = some b) : ∃ a, x = some a ∧ f a = some b := Option.bind_eq_some_iff.mp h
/-! ### the heap grows -/
section
variable {κ : Kx} {F H : Hp} {p : Addr} {o : HO}
theorem Good.new (g : Good κ F H) (hp : H p = none) (nt : ¬ isTbl o) : Go κ F H F (upd H p o) where
  f := fun _ _ e => e
  h := fun b u e _ => by rw [upd_ne (ne_of_none e hp)]; exact e
  t := fun b ⟨ps, e, r⟩ => ⟨ps, by rw [upd_ne (ne_of_none e hp)]; exact e, r⟩
  tb := fun b ps e => ⟨ps, by rw [upd_ne (ne_of_none e hp)]; exact e⟩
  new := fun _ _ e => .inl e
  good := ⟨fun b u e => ⟨by rw [upd_ne (ne_of_none (g.sub b u e).1 hp)]; exact (g.sub b u e).1, (g.sub b u e).2⟩, fun P hP => by
    obtain ⟨ps, e, r⟩ := g.tabs.1 P hP
    exact ⟨ps, by rw [upd_ne (ne_of_none e hp)]; exact e, r⟩, fun q hq => by
    obtain ⟨h1, h2⟩ := g.tabs.2 q hq
    exact ⟨h1.ext (fun b ps _ e => by rw [upd_ne (ne_of_none e hp)]; exact e) (fun b o u e => by rw [upd_ne (ne_of_none e hp)]; exact e), h2⟩⟩
theorem Good.none (g : Good κ F H) (hp : H p = Option.none) : F p = Option.none := by
  cases q : F p with
  | none => rfl
  | some u => rw [(g.sub p u q).1] at hp; cases hp
theorem Reps.new {vs : List V} {ds : List D} (r : Reps κ H F vs ds) (hp : H p = Option.none) : Reps κ (upd H p o) F vs ds := r.mono (Fx.upd fun u e => by rw [hp] at e; cases e) fun _ _ e _ => e
theorem Rep.new {v : V} {d : D} (r : Rep κ H F v d) (hp : H p = Option.none) : Rep κ (upd H p o) F v d := r.mono (Fx.upd fun u e => by rw [hp] at e; cases e) fun _ _ e _ => e
/-- a new tuple -/
theorem newT_go {vs : List V} {ds : List D} {Q : VK} (g : Good κ F H) (hz : vs.length ≤ sizeLine) (r : Reps κ H F vs ds) (k : ∀ F' H' v, Go κ F H F' H' → Rep κ H' F' v (.tup ds) → Q v H') : NewT H vs Q := fun p o hp hd => by
  refine k F _ _ (g.new hp fun z => z) (.tup (.inl (.inr ⟨o, upd_same⟩)) (.inl ⟨o, _, upd_same, hd⟩) hz (r.new hp))
/-- the whole heap but the tables -/
def whole (H : Hp) : Hp := fun b => match H b with
  | some (.tbl _) => Option.none
  | o => o
theorem whole_some {b : Addr} {u : HO} (h : whole H b = some u) : H b = some u ∧ ¬ isTbl u := by
  unfold whole at h
  split at h
  · cases h
  · rename_i hn
    refine ⟨h, fun z => ?_⟩
    cases u with
    | tbl ps => exact hn ps h
    | _ => exact z.elim
theorem some_whole {b : Addr} {u : HO} (h : H b = some u) (n : ¬ isTbl u) : whole H b = some u := by
  unfold whole
  split
  · rename_i ps e
    rw [h] at e
    cases e
    exact (n trivial).elim
  · exact h
theorem Good.whole (g : Good κ F H) : Good κ (whole H) H := ⟨fun _ _ e => whole_some e, g.tabs⟩
theorem Reps.whole {vs : List V} {ds : List D} (r : Reps κ H H vs ds) : Reps κ H (whole H) vs ds := r.mono (Fx.refl _) fun b o e n => some_whole e n
theorem Go.ofWhole {F' H' : Hp} (g : Good κ F H) (e : Go κ (Vl.whole H) H F' H') : Go κ F H F H' where
  f := fun _ _ e => e
  h := e.h
  t := e.t
  tb := e.tb
  new := fun _ _ e => .inl e
  good := ⟨fun b u q => ⟨e.h b u (g.sub b u q).1 (g.sub b u q).2, (g.sub b u q).2⟩, e.good.tabs⟩
end
theorem room_le {n : Nat} (h : room n = true) : n < sizeLine := by
  have h1 : n < 100000 := of_decide_eq_true h
  exact Nat.lt_trans h1 (by decide)

section
variable {M : Wd} {X : Cx} {e a b : Expr} {es : List Expr} {f fa fb : FE} {fs : FA} {pos p : Pos}
/-! ### arguments, displays -/
theorem va_nil : VA M X [] aNil := ⟨_, pa_nil, fun F0 H0 F H σ ρ ds Q s hf k => by
  cases hf
  exact k F H [] (.refl s.good) .nil⟩
theorem va_cons (h : VE M X e f) (hr : VA M X es fs) (hs : starEach (e :: es) X.env = (false, eval e X.env) :: starEach es X.env := by rfl) : VA M X (e :: es) (aCons f fs) := by
  obtain ⟨te, pe, qe⟩ := h
  obtain ⟨ta, pa, qa⟩ := hr
  refine ⟨_, pa_cons pe pa hs, fun F0 H0 F H σ ρ ds Q s hf k => ?_⟩
  obtain ⟨d, hd, hf⟩ := bsome hf
  obtain ⟨ds', hds, hf⟩ := bsome hf
  cases hf
  refine qe F0 H0 F H σ ρ d _ s hd fun F1 H1 v g1 r1 => ?_
  refine qa F0 H0 F1 H1 σ ρ ds' _ (s.go g1) hds fun F2 H2 vs g2 r2 => ?_
  exact k F2 H2 _ (g1.trans s.good g2) (.cons (r1.ext g2.toExt) r2)
theorem ra_nil : RA M X [] aNil := ⟨_, pa_nil, fun F0 H0 F H σ ρ ds Q s hf k => by
  cases hf
  exact k F H [] (.refl s.good) .nil⟩
theorem ra_cons (h : RE M X e f) (hr : RA M X es fs) (hs : starEach (e :: es) X.env = (false, eval e X.env) :: starEach es X.env := by rfl) : RA M X (e :: es) (aCons f fs) := by
  obtain ⟨te, pe, qe⟩ := h
  obtain ⟨ta, pa, qa⟩ := hr
  refine ⟨_, pa_cons pe pa hs, fun F0 H0 F H σ ρ ds Q s hf k => ?_⟩
  obtain ⟨d, hd, hf⟩ := bsome hf
  obtain ⟨ds', hds, hf⟩ := bsome hf
  cases hf
  refine qe F0 H0 F H σ ρ d _ s hd fun F1 H1 v g1 r1 => ?_
  refine qa F0 H0 F1 H1 σ ρ ds' _ (s.go g1) hds fun F2 H2 vs g2 r2 => ?_
  exact k F2 H2 _ (g1.trans s.good g2) (.cons (r1.allExt g2.toExt) r2)
theorem le1000 {n : Nat} (h : n ≤ 1000) : n ≤ sizeLine := Nat.le_trans h (by decide)
theorem ve_tup {k0} (h : VA M X es fs) : VE M X (.Tuple es k0 pos) (eTup fs) := by
  obtain ⟨ta, pa, qa⟩ := h
  refine ⟨_, pe_tupF pa, fun F0 H0 F H σ ρ d Q s hf k => ?_⟩
  obtain ⟨ds, hds, hf⟩ := bsome hf
  split at hf
  · rename_i hl
    cases hf
    refine qa F0 H0 F H σ ρ ds _ s hds fun F1 H1 vs g1 r1 => ?_
    have hz : vs.length ≤ sizeLine := by rw [r1.length]; exact le1000 hl
    exact ⟨hz, newT_go g1.good hz r1 fun F2 H2 v g2 r2 => k F2 H2 v (g1.trans s.good g2) r2⟩
  · cases hf
theorem oe_lst (h : VA M X es fs) : OE M X (.List es pos) (eLst fs) := by
  obtain ⟨ta, pa, qa⟩ := h
  refine ⟨_, pe_lst pa, fun F0 H0 F H σ ρ d Q s hf k => ?_⟩
  obtain ⟨ds, hds, hf⟩ := bsome hf
  split at hf
  · rename_i hl
    cases hf
    refine qa F0 H0 F H σ ρ ds _ s hds fun F1 H1 vs g1 r1 => ?_
    have hz : vs.length ≤ sizeLine := by rw [r1.length]; exact le1000 hl
    refine ⟨hz, fun p hp => ?_⟩
    have g2 := g1.good.new (o := .lst vs) hp fun z => z
    exact k F1 _ p (g1.trans s.good g2) (g1.toExt.free s.good.tabs hp) (g1.good.none hp) ⟨vs, upd_same, hz, r1.new hp⟩
  · cases hf

/-! ### calls of the program's own defs -/
/-- a def's promise: it computes g -/
def spV (κ : Kx) (g : List D → Option D) : Sp := fun vs H Q _ => ∃ F ds d, Good κ F H ∧ Reps κ H F vs ds ∧ g ds = some d ∧ ∀ F' H' v, Go κ F H F' H' → Rep κ H' F' v d → Q v H'
variable {k : Nat} {fn : Addr} {fd : FuncData} {ps : List Str} {g : List D → Option D} {x : Str} {dvs : List V} {ds0 : List Value} {dds : List D}
theorem ve_callD (G : FnOk X.prog X.w X.K X.mg X.base CX0 k fn fd ps (spV (kx X M) g)) (hr : Room k X.A) (hg : Gl X x) (hm : X.mg x = some (.ref fn)) (hk : PySem.W.keepIn X.K (.ref fn) = true) (hb : Binds X.K fd ps ds0) (hd : Vals dvs ds0) (rd : ∀ T F, Reps (kx X M) T F dvs dds)
    (ha : VA M X (e :: es) fs) (hdb : (x == ("__debug__" : Str)) = false := by decide) (he : starEach (e :: es) X.env = (false, eval e X.env) :: starEach es X.env := by rfl) (hpl : (backTo pos (starEach es X.env)).any (·.1) = false := by rfl) :
    VE M X (.Call (.Name x p) (e :: es) [] pos) (eCall (fun ds => g (ds ++ dds)) fs) := by
  obtain ⟨ta, pa, qa⟩ := ha
  refine ⟨_, pe_call G hr hg hm hk hb hd (E := E0) pass0 pa hdb he hpl, fun F0 H0 F H σ ρ d Q s hf kk => ?_⟩
  obtain ⟨ds, hds, hf⟩ := bsome hf
  refine qa F0 H0 F H σ ρ ds _ s hds fun F1 H1 vs g1 r1 => ?_
  exact ⟨F1, ds ++ dds, d, g1.good, r1.append (rd _ _), hf, fun F2 H2 v g2 r2 => kk F2 H2 v (g1.trans s.good g2) r2⟩
theorem ve_call (G : FnOk X.prog X.w X.K X.mg X.base CX0 k fn fd ps (spV (kx X M) g)) (hr : Room k X.A) (hg : Gl X x) (hm : X.mg x = some (.ref fn)) (hk : PySem.W.keepIn X.K (.ref fn) = true) (hb : Binds X.K fd ps [])
    (ha : VA M X (e :: es) fs) (hdb : (x == ("__debug__" : Str)) = false := by decide) (he : starEach (e :: es) X.env = (false, eval e X.env) :: starEach es X.env := by rfl) (hpl : (backTo pos (starEach es X.env)).any (·.1) = false := by rfl) :
    VE M X (.Call (.Name x p) (e :: es) [] pos) (eCall g fs) := by
  have h := ve_callD (dds := []) (dvs := []) (pos := pos) (p := p) G hr hg hm hk hb .nil (fun _ _ => .nil) ha hdb he hpl
  simpa only [List.append_nil] using h
theorem re_callD (G : FnOk X.prog X.w X.K X.mg X.base CX0 k fn fd ps (spV (kx X M) g)) (hr : Room k X.A) (hg : Gl X x) (hm : X.mg x = some (.ref fn)) (hk : PySem.W.keepIn X.K (.ref fn) = true) (hb : Binds X.K fd ps ds0) (hd : Vals dvs ds0) (rd : ∀ T F, Reps (kx X M) T F dvs dds)
    (ha : RA M X (e :: es) fs) (hdb : (x == ("__debug__" : Str)) = false := by decide) (he : starEach (e :: es) X.env = (false, eval e X.env) :: starEach es X.env := by rfl) (hpl : (backTo pos (starEach es X.env)).any (·.1) = false := by rfl) :
    RE M X (.Call (.Name x p) (e :: es) [] pos) (eCall (fun ds => g (ds ++ dds)) fs) := by
  obtain ⟨ta, pa, qa⟩ := ha
  refine ⟨_, pe_call G hr hg hm hk hb hd (E := E0) pass0 pa hdb he hpl, fun F0 H0 F H σ ρ d Q s hf kk => ?_⟩
  obtain ⟨ds, hds, hf⟩ := bsome hf
  refine qa F0 H0 F H σ ρ ds _ s hds fun F1 H1 vs g1 r1 => ?_
  refine ⟨whole H1, ds ++ dds, d, g1.good.whole, r1.whole.append (rd _ _), hf, fun F2 H2 v g2 r2 => ?_⟩
  exact kk F1 H2 v (g1.trans s.good (Go.ofWhole g1.good g2)) (r2.all g2.good.sub)
theorem re_call (G : FnOk X.prog X.w X.K X.mg X.base CX0 k fn fd ps (spV (kx X M) g)) (hr : Room k X.A) (hg : Gl X x) (hm : X.mg x = some (.ref fn)) (hk : PySem.W.keepIn X.K (.ref fn) = true) (hb : Binds X.K fd ps [])
    (ha : RA M X (e :: es) fs) (hdb : (x == ("__debug__" : Str)) = false := by decide) (he : starEach (e :: es) X.env = (false, eval e X.env) :: starEach es X.env := by rfl) (hpl : (backTo pos (starEach es X.env)).any (·.1) = false := by rfl) :
    RE M X (.Call (.Name x p) (e :: es) [] pos) (eCall g fs) := by
  have h := re_callD (dds := []) (dvs := []) (pos := pos) (p := p) G hr hg hm hk hb .nil (fun _ _ => .nil) ha hdb he hpl
  simpa only [List.append_nil] using h

/-! ### parts -/
theorem ixN_eq (n : Nat) (i : Int) : ixN n i = L2.ixN n i := rfl
theorem atI_of {vs : List V} {ds : List D} {κ : Kx} {T F : Hp} {i : Int} {d : D} (r : Reps κ T F vs ds) (h : (ixN ds.length i).bind (fun k => ds[k]?) = some d) : ∃ v, atI vs i = some v ∧ Rep κ T F v d := by
  obtain ⟨j, hj, h⟩ := bsome h
  obtain ⟨v, hv, rv⟩ := r.get h
  refine ⟨v, ?_, rv⟩
  unfold atI
  rw [← ixN_eq, r.length, hj]
  exact hv
/-- an item of data, by values -/
theorem ix_rep {κ : Kx} {F T F' H : Hp} {x y : V} {da db d : D} {Q : VK} (rx : Rep κ H F' x da) (ry : Rep κ T F y db) (hf : D.ix da db = some d) (hF : ∀ b o, F' b = some o → H b = some o) (k : ∀ v, Rep κ H F' v d → Q v H) : rIx κ.K x y H Q := by
  cases rx with
  | tup h n z r =>
    cases ry <;> first | (simp only [D.ix] at hf; done) | skip
    case int i =>
      obtain ⟨v, hv, rv⟩ := atI_of r hf
      exact .inr (.inl ⟨_, _, _, _, rfl, rfl, h, hv, k v rv⟩)
    all_goals cases hf
  | lst h z r =>
    cases ry <;> first | (simp only [D.ix] at hf; done) | skip
    case int i =>
      obtain ⟨v, hv, rv⟩ := atI_of r hf
      exact .inl ⟨_, _, _, _, rfl, rfl, sqL_mono (fun b o e _ => hF b o e) h, hv, k v rv⟩
    all_goals cases hf
  | str z e =>
    subst e
    cases ry <;> first | (simp only [D.ix] at hf; done) | skip
    case int i =>
      have hf2 : (if z.cps.toList.length ≤ 1000 then (ixN z.cps.toList.length i).bind fun k => z.cps.toList[k]?.map fun c => D.str [c] else Option.none) = some d := hf
      split at hf2
      · rename_i hl
        obtain ⟨j, hj, hf3⟩ := bsome hf2
        obtain ⟨c, hc, hf4⟩ := Option.map_eq_some_iff.mp hf3
        subst hf4
        refine .inr (.inr ⟨z, i, c, rfl, rfl, ?_, ?_, k _ (.str ⟨#[c]⟩ rfl)⟩)
        · have e1 : z.length = z.cps.toList.length := by simp [Str.length]
          rw [e1]
          exact le1000 hl
        · unfold atI
          rw [← ixN_eq, hj]
          exact hc
      · cases hf2
    all_goals cases hf
  | _ => cases ry <;> cases hf
theorem re_ix (ha : RE M X a fa) (hb : RE M X b fb) (hs : PlainIx b := by intro _ _; rfl) : RE M X (.Subscript a b pos) (e2 D.ix fa fb) := by
  obtain ⟨ta, pa, qa⟩ := ha
  obtain ⟨tb, pb, qb⟩ := hb
  refine ⟨_, pe_ix ix_seq pa pb hs, fun F0 H0 F H σ ρ d Q s hf k => ?_⟩
  obtain ⟨da, hda, hf⟩ := bsome hf
  obtain ⟨db, hdb, hf⟩ := bsome hf
  refine qa F0 H0 F H σ ρ da _ s hda fun F1 H1 x g1 r1 => ?_
  refine qb F0 H0 F1 H1 σ ρ db _ (s.go g1) hdb fun F2 H2 y g2 r2 => ?_
  exact ix_rep (r1.allExt g2.toExt) r2 hf (fun _ _ e => e) fun v rv => k F2 H2 v (g1.trans s.good g2) rv
theorem ve_ix (ha : VE M X a fa) (hb : RE M X b fb) (hs : PlainIx b := by intro _ _; rfl) : VE M X (.Subscript a b pos) (e2 D.ix fa fb) := by
  obtain ⟨ta, pa, qa⟩ := ha
  obtain ⟨tb, pb, qb⟩ := hb
  refine ⟨_, pe_ix ix_seq pa pb hs, fun F0 H0 F H σ ρ d Q s hf k => ?_⟩
  obtain ⟨da, hda, hf⟩ := bsome hf
  obtain ⟨db, hdb, hf⟩ := bsome hf
  refine qa F0 H0 F H σ ρ da _ s hda fun F1 H1 x g1 r1 => ?_
  refine qb F0 H0 F1 H1 σ ρ db _ (s.go g1) hdb fun F2 H2 y g2 r2 => ?_
  exact ix_rep (r1.ext g2.toExt) r2 hf (fun b o e => (g2.good.sub b o e).1) fun v rv => k F2 H2 v (g1.trans s.good g2) rv
/-- an item of what a name holds, own or shared: its items are shared -/
theorem ve_ixv {i : Nat} {y : Str} {p' : Pos} (ha : PE X (.Name y p') (tVar i)) (hb : RE M X b fb) (hs : PlainIx b := by intro _ _; rfl) : VE M X (.Subscript (.Name y p') b pos) (e2 D.ix (eVar i) fb) := by
  obtain ⟨tb, pb, qb⟩ := hb
  refine ⟨_, pe_ix ix_seq ha pb hs, fun F0 H0 F H σ ρ d Q s hf k => ?_⟩
  obtain ⟨da, hda, hf⟩ := bsome hf
  obtain ⟨db, hdb, hf⟩ := bsome hf
  unfold eVar at hda
  split at hda
  · rename_i d' he
    cases hda
    obtain ⟨v, h1, h2⟩ := s.sh i _ he
    refine ⟨v, h1, ?_⟩
    refine qb F0 H0 F H σ ρ db _ s hdb fun F2 H2 y g2 r2 => ?_
    exact ix_rep (h2.ext g2.toExt) r2 hf (fun b o e => (g2.good.sub b o e).1) fun v rv => k F2 H2 v g2 rv
  · rename_i d' he
    cases hda
    obtain ⟨c, h1, h2, h3, h4⟩ := s.ow i _ he
    refine ⟨.ref c, h1, ?_⟩
    refine qb F0 H0 F H σ ρ db _ s hdb fun F2 H2 y g2 r2 => ?_
    cases da with
    | lst ds =>
      obtain ⟨vs, e, z, r⟩ := h4
      cases r2 <;> first | (simp only [D.ix] at hf; done) | skip
      case int j =>
        obtain ⟨v, hv, rv⟩ := atI_of r hf
        exact .inl ⟨_, _, _, _, rfl, rfl, .inl (.inl (g2.h _ _ e fun z => z)), hv, k F2 H2 v g2 (rv.ext g2.toExt)⟩
      all_goals cases hf
    | dic ds => cases r2 <;> cases hf
    | ins c' ds => cases r2 <;> cases hf
    | _ => exact h4.elim
  · cases hda
/-- a field -/
theorem ve_fld {c j : Nat} {fl : Str} (ha : VE M X a fa) (hc : Cls X.K (M.cl.at_ c)) (hn : NoAttr X.K (M.cl.at_ c) fl) (hj : (M.cl.fl c)[j]? = some fl) (hnd : (M.cl.fl c).Nodup) (hb : attributeBase a fl X.env (eval a X.env) = eval a X.env := by rfl) : VE M X (.Attribute a fl pos) (e1 (D.fld c j) fa) := by
  obtain ⟨ta, pa, qa⟩ := ha
  refine ⟨_, pe_fld pa hb, fun F0 H0 F H σ ρ d Q s hf k => ?_⟩
  obtain ⟨da, hda, hf⟩ := bsome hf
  refine qa F0 H0 F H σ ρ da _ s hda fun F1 H1 x g1 r1 => ?_
  cases r1 with
  | @ins a0 dx c' vs ds h hz r =>
    have hf2 : (if c' = c then ds[j]? else Option.none) = some d := hf
    split at hf2
    · rename_i e
      subst e
      obtain ⟨v, hv, rv⟩ := r.get hf2
      refine ⟨a0, M.cl.at_ c', dx, (M.cl.fl c').zip vs, v, rfl, (g1.good.sub _ _ h).1, hc, hn, ?_, k F1 H1 v g1 rv⟩
      have key : ∀ (l : List Str) (ws : List V) (i : Nat), l.Nodup → l[i]? = some fl → ws[i]? = some v → (l.zip ws).lookup fl = some v := by
        intro l
        induction l with
        | nil => intro ws i _ h1; simp at h1
        | cons y l ih =>
          intro ws i hn h1 h2
          cases ws with
          | nil => simp at h2
          | cons w0 ws =>
            rw [List.zip_cons_cons, List.lookup_cons]
            cases i with
            | zero =>
              simp only [List.getElem?_cons_zero, Option.some.injEq] at h1 h2
              subst h1 h2
              simp
            | succ i =>
              simp only [List.getElem?_cons_succ] at h1 h2
              have hne : (fl == y) = false := by
                have : y ∉ l := (List.nodup_cons.mp hn).1
                have h3 : fl ∈ l := List.mem_of_getElem? h1
                exact beq_eq_false_iff_ne.mpr fun z => this (z ▸ h3)
              rw [hne]
              exact ih ws i (List.nodup_cons.mp hn).2 h1 h2
      exact key _ _ j hnd hj hv
    · cases hf2
  | _ => cases hf
end
end Vl
end
section
set_option Elab.async false
set_option linter.all false
set_option maxRecDepth 100000
set_option maxHeartbeats 2000000
/-! operations on data -/
namespace Vl
open PySem PySem.Spec PyProof.Rows L2 GxR TupF Dc
section
variable {κ : Kx}
/-! ### ints -/
theorem opd_i {C : Int → Int → Prop} {g : Int → Int → V} {h : D → D → Option D} (hh : ∀ da db d, h da db = some d → ∃ i j, da = .int i ∧ db = .int j ∧ C i j ∧ ∀ T F, Rep κ T F (g i j) d) : OpD κ (rI C g) h := by
  intro F H x y da db d Q gd rx ry hd k
  obtain ⟨i, j, rfl, rfl, c, r⟩ := hh da db d hd
  cases rx
  cases ry
  exact ⟨i, j, rfl, rfl, c, k F H _ (.refl gd) (r H F)⟩
theorem opd_i0 {g : Int → Int → V} {h : D → D → Option D} (hh : ∀ da db d, h da db = some d → ∃ i j, da = .int i ∧ db = .int j ∧ ∀ T F, Rep κ T F (g i j) d) : OpD κ (rI0 g) h := by
  intro F H x y da db d Q gd rx ry hd k
  obtain ⟨i, j, rfl, rfl, r⟩ := hh da db d hd
  cases rx
  cases ry
  exact ⟨i, j, rfl, rfl, k F H _ (.refl gd) (r H F)⟩
theorem od_sub : OpD κ (rI0 fun i j => .int (i - j)) D.sub := opd_i0 fun da db d h => by
  unfold D.sub at h
  split at h
  · cases h; exact ⟨_, _, rfl, rfl, fun _ _ => .int _⟩
  · cases h
theorem od_mul : OpD κ (rI CMul fun i j => .int (i * j)) D.mul := opd_i fun da db d h => by
  unfold D.mul at h
  split at h
  · split at h
    · rename_i c
      cases h; exact ⟨_, _, rfl, rfl, c, fun _ _ => .int _⟩
    · cases h
  · cases h
theorem od_fdiv : OpD κ (rI CDiv fun i j => .int (i / j)) D.fdiv := opd_i fun da db d h => by
  unfold D.fdiv at h
  split at h
  · split at h
    · rename_i c
      cases h; exact ⟨_, _, rfl, rfl, c, fun _ _ => .int _⟩
    · cases h
  · cases h
theorem od_mod : OpD κ (rI (fun _ j => 0 < j) fun i j => .int (i % j)) D.mod := opd_i fun da db d h => by
  unfold D.mod at h
  split at h
  · split at h
    · rename_i c
      cases h; exact ⟨_, _, rfl, rfl, c, fun _ _ => .int _⟩
    · cases h
  · cases h
theorem od_pow : OpD κ (rI CPow fun i j => .int (i ^ j.toNat)) D.pow := opd_i fun da db d h => by
  unfold D.pow at h
  split at h
  · split at h
    · rename_i c
      cases h; exact ⟨_, _, rfl, rfl, c, fun _ _ => .int _⟩
    · cases h
  · cases h
theorem od_lt : OpD κ (rI0 fun i j => .bl (decide (i < j))) D.lt := opd_i0 fun da db d h => by
  unfold D.lt at h
  split at h
  · cases h; exact ⟨_, _, rfl, rfl, fun _ _ => .bl _⟩
  · cases h
theorem od_le : OpD κ (rI0 fun i j => .bl (decide (i ≤ j))) D.le := opd_i0 fun da db d h => by
  unfold D.le at h
  split at h
  · cases h; exact ⟨_, _, rfl, rfl, fun _ _ => .bl _⟩
  · cases h
theorem od_gt : OpD κ (rI0 fun i j => .bl (decide (j < i))) D.gt := opd_i0 fun da db d h => by
  unfold D.gt at h
  split at h
  · cases h; exact ⟨_, _, rfl, rfl, fun _ _ => .bl _⟩
  · cases h
theorem od_ge : OpD κ (rI0 fun i j => .bl (decide (j ≤ i))) D.ge := opd_i0 fun da db d h => by
  unfold D.ge at h
  split at h
  · cases h; exact ⟨_, _, rfl, rfl, fun _ _ => .bl _⟩
  · cases h
theorem ud_neg : UnD κ (rU fun i => .int (-i)) D.neg := by
  intro F H x da d Q g rx hd k
  cases rx <;> first | (cases hd; done) | skip
  cases hd
  exact ⟨_, rfl, k F H _ (.refl g) (.int _)⟩

/-! ### + -/
/-- list + list, tracked or known to the object -/
def rCatL (K : PySem.W.Frag) : R2 := fun x y H Q => ∃ l b xs zs, x = .ref l ∧ y = .ref b ∧ SqL K H l xs ∧ SqL K H b zs ∧ xs.length + zs.length ≤ sizeLine ∧ ∀ p, H p = none → Q (.ref p) (upd H p (.lst (xs ++ zs)))
theorem op_catL {X : Cx} : OpR X (binaryOp .Add) (rCatL X.K) := by
  intro pins s σ H x y v u Q I rx ry h
  obtain ⟨l, b, xs, zs, rfl, rfl, hH, hB, hz, q⟩ := h
  cases rx
  cases ry
  obtain ⟨its, r, ⟨⟨c1, d1, t1, s1⟩, n, e, hc, hd, ht⟩, hl⟩ := I.list hH
  obtain ⟨its2, r2, ⟨⟨c2, d2, t2, s2⟩, n2, e2, hc2, hd2, ht2⟩, hl2⟩ := I.list hB
  simp only at hc hd ht hc2 hd2 ht2
  subst hc hd ht hc2 hd2 ht2
  have hl' := r.length
  have hl2' := r2.length
  refine concat_meets ⟨_, e, rfl⟩ ⟨_, e2, rfl⟩ noFill_list_add seq_list_add PySem.F.slot_list_add PySem.F.entry_list_add (PySem.F.args_list_add_2 _ _) (list_addW l b its.toArray its2.toArray n n2 none none s1 s2 (by rw [List.size_toArray, List.size_toArray]; omega)) ⟨e, e2, ?_⟩
  have ea : its.toArray ++ its2.toArray = (its ++ its2).toArray := by simp
  rw [ea]
  exact ⟨.ref _, _, I.lnew (t' := s.toks) (r.append r2) (by rw [List.length_append]; omega), rfl, q _ I.fresh⟩
def rStrAdd : R2 := fun x y H Q => ∃ i j, x = .str i ∧ y = .str j ∧ i.length + j.length ≤ sizeLine ∧ Q (.str (i ++ j)) H
def rAddV (K : PySem.W.Frag) : R2 := fun x y H Q => ((rI0 (fun i j => .int (i + j)) x y H Q ∨ rStrAdd x y H Q) ∨ rCatL K x y H Q) ∨ rCatF K x y H Q
theorem op_addV {X : Cx} : OpR X (binaryOp .Add) (rAddV X.K) := ((op_add.or op_add_str).or op_catL).or op_catF
theorem room_le' {n : Nat} (h : room n = true) : n ≤ sizeLine := Nat.le_of_lt (room_le h)
theorem os_add : OpS κ (rAddV κ.K) D.add := by
  intro F H x y da db d Q g rx ry hd k
  unfold D.add at hd
  split at hd
  · cases hd
    cases rx
    cases ry
    exact .inl (.inl (.inl ⟨_, _, rfl, rfl, k F H _ (.refl g) (.int _)⟩))
  · split at hd
    · rename_i hr
      cases hd
      cases rx with
      | lst h1 z1 r1 =>
        cases ry with
        | lst h2 z2 r2 =>
          have hz := room_le' hr
          rw [← r1.length, ← r2.length] at hz
          have hF : ∀ b o, F b = some o → ¬ isTbl o → H b = some o := fun b o e _ => (g.sub b o e).1
          refine .inl (.inr ⟨_, _, _, _, rfl, rfl, sqL_mono hF h1, sqL_mono hF h2, hz, fun p hp => ?_⟩)
          have r3 := r1.append r2
          have o : Own κ (upd H p (.lst _)) F p (.lst _) := ⟨_, upd_same, by rw [List.length_append]; exact hz, r3.new hp⟩
          obtain ⟨u, hu, nt, r⟩ := Own.share (g.none hp) o
          exact k _ _ _ (Ext.share (g.new hp fun z => z) hp (g.none hp) hu nt) r
    · cases hd
  · split at hd
    · rename_i hr
      cases hd
      cases rx with
      | tup h1 n1 z1 r1 =>
        cases ry with
        | tup h2 n2 z2 r2 =>
          have hz := room_le' hr
          rw [← r1.length, ← r2.length] at hz
          refine .inr ⟨_, _, _, _, rfl, rfl, h1, h2, hz, fun e => ?_, fun _ e => ?_, fun _ _ => ?_⟩
          · subst e
            cases r1
            exact k F H _ (.refl g) (.tup h2 n2 z2 r2)
          · subst e
            cases r2
            rw [List.append_nil] at k
            exact k F H _ (.refl g) (.tup h1 n1 z1 r1)
          · exact newT_go g (by rw [List.length_append]; exact hz) (r1.append r2) k
    · cases hd
  · split at hd
    · rename_i hr
      cases hd
      cases rx with
      | str x1 e1 =>
        cases ry with
        | str x2 e2 =>
          refine .inl (.inl (.inr ⟨_, _, rfl, rfl, ?_, k F H _ (.refl g) (.str _ ?_)⟩))
          · have hz := room_le' hr
            rw [← e1, ← e2] at hz
            simpa [Str.length] using hz
          · rw [← e1, ← e2]
            show (x1.cps ++ x2.cps).toList = _
            simp
    · cases hd
  · cases hd

/-! ### ==, != -/
end
mutual
def D.toP : D → PyData
  | .non => .none | .bl b => .bool b | .int i => .int i | .str l => .str ⟨l.toArray⟩
  | .tup ds => .tuple (D.toPL ds)
  | .lst ds => .list (D.toPL ds)
  | .dic _ => .none | .ins _ _ => .none
def D.toPL : List D → List PyData
  | [] => []
  | d :: ds => D.toP d :: D.toPL ds
end
mutual
theorem Rep.dp {κ : Kx} {H : Hp} : ∀ {n : Nat} {v : V} {d : D}, Rep κ H H v d → D.okd n d = true → Dp κ.K H v d.toP
  | _, _, _, .non, _ => .non
  | _, _, _, .bl b, _ => .bl b
  | _, _, _, .int i, _ => .int i
  | _, _, _, .str x e, _ => by
    subst e
    show Dp κ.K H (.str x) (.str ⟨x.cps.toList.toArray⟩)
    rw [Array.toArray_toList]
    exact .str x
  | 0, _, _, .tup h m z r, o => by simp [D.okd] at o
  | n + 1, _, _, .tup h m z r, o => .tup h (Reps.dp r (n := n) (by simpa only [D.okd] using o))
  | 0, _, _, .lst h z r, o => by simp [D.okd] at o
  | n + 1, _, _, .lst h z r, o => .lst h (Reps.dp r (n := n) (by simpa only [D.okd] using o))
  | _, _, _, .dic h r, o => by simp [D.okd] at o
  | _, _, _, .ins h m r, o => by simp [D.okd] at o
theorem Reps.dp {κ : Kx} {H : Hp} : ∀ {n : Nat} {vs : List V} {ds : List D}, Reps κ H H vs ds → D.okdL n ds = true → DpAll κ.K H vs (D.toPL ds)
  | _, _, _, .nil, _ => .nil
  | _, _, _, .cons r rs, o => by
    simp only [D.okdL, Bool.and_eq_true] at o
    exact .cons (Rep.dp r o.1) (Reps.dp rs o.2)
end
mutual
theorem okd_lay : ∀ {n : Nat} {d : D}, D.okd n d = true → d.toP.canLay0 = true ∧ d.toP.depth ≤ n
  | _, .non, _ => ⟨by simp only [D.toP, PyData.canLay0], by simp only [D.toP, PyData.depth]; omega⟩
  | _, .bl b, _ => ⟨by simp only [D.toP, PyData.canLay0], by simp only [D.toP, PyData.depth]; omega⟩
  | _, .int i, _ => ⟨by simp only [D.toP, PyData.canLay0], by simp only [D.toP, PyData.depth]; omega⟩
  | _, .str l, o => ⟨by
      simp only [D.toP, PyData.canLay0, PyData.strOk]
      simp only [D.okd] at o
      simpa using o, by simp only [D.toP, PyData.depth]; omega⟩
  | 0, .tup ds, o => by simp [D.okd] at o
  | n + 1, .tup ds, o => by
    simp only [D.okd] at o
    have h := okd_layL o
    simp only [D.toP, PyData.canLay0, PyData.depth]
    exact ⟨h.1, by omega⟩
  | 0, .lst ds, o => by simp [D.okd] at o
  | n + 1, .lst ds, o => by
    simp only [D.okd] at o
    have h := okd_layL o
    simp only [D.toP, PyData.canLay0, PyData.depth]
    exact ⟨h.1, by omega⟩
  | _, .dic _, o => by simp [D.okd] at o
  | _, .ins _ _, o => by simp [D.okd] at o
theorem okd_layL : ∀ {n : Nat} {ds : List D}, D.okdL n ds = true → PyData.canLayAll0 (D.toPL ds) = true ∧ PyData.depthAll (D.toPL ds) ≤ n
  | _, [], _ => ⟨by simp only [D.toPL, PyData.canLayAll0], by simp only [D.toPL, PyData.depthAll]; omega⟩
  | n, d :: ds, o => by
    simp only [D.okdL, Bool.and_eq_true] at o
    have h1 := okd_lay o.1
    have h2 := okd_layL o.2
    simp only [D.toPL, PyData.canLayAll0, PyData.depthAll, Bool.and_eq_true]
    exact ⟨⟨h1.1, h2.1⟩, by omega⟩
end
theorem okd_shaped {d : D} (o : D.okd 60 d = true) : SeqAt.shaped d.toP = true := by
  have h := okd_lay o
  unfold SeqAt.shaped
  rw [h.1, Bool.true_and, decide_eq_true (by omega)]
theorem str_beq {x y : List Nat} : ((⟨x.toArray⟩ : Str) == ⟨y.toArray⟩) = (x == y) := by
  rw [Bool.eq_iff_iff, beq_iff_eq, beq_iff_eq]
  constructor
  · intro h
    have h1 := congrArg (fun z : Str => z.cps.toList) h
    simpa using h1
  · intro h; rw [h]
mutual
theorem okd_eqv : ∀ {n m : Nat} {a b : D}, D.okd n a = true → D.okd m b = true → PyData.eqv a.toP b.toP = D.eqv a b
  | _, _, .dic _, _, o, _ => by simp [D.okd] at o
  | _, _, .ins _ _, _, o, _ => by simp [D.okd] at o
  | _, _, _, .dic _, _, o => by simp [D.okd] at o
  | _, _, _, .ins _ _, _, o => by simp [D.okd] at o
  | 0, _, .tup _, _, o, _ => by simp [D.okd] at o
  | 0, _, .lst _, _, o, _ => by simp [D.okd] at o
  | _, 0, _, .tup _, _, o => by simp [D.okd] at o
  | _, 0, _, .lst _, _, o => by simp [D.okd] at o
  | n + 1, m + 1, .tup xs, .tup ys, o, o' => by
    simp only [D.okd] at o o'
    simp only [D.toP, PyData.eqv, D.eqv]
    exact okd_eqvL o o'
  | n + 1, m + 1, .lst xs, .lst ys, o, o' => by
    simp only [D.okd] at o o'
    simp only [D.toP, PyData.eqv, D.eqv]
    exact okd_eqvL o o'
  | _, _, .str x, .str y, _, _ => by
    simp only [D.toP, PyData.eqv, D.eqv]
    exact str_beq
  | _, _, .non, .non, _, _ => by simp only [D.toP, PyData.eqv, D.eqv]
  | _, _, .non, .bl _, _, _ => by simp only [D.toP, PyData.eqv, D.eqv]
  | _, _, .non, .int _, _, _ => by simp only [D.toP, PyData.eqv, D.eqv]
  | _, _, .non, .str _, _, _ => by simp only [D.toP, PyData.eqv, D.eqv]
  | _, _, .non, .tup _, _, _ => by simp only [D.toP, PyData.eqv, D.eqv]
  | _, _, .non, .lst _, _, _ => by simp only [D.toP, PyData.eqv, D.eqv]
  | _, _, .bl _, .non, _, _ => by simp only [D.toP, PyData.eqv, D.eqv]
  | _, _, .bl _, .bl _, _, _ => by simp only [D.toP, PyData.eqv, D.eqv]
  | _, _, .bl _, .int _, _, _ => by simp only [D.toP, PyData.eqv, D.eqv]
  | _, _, .bl _, .str _, _, _ => by simp only [D.toP, PyData.eqv, D.eqv]
  | _, _, .bl _, .tup _, _, _ => by simp only [D.toP, PyData.eqv, D.eqv]
  | _, _, .bl _, .lst _, _, _ => by simp only [D.toP, PyData.eqv, D.eqv]
  | _, _, .int _, .non, _, _ => by simp only [D.toP, PyData.eqv, D.eqv]
  | _, _, .int _, .bl _, _, _ => by simp only [D.toP, PyData.eqv, D.eqv]
  | _, _, .int _, .int _, _, _ => by simp only [D.toP, PyData.eqv, D.eqv]
  | _, _, .int _, .str _, _, _ => by simp only [D.toP, PyData.eqv, D.eqv]
  | _, _, .int _, .tup _, _, _ => by simp only [D.toP, PyData.eqv, D.eqv]
  | _, _, .int _, .lst _, _, _ => by simp only [D.toP, PyData.eqv, D.eqv]
  | _, _, .str _, .non, _, _ => by simp only [D.toP, PyData.eqv, D.eqv]
  | _, _, .str _, .bl _, _, _ => by simp only [D.toP, PyData.eqv, D.eqv]
  | _, _, .str _, .int _, _, _ => by simp only [D.toP, PyData.eqv, D.eqv]
  | _, _, .str _, .tup _, _, _ => by simp only [D.toP, PyData.eqv, D.eqv]
  | _, _, .str _, .lst _, _, _ => by simp only [D.toP, PyData.eqv, D.eqv]
  | _, _, .tup _, .non, _, _ => by simp only [D.toP, PyData.eqv, D.eqv]
  | _, _, .tup _, .bl _, _, _ => by simp only [D.toP, PyData.eqv, D.eqv]
  | _, _, .tup _, .int _, _, _ => by simp only [D.toP, PyData.eqv, D.eqv]
  | _, _, .tup _, .str _, _, _ => by simp only [D.toP, PyData.eqv, D.eqv]
  | _, _, .tup _, .lst _, _, _ => by simp only [D.toP, PyData.eqv, D.eqv]
  | _, _, .lst _, .non, _, _ => by simp only [D.toP, PyData.eqv, D.eqv]
  | _, _, .lst _, .bl _, _, _ => by simp only [D.toP, PyData.eqv, D.eqv]
  | _, _, .lst _, .int _, _, _ => by simp only [D.toP, PyData.eqv, D.eqv]
  | _, _, .lst _, .str _, _, _ => by simp only [D.toP, PyData.eqv, D.eqv]
  | _, _, .lst _, .tup _, _, _ => by simp only [D.toP, PyData.eqv, D.eqv]
theorem okd_eqvL : ∀ {n m : Nat} {as bs : List D}, D.okdL n as = true → D.okdL m bs = true → PyData.eqvAll (D.toPL as) (D.toPL bs) = D.eqvL as bs
  | _, _, [], [], _, _ => by simp only [D.toPL, PyData.eqvAll, D.eqvL]
  | _, _, [], _ :: _, _, _ => by simp only [D.toPL, PyData.eqvAll, D.eqvL]
  | _, _, _ :: _, [], _, _ => by simp only [D.toPL, PyData.eqvAll, D.eqvL]
  | _, _, a :: as, b :: bs, o, o' => by
    simp only [D.okdL, Bool.and_eq_true] at o o'
    simp only [D.toPL, PyData.eqvAll, D.eqvL]
    rw [okd_eqv o.1 o'.1, okd_eqvL o.2 o'.2]
end
section
variable {κ : Kx}
def rEqV (K : PySem.W.Frag) : R2 := fun x y H Q => rEq x y H Q ∨ rEqD K x y H Q
def rNeV (K : PySem.W.Frag) : R2 := fun x y H Q => rNe x y H Q ∨ rNeD K x y H Q
theorem op_eqV {X : Cx} (hu : X.A.units + 64 < cLine) : OpR X (compareOp .Eq) (rEqV X.K) := op_eq.or (op_eqD hu)
theorem op_neV {X : Cx} (hu : X.A.units + 64 < cLine) : OpR X (compareOp .NotEq) (rNeV X.K) := op_ne.or (op_neD hu)
theorem str_dec {x y : Str} {l m : List Nat} (h1 : x.cps.toList = l) (h2 : y.cps.toList = m) : decide (V.str x = V.str y) = (l == m) := by
  subst h1 h2
  rw [dec_str, ← str_beq, Array.toArray_toList, Array.toArray_toList]
theorem scal_rep {T F : Hp} {x y : V} {a b : D} (rx : Rep κ T F x a) (ry : Rep κ T F y b) (h : D.isScal a b = true) : scal x y = true ∧ decide (x = y) = D.eqv a b := by
  cases rx <;> cases ry <;> first | (cases h; done) | skip
  · exact ⟨rfl, by rw [dec_bl]; simp only [D.eqv]⟩
  · exact ⟨rfl, by rw [dec_int]; simp only [D.eqv]⟩
  · rename_i x1 l1 e1 x2 l2 e2
    exact ⟨rfl, by rw [str_dec e1 e2]; simp only [D.eqv]⟩
theorem od_eq : OpD κ (rEqV κ.K) D.eq := by
  intro F H x y da db d Q g rx ry hd k
  unfold D.eq at hd
  split at hd
  · rename_i h
    cases hd
    obtain ⟨h1, h2⟩ := scal_rep rx ry h
    exact .inl ⟨h1, by rw [h2]; exact k F H _ (.refl g) (.bl _)⟩
  · split at hd
    · rename_i h
      cases hd
      rw [Bool.and_eq_true] at h
      refine .inr ⟨_, _, rx.dp h.1, ry.dp h.2, okd_shaped h.1, okd_shaped h.2, ?_⟩
      rw [okd_eqv h.1 h.2]
      exact k F H _ (.refl g) (.bl _)
    · cases hd
theorem od_ne : OpD κ (rNeV κ.K) D.ne := by
  intro F H x y da db d Q g rx ry hd k
  unfold D.ne at hd
  split at hd
  · rename_i h
    cases hd
    obtain ⟨h1, h2⟩ := scal_rep rx ry h
    exact .inl ⟨h1, by rw [h2]; exact k F H _ (.refl g) (.bl _)⟩
  · split at hd
    · rename_i h
      cases hd
      rw [Bool.and_eq_true] at h
      refine .inr ⟨_, _, rx.dp h.1, ry.dp h.2, okd_shaped h.1, okd_shaped h.2, ?_⟩
      rw [okd_eqv h.1 h.2]
      exact k F H _ (.refl g) (.bl _)
    · cases hd
/-! ### is -/
theorem rep_non {T F : Hp} {x : V} {d : D} (r : Rep κ T F x d) : D.isNon d = some (.bl (decide (x = .non))) ∧ D.isntNon d = some (.bl (!decide (x = .non))) := by
  cases r <;> exact ⟨by simp [D.isNon], by simp [D.isntNon]⟩

theorem op_isNV {X : Cx} : OpR X (compareOp .Is) (fun x y H Q => (y = .non ∧ Q (.bl (decide (x = .non))) H)) := op_isN
/-- x is None: the second place is the constant -/
theorem ve_isN {M : Wd} {X : Cx} {a : Expr} {fa : FE} {pos p : Pos} {j : Nat} (ha : RE M X a fa) (hm : behindInMarks .Is (.Constant .none j p) = false := by rfl) : VE M X (.Compare a [.Is] [.Constant .none j p] pos) (e1 D.isNon fa) := by
  obtain ⟨ta, pa, qa⟩ := ha
  refine ⟨_, pe_cmpR op_isN pa pe_non hm, fun F0 H0 F H σ ρ d Q s hf k => ?_⟩
  obtain ⟨da, hda, hf⟩ := bsome hf
  refine qa F0 H0 F H σ ρ da _ s hda fun F1 H1 x g1 r1 => ?_
  rw [(rep_non r1).1] at hf
  cases hf
  exact ⟨rfl, k F1 H1 _ g1 (.bl _)⟩
theorem ve_isntN {M : Wd} {X : Cx} {a : Expr} {fa : FE} {pos p : Pos} {j : Nat} (ha : RE M X a fa) (hm : behindInMarks .IsNot (.Constant .none j p) = false := by rfl) : VE M X (.Compare a [.IsNot] [.Constant .none j p] pos) (e1 D.isntNon fa) := by
  obtain ⟨ta, pa, qa⟩ := ha
  refine ⟨_, pe_cmpR op_notN pa pe_non hm, fun F0 H0 F H σ ρ d Q s hf k => ?_⟩
  obtain ⟨da, hda, hf⟩ := bsome hf
  refine qa F0 H0 F H σ ρ da _ s hda fun F1 H1 x g1 r1 => ?_
  rw [(rep_non r1).2] at hf
  cases hf
  exact ⟨rfl, k F1 H1 _ g1 (.bl _)⟩
/-- an int is not True, not False -/
def rIntNotB : R2 := fun x y H Q => ∃ i b, x = .int i ∧ y = .bl b ∧ Q (.bl true) H
theorem op_intNotB {X : Cx} : OpR X (compareOp .IsNot) rIntNotB := by
  intro pins s σ H x y v u Q I rx ry h
  obtain ⟨i, b, rfl, rfl, q⟩ := h
  obtain ⟨t, rfl⟩ := (show ∃ t, v = Value.int i t from rx)
  cases (show u = Value.bool b from ry)
  exact wpAny_isNot_other rfl (fun z => by cases z) ⟨.bl true, H, I, rfl, q⟩
theorem ve_isntB {M : Wd} {X : Cx} {a : Expr} {fa : FE} {pos p : Pos} {j : Nat} {b : Bool} (ha : RE M X a fa) (hm : behindInMarks .IsNot (.Constant (.bool b) j p) = false := by rfl) : VE M X (.Compare a [.IsNot] [.Constant (.bool b) j p] pos) (e1 (D.isntB b) fa) := by
  obtain ⟨ta, pa, qa⟩ := ha
  refine ⟨_, pe_cmpR op_intNotB pa pe_bl hm, fun F0 H0 F H σ ρ d Q s hf k => ?_⟩
  obtain ⟨da, hda, hf⟩ := bsome hf
  refine qa F0 H0 F H σ ρ da _ s hda fun F1 H1 x g1 r1 => ?_
  cases r1 <;> first | (cases hf; done) | skip
  cases hf
  exact ⟨_, _, rfl, rfl, k F1 H1 _ g1 (.bl _)⟩

/-! ### in -/
variable {κ : Kx}
theorem rep_flat {T F : Hp} {x : V} {d : D} (r : Rep κ T F x d) (f : d.flat = true) : flatV x = true := by
  cases r <;> first | rfl | (cases f; done)
theorem eqV_rep {T F T' F' : Hp} {x y : V} {a b : D} (rx : Rep κ T F x a) (ry : Rep κ T' F' y b) (f : a.flat = true) (f' : b.flat = true) : eqV x y = D.eqv a b := by
  cases rx <;> cases ry <;> first | (cases f; done) | (cases f'; done) | (simp only [eqV, D.eqv]; done) | skip
  rename_i x1 l1 e1 x2 l2 e2
  have h := str_dec e1 e2
  rw [dec_str] at h
  simp only [eqV, D.eqv]
  exact h
theorem reps_flat {T F : Hp} : ∀ {vs : List V} {ds : List D}, Reps κ T F vs ds → ds.all D.flat = true → vs.all flatV = true
  | _, _, .nil, _ => rfl
  | _, _, .cons r rs, f => by
    rw [List.all_cons, Bool.and_eq_true] at f ⊢
    exact ⟨rep_flat r f.1, reps_flat rs f.2⟩
theorem inV_rep {T F T' F' : Hp} {x : V} {a : D} (rx : Rep κ T F x a) (f : a.flat = true) : ∀ {vs : List V} {ds : List D}, Reps κ T' F' vs ds → ds.all D.flat = true → inV x vs = ds.any fun z => D.eqv z a
  | _, _, .nil, _ => rfl
  | _, _, .cons r rs, f' => by
    rw [List.all_cons, Bool.and_eq_true] at f'
    unfold inV
    rw [List.any_cons, List.any_cons, eqV_rep r rx f'.1 f]
    have h := inV_rep rx f rs f'.2
    unfold inV at h
    rw [h]
theorem any_toP {n m : Nat} {a : D} (oa : D.okd n a = true) : ∀ {ds : List D}, D.okdL m ds = true → ((D.toPL ds).any fun z => PyData.eqv z a.toP) = ds.any fun z => D.eqv z a
  | [], _ => by simp only [D.toPL, List.any_nil]
  | d :: ds, o => by
    simp only [D.okdL, Bool.and_eq_true] at o
    simp only [D.toPL, List.any_cons]
    rw [okd_eqv o.1 oa, any_toP oa o.2]
def rInV (K : PySem.W.Frag) (neg : Bool) : R2 := fun x y H Q => rIn K neg x y H Q ∨ (if neg then rNotInD K else rInD K) x y H Q
theorem op_inV {X : Cx} (hu : X.A.units + 65 < cLine) : OpR X (compareOp .In) (rInV X.K false) := op_in_seq.or (op_inD hu)
theorem op_notInV {X : Cx} (hu : X.A.units + 65 < cLine) : OpR X (compareOp .NotIn) (rInV X.K true) := op_notIn_seq.or (op_notInD hu)
theorem okd_l {xs : List D} (o : D.okd 60 (.lst xs) = true) : D.okdL 59 xs = true := by simpa only [D.okd] using o
theorem od_in {neg : Bool} : OpD κ (rInV κ.K neg) (D.isIn neg) := by
  intro F H x y da db d Q g rx ry hd k
  unfold D.isIn at hd
  split at hd
  · rename_i xs
    split at hd
    · rename_i o
      cases hd
      rw [Bool.and_eq_true] at o
      cases ry with
      | lst h z r =>
        have h2 : Dp κ.K H _ (.list (D.toPL xs)) := (Rep.lst h z r).dp o.2
        have s2 : SeqAt.shaped (.list (D.toPL xs)) = true := okd_shaped o.2
        have e := any_toP o.1 (okd_l o.2)
        cases neg with
        | false => exact .inr ⟨_, _, rx.dp o.1, h2, okd_shaped o.1, s2, by rw [e]; exact k F H _ (.refl g) (.bl _)⟩
        | true => exact .inr ⟨_, _, rx.dp o.1, h2, okd_shaped o.1, s2, by rw [e]; exact k F H _ (.refl g) (.bl _)⟩
    · cases hd
  · rename_i xs
    split at hd
    · rename_i o
      cases hd
      rw [Bool.and_eq_true] at o
      cases ry with
      | tup h n z r =>
        exact .inl ⟨_, _, rfl, .inr h, rep_flat rx o.1, reps_flat r o.2, by rw [inV_rep rx o.1 r o.2]; exact k F H _ (.refl g) (.bl _)⟩
    · cases hd
  · cases hd
def rSign (neg : Bool) : R2 := fun x y H Q => ∃ (c : Nat) (z : Str), x = .str ⟨#[c]⟩ ∧ y = .str z ∧ Q (.bl (if neg then !decide (c ∈ z.cps.toList) else decide (c ∈ z.cps.toList))) H
theorem op_signV {X : Cx} : OpR X (compareOp .In) (rSign false) := op_in_sign
theorem op_notSignV {X : Cx} : OpR X (compareOp .NotIn) (rSign true) := op_notIn_sign
theorem od_sign {neg : Bool} : OpD κ (rSign neg) (D.isSign neg) := by
  intro F H x y da db d Q g rx ry hd k
  unfold D.isSign at hd
  split at hd
  · rename_i c z
    cases hd
    cases rx with
    | str x1 e1 =>
      cases ry with
      | str x2 e2 =>
        have ex : x1 = ⟨#[c]⟩ := by
          cases x1 with
          | mk cps =>
            have : cps = #[c] := by
              have h2 := congrArg List.toArray e1
              simpa using h2
            rw [this]
        subst ex e2
        exact ⟨c, x2, rfl, rfl, k F H _ (.refl g) (.bl _)⟩
  · cases hd
/-! ### in a dict of tuple keys -/
theorem ints_of : ∀ {ds : List D}, ds.all D.isInt = true → ∃ ns : List Int, ds = ns.map .int
  | [], _ => ⟨[], rfl⟩
  | d :: ds, o => by
    rw [List.all_cons, Bool.and_eq_true] at o
    obtain ⟨ns, e⟩ := ints_of o.2
    cases d <;> first | (cases o.1; done) | skip
    exact ⟨_ :: ns, by rw [e]; rfl⟩
theorem reps_ints {T F : Hp} : ∀ {vs : List V} {ns : List Int}, Reps κ T F vs (ns.map .int) → vs = ns.map V.int
  | _, [], .nil => rfl
  | _, n :: ns, .cons r rs => by
    cases r
    rw [reps_ints rs]
    rfl
/-- a key -/
theorem key_rep {T F : Hp} {v : V} {d : D} (r : Rep κ T F v d) (o : d.okKey = true) : ∃ (b : Addr) (ns : List Int), v = .ref b ∧ d = .tup (ns.map .int) ∧ SqT κ.K T b (ns.map V.int) ∧ NoD κ.K T b ∧ ns.length ≤ sizeLine := by
  cases r <;> first | (cases o; done) | skip
  rename_i a vs ds h n z r
  obtain ⟨ns, e⟩ := ints_of (show ds.all D.isInt = true from o)
  subst e
  have e2 := reps_ints r
  subst e2
  exact ⟨a, ns, rfl, rfl, h, n, by simpa using z⟩
theorem kys_of {T F : Hp} : ∀ {kvs : List DRow} {ds : List (D × D)}, RepK κ T F kvs ds → Kys κ.K T kvs
  | _, _, .nil => fun _ h => nomatch h
  | _, _, .cons k n l r rs => fun p hp => by
    rcases List.mem_cons.mp hp with e | hp
    · subst e
      rw [List.map_map]
      exact k
    · exact kys_of rs p hp
theorem map_kV {ns : List Int} : (ns.map (Sum.inl : Int → Key)).map kV = ns.map V.int := by
  rw [List.map_map]
  rfl
theorem eqvL_ints : ∀ {ns ms : List Int}, D.eqvL (ns.map .int) (ms.map .int) = decide (ns = ms)
  | [], [] => rfl
  | [], _ :: _ => by simp [D.eqvL]
  | _ :: _, [] => by simp [D.eqvL]
  | n :: ns, m :: ms => by
    simp only [List.map_cons, D.eqvL, D.eqv]
    rw [eqvL_ints]
    by_cases h : n = m <;> simp [h]
theorem inl_inj {ns ms : List Int} : (ns.map (Sum.inl : Int → Key) = ms.map Sum.inl) ↔ ns = ms := List.map_inj_right fun _ _ h => Sum.inl.inj h
theorem look_rep {T F : Hp} {ms : List Int} : ∀ {kvs : List DRow} {ds : List (D × D)}, RepK κ T F kvs ds → (valW kvs (ms.map Sum.inl)).isSome = (look ds (.tup (ms.map .int))).isSome ∧ ∀ v, valW kvs (ms.map Sum.inl) = some v → ∃ d, look ds (.tup (ms.map .int)) = some d ∧ Rep κ T F v d
  | _, _, .nil => ⟨rfl, fun _ h => nomatch h⟩
  | _, _, .cons (ns := ns) (d := d) (ds := ds) k n l r rs => by
    by_cases e : ns = ms
    · subst e
      have h1 : look ((.tup (ns.map .int), d) :: ds) (.tup (ns.map .int)) = some d := by
        unfold look
        rw [List.find?_cons_of_pos (by simp only [D.eqv]; rw [eqvL_ints]; simp)]
        rfl
      rw [valW_pos rfl, h1]
      exact ⟨rfl, fun v h => by cases h; exact ⟨_, rfl, r⟩⟩
    · have h1 : look ((.tup (ns.map .int), d) :: ds) (.tup (ms.map .int)) = look ds (.tup (ms.map .int)) := by
        unfold look
        rw [List.find?_cons_of_neg (by simp only [D.eqv]; rw [eqvL_ints]; simpa using e)]
      rw [valW_neg (fun z => e (inl_inj.mp z)), h1]
      exact look_rep rs
theorem od_inW {X : Cx} {M : Wd} {neg : Bool} : OpD (kx X M) (rInW X neg) (D.inDic neg) := by
  intro F H x y da db d Q g rx ry hd k
  unfold D.inDic at hd
  split at hd
  · split at hd
    · rename_i o
      cases hd
      obtain ⟨b, ns, rfl, rfl, hb, hn, hl⟩ := key_rep rx o
      cases ry with
      | dic h r =>
        obtain ⟨e1, e2⟩ := look_rep (ms := ns) r
        refine ⟨_, valW _ (ns.map Sum.inl), rfl, ⟨_, _, b, h, kys_of r, rfl, by rw [map_kV]; exact hb, rfl⟩, ?_⟩
        rw [e1]
        exact k F H _ (.refl g) (.bl _)
    · cases hd
  · cases hd
end
end Vl
end
section
set_option Elab.async false
set_option linter.all false
set_option maxRecDepth 100000
set_option maxHeartbeats 2000000
/-! tests, logic, builtins, items -/
namespace Vl
open PySem PySem.Spec PyProof.Rows L2 GxR TupF Dc
section
variable {M : Wd} {X : Cx} {e a b c : Expr} {es rest : List Expr} {f fa fb : FE} {fs : FA} {t u : FT} {pos p : Pos}
/-! ### tests -/
theorem ct_val (h : RE M X e f) (he : ∀ whole, isTrue e X.env whole = (do let v ← whole; standAt e.pos; holding [v] (truthy v)) := by intro _; rfl) : CT M X e (tE f) := by
  obtain ⟨te, pe, qe⟩ := h
  refine ⟨_, pt_val pe he, fun F0 H0 F H σ ρ b Q s hf k => ?_⟩
  obtain ⟨d, hd, hf⟩ := bsome hf
  refine qe F0 H0 F H σ ρ d _ s hd fun F1 H1 v g1 r1 => ?_
  split at hf
  · cases hf
    cases r1
    exact ⟨_, rfl, k F1 H1 g1⟩
  · cases hf
theorem ct_two {op : CmpOp} {r : R2} {h : D → D → Option D} (ho : OpR X (compareOp op) r) (hd : OpD (kx X M) r h) (hm : behindInMarks op b = false) (ha : RE M X a fa) (hb : RE M X b fb) : CT M X (.Compare a [op] [b] pos) (t2 h fa fb) := by
  obtain ⟨ta, pa, qa⟩ := ha
  obtain ⟨tb, pb, qb⟩ := hb
  refine ⟨_, pt_cmpR ho pa pb hm, fun F0 H0 F H σ ρ b Q s hf k => ?_⟩
  obtain ⟨d, hd', hf⟩ := bsome hf
  obtain ⟨da, hda, hd'⟩ := bsome hd'
  obtain ⟨db, hdb, hd'⟩ := bsome hd'
  refine qa F0 H0 F H σ ρ da _ s hda fun F1 H1 x g1 r1 => ?_
  refine qb F0 H0 F1 H1 σ ρ db _ (s.go g1) hdb fun F2 H2 y g2 r2 => ?_
  refine hd F2 H2 x y da db d _ g2.good (r1.allExt g2.toExt) r2 hd' fun F3 H3 v g3 r3 => ?_
  split at hf
  · cases hf
    cases r3
    exact ⟨_, rfl, k F3 H3 ((g1.trans s.good g2).trans s.good g3)⟩
  · cases hf
theorem ct_isN {j : Nat} (ha : RE M X a fa) : CT M X (.Compare a [.Is] [.Constant .none j p] pos) (tE (e1 D.isNon fa)) := by
  obtain ⟨ta, pa, qa⟩ := ha
  refine ⟨_, pt_cmpR op_isN pa (pe_non (pos := p) (j := j)) rfl, fun F0 H0 F H σ ρ b Q s hf k => ?_⟩
  obtain ⟨d, hd', hf⟩ := bsome hf
  obtain ⟨da, hda, hd'⟩ := bsome hd'
  refine qa F0 H0 F H σ ρ da _ s hda fun F1 H1 x g1 r1 => ?_
  rw [(rep_non r1).1] at hd'
  cases hd'
  cases hf
  exact ⟨rfl, _, rfl, k F1 H1 g1⟩
theorem ct_isntN {j : Nat} (ha : RE M X a fa) : CT M X (.Compare a [.IsNot] [.Constant .none j p] pos) (tE (e1 D.isntNon fa)) := by
  obtain ⟨ta, pa, qa⟩ := ha
  refine ⟨_, pt_cmpR op_notN pa (pe_non (pos := p) (j := j)) rfl, fun F0 H0 F H σ ρ b Q s hf k => ?_⟩
  obtain ⟨d, hd', hf⟩ := bsome hf
  obtain ⟨da, hda, hd'⟩ := bsome hd'
  refine qa F0 H0 F H σ ρ da _ s hda fun F1 H1 x g1 r1 => ?_
  rw [(rep_non r1).2] at hd'
  cases hd'
  cases hf
  exact ⟨rfl, _, rfl, k F1 H1 g1⟩
theorem CW.ct (h : CW M X e t) : CT M X e t := let ⟨tt, p, q⟩ := h; ⟨tt, p.pt, q⟩
theorem cw_and1 (h : CT M X a t) : CW M X (.BoolOp .And [a] pos) t := let ⟨tt, p, q⟩ := h; ⟨tt, pw_and1 p, q⟩
theorem cw_or1 (h : CT M X a t) : CW M X (.BoolOp .Or [a] pos) t := let ⟨tt, p, q⟩ := h; ⟨tt, pw_or1 p, q⟩
theorem cw_and (ha : CT M X a t) (hb : CW M X (.BoolOp .And (b :: rest) pos) u) : CW M X (.BoolOp .And (a :: b :: rest) pos) (tAnd t u) := by
  obtain ⟨ta, pa, qa⟩ := ha
  obtain ⟨tb, pb, qb⟩ := hb
  refine ⟨_, pw_and pa pb, fun F0 H0 F H σ ρ b Q s hf k => ?_⟩
  obtain ⟨d, hd, hf⟩ := bsome hf
  refine qa F0 H0 F H σ ρ d _ s hd fun F1 H1 g1 => ?_
  cases d with
  | true => exact qb F0 H0 F1 H1 σ ρ b _ (s.go g1) hf fun F2 H2 g2 => k F2 H2 (g1.trans s.good g2)
  | false => cases hf; exact k F1 H1 g1
theorem cw_or (ha : CT M X a t) (hb : CW M X (.BoolOp .Or (b :: rest) pos) u) : CW M X (.BoolOp .Or (a :: b :: rest) pos) (tOr t u) := by
  obtain ⟨ta, pa, qa⟩ := ha
  obtain ⟨tb, pb, qb⟩ := hb
  refine ⟨_, pw_or pa pb, fun F0 H0 F H σ ρ b Q s hf k => ?_⟩
  obtain ⟨d, hd, hf⟩ := bsome hf
  refine qa F0 H0 F H σ ρ d _ s hd fun F1 H1 g1 => ?_
  cases d with
  | false => exact qb F0 H0 F1 H1 σ ρ b _ (s.go g1) hf fun F2 H2 g2 => k F2 H2 (g1.trans s.good g2)
  | true => cases hf; exact k F1 H1 g1
theorem ct_not (ha : CT M X a t) : CT M X (.UnaryOp .Not a pos) (tNot t) := by
  obtain ⟨ta, pa, qa⟩ := ha
  refine ⟨_, pt_not pa, fun F0 H0 F H σ ρ b Q s hf k => ?_⟩
  obtain ⟨d, hd, hf⟩ := bsome hf
  cases hf
  exact qa F0 H0 F H σ ρ d _ s hd fun F1 H1 g1 => k F1 H1 g1
/-! ### as values -/
theorem ve_not (ha : RE M X a fa) : VE M X (.UnaryOp .Not a pos) (e1 D.not fa) := by
  obtain ⟨ta, pa, qa⟩ := ha
  refine ⟨_, pe_not pa, fun F0 H0 F H σ ρ d Q s hf k => ?_⟩
  obtain ⟨da, hda, hf⟩ := bsome hf
  refine qa F0 H0 F H σ ρ da _ s hda fun F1 H1 x g1 r1 => ?_
  unfold D.not at hf
  split at hf
  · cases hf
    cases r1
    exact ⟨_, rfl, k F1 H1 _ g1 (.bl _)⟩
  · cases hf
theorem ve_one {op} (h : VE M X a fa) : VE M X (.BoolOp op [a] pos) fa := let ⟨te, p, q⟩ := h; ⟨te, pe_one p, q⟩
theorem ve_and (ha : RE M X a fa) (hb : VE M X (.BoolOp .And (b :: rest) pos) fb) : VE M X (.BoolOp .And (a :: b :: rest) pos) (eAnd fa fb) := by
  obtain ⟨ta, pa, qa⟩ := ha
  obtain ⟨tb, pb, qb⟩ := hb
  refine ⟨_, pe_and pa pb, fun F0 H0 F H σ ρ d Q s hf k => ?_⟩
  obtain ⟨da, hda, hf⟩ := bsome hf
  refine qa F0 H0 F H σ ρ da _ s hda fun F1 H1 x g1 r1 => ?_
  split at hf
  · cases r1
    refine ⟨true, rfl, ?_⟩
    rw [if_pos rfl]
    exact qb F0 H0 F1 H1 σ ρ d _ (s.go g1) hf fun F2 H2 v g2 r2 => k F2 H2 v (g1.trans s.good g2) r2
  · cases r1
    cases hf
    refine ⟨false, rfl, ?_⟩
    rw [if_neg (by decide)]
    exact k F1 H1 _ g1 (.bl _)
  · cases hf
theorem ve_or (ha : RE M X a fa) (hb : VE M X (.BoolOp .Or (b :: rest) pos) fb) : VE M X (.BoolOp .Or (a :: b :: rest) pos) (eOr fa fb) := by
  obtain ⟨ta, pa, qa⟩ := ha
  obtain ⟨tb, pb, qb⟩ := hb
  refine ⟨_, pe_or pa pb, fun F0 H0 F H σ ρ d Q s hf k => ?_⟩
  obtain ⟨da, hda, hf⟩ := bsome hf
  refine qa F0 H0 F H σ ρ da _ s hda fun F1 H1 x g1 r1 => ?_
  split at hf
  · cases r1
    refine ⟨false, rfl, ?_⟩
    rw [if_neg (by decide)]
    exact qb F0 H0 F1 H1 σ ρ d _ (s.go g1) hf fun F2 H2 v g2 r2 => k F2 H2 v (g1.trans s.good g2) r2
  · cases r1
    cases hf
    refine ⟨true, rfl, ?_⟩
    rw [if_pos rfl]
    exact k F1 H1 _ g1 (.bl _)
  · cases hf
theorem ve_if (hc : CT M X c t) (ha : VE M X a fa) (hb : VE M X b fb) : VE M X (.IfExp c a b pos) (eIf t fa fb) := by
  obtain ⟨tc, pc, qc⟩ := hc
  obtain ⟨ta, pa, qa⟩ := ha
  obtain ⟨tb, pb, qb⟩ := hb
  refine ⟨_, pe_ifExp pc pa pb, fun F0 H0 F H σ ρ d Q s hf k => ?_⟩
  obtain ⟨x, hx, hf⟩ := bsome hf
  refine qc F0 H0 F H σ ρ x _ s hx fun F1 H1 g1 => ?_
  cases x with
  | true => exact qa F0 H0 F1 H1 σ ρ d _ (s.go g1) hf fun F2 H2 v g2 r2 => k F2 H2 v (g1.trans s.good g2) r2
  | false => exact qb F0 H0 F1 H1 σ ρ d _ (s.go g1) hf fun F2 H2 v g2 r2 => k F2 H2 v (g1.trans s.good g2) r2

/-! ### things whose items are shared -/
def ItR (κ : Kx) (T F : Hp) (v : V) (d : D) : Prop := Rep κ T F v d ∨ ∃ a, v = .ref a ∧ Own κ T F a d
def IE (M : Wd) (X : Cx) (e : Expr) (f : FE) : Prop := ∃ te, PE X e te ∧ ∀ F0 H0 F H σ ρ d Q, RS (kx X M) F0 H0 F H σ ρ → f ρ = some d → (∀ F' H' v, Go (kx X M) F H F' H' → ItR (kx X M) H' F' v d → Q v H') → te σ H Q
theorem VE.ie (h : VE M X e f) : IE M X e f := let ⟨te, p, q⟩ := h; ⟨te, p, fun F0 H0 F H σ ρ d Q s hd k => q F0 H0 F H σ ρ d Q s hd fun F' H' v g r => k F' H' v g (.inl r)⟩
theorem ie_var {i : Nat} {x : Str} (h : PE X (.Name x pos) (tVar i)) : IE M X (.Name x pos) (eVar i) := by
  refine ⟨_, h, fun F0 H0 F H σ ρ d Q s hd k => ?_⟩
  unfold eVar at hd
  split at hd
  · rename_i d' he
    cases hd
    obtain ⟨v, h1, h2⟩ := s.sh i _ he
    exact ⟨v, h1, k F H v (.refl s.good) (.inl h2)⟩
  · rename_i d' he
    cases hd
    obtain ⟨a, h1, h2, h3, h4⟩ := s.ow i _ he
    exact ⟨.ref a, h1, k F H _ (.refl s.good) (.inr ⟨a, rfl, h4⟩)⟩
  · cases hd
end
section
variable {κ : Kx} {F H F' H' : Hp} {v : V} {d : D}
theorem ItR.ext (r : ItR κ H F v d) (e : Ext F H F' H') : ItR κ H' F' v d := by
  rcases r with r | ⟨a, ea, o⟩
  · exact .inl (r.ext e)
  · exact .inr ⟨a, ea, o.mono (Fx.of e.h) (fun b o h _ => e.f b o h) fun o h n => e.h a o h n⟩
theorem ItR.lst {ds : List D} (r : ItR κ H F v (.lst ds)) (g : Sub F H) : ∃ a vs, v = .ref a ∧ SqL κ.K H a vs ∧ vs.length ≤ sizeLine ∧ Reps κ H F vs ds := by
  rcases r with r | ⟨a, ea, vs, h, z, r⟩
  · cases r with
    | lst h z r => exact ⟨_, _, rfl, sqL_mono (fun b o e _ => (g b o e).1) h, z, r⟩
  · exact ⟨a, vs, ea, .inl (.inl h), z, r⟩
theorem ItR.tup {ds : List D} (r : ItR κ H F v (.tup ds)) : ∃ a vs, v = .ref a ∧ SqT κ.K H a vs ∧ NoD κ.K H a ∧ vs.length ≤ sizeLine ∧ Reps κ H F vs ds := by
  rcases r with r | ⟨a, ea, o⟩
  · cases r with
    | tup h n z r => exact ⟨_, _, rfl, h, n, z, r⟩
  · exact o.elim
theorem ItR.dic {kvs : List (D × D)} (r : ItR κ H F v (.dic kvs)) (g : Sub F H) : ∃ a ws, v = .ref a ∧ H a = some (DicO κ.P κ.W a ws) ∧ RepK κ H F ws kvs := by
  rcases r with r | ⟨a, ea, ws, h, r⟩
  · cases r with
    | dic h r => exact ⟨_, _, rfl, (g _ _ h).1, r⟩
  · exact ⟨a, ws, ea, h, r⟩
theorem ItR.str {l : List Nat} (r : ItR κ H F v (.str l)) : ∃ x : Str, v = .str x ∧ x.cps.toList = l := by
  rcases r with r | ⟨a, ea, o⟩
  · cases r with
    | str x e => exact ⟨x, rfl, e⟩
  · exact o.elim
end
section
variable {M : Wd} {X : Cx} {e a b c : Expr} {es rest : List Expr} {f fa fb : FE} {fs : FA} {t u : FT} {pos p : Pos}
theorem ve_ix' (ha : IE M X a fa) (hb : RE M X b fb) (hs : PlainIx b := by intro _ _; rfl) : VE M X (.Subscript a b pos) (e2 D.ix fa fb) := by
  obtain ⟨ta, pa, qa⟩ := ha
  obtain ⟨tb, pb, qb⟩ := hb
  refine ⟨_, pe_ix ix_seq pa pb hs, fun F0 H0 F H σ ρ d Q s hf k => ?_⟩
  obtain ⟨da, hda, hf⟩ := bsome hf
  obtain ⟨db, hdb, hf⟩ := bsome hf
  refine qa F0 H0 F H σ ρ da _ s hda fun F1 H1 x g1 r1 => ?_
  refine qb F0 H0 F1 H1 σ ρ db _ (s.go g1) hdb fun F2 H2 y g2 r2 => ?_
  have r1' := r1.ext g2.toExt
  rcases r1' with r1' | ⟨a0, ea, o⟩
  · exact ix_rep r1' r2 hf (fun b o e => (g2.good.sub b o e).1) fun v rv => k F2 H2 v (g1.trans s.good g2) rv
  · cases da with
    | lst ds =>
      obtain ⟨vs, h, z, r⟩ := o
      cases r2 <;> first | (simp only [D.ix] at hf; done) | skip
      case int j =>
        obtain ⟨v, hv, rv⟩ := atI_of r hf
        exact .inl ⟨_, _, _, _, ea, rfl, .inl (.inl h), hv, k F2 H2 v (g1.trans s.good g2) rv⟩
      all_goals cases hf
    | dic ds => cases r2 <;> cases hf
    | ins c' ds => cases r2 <;> cases hf
    | _ => exact o.elim
/-- d[k] -/
theorem ve_dget (hu : X.A.units + 1 < cLine) (ha : IE M X a fa) (hb : RE M X b fb) (hs : NoSl b := by intro _ _; rfl) : VE M X (.Subscript a b pos) (e2 D.getDic fa fb) := by
  obtain ⟨ta, pa, qa⟩ := ha
  obtain ⟨tb, pb, qb⟩ := hb
  refine ⟨_, pe_getW hu pa pb hs, fun F0 H0 F H σ ρ d Q s hf k => ?_⟩
  obtain ⟨da, hda, hf⟩ := bsome hf
  obtain ⟨db, hdb, hf⟩ := bsome hf
  refine qa F0 H0 F H σ ρ da _ s hda fun F1 H1 x g1 r1 => ?_
  refine qb F0 H0 F1 H1 σ ρ db _ (s.go g1) hdb fun F2 H2 y g2 r2 => ?_
  unfold D.getDic at hf
  split at hf
  · split at hf
    · rename_i o
      obtain ⟨b0, ns, rfl, rfl, hb, hn, hl⟩ := key_rep r2 o
      obtain ⟨a0, ws, rfl, h, r⟩ := (r1.ext g2.toExt).dic g2.good.sub
      obtain ⟨e1, e2⟩ := look_rep (ms := ns) r
      rw [hf] at e1
      obtain ⟨v, hv⟩ := Option.isSome_iff_exists.mp e1
      obtain ⟨d', hd', rv⟩ := e2 v hv
      rw [hf] at hd'
      cases hd'
      exact ⟨_, v, rfl, ⟨_, _, b0, h, kys_of r, rfl, by rw [map_kV]; exact hb, hv.symm⟩, k F2 H2 v (g1.trans s.good g2) rv⟩
    · cases hf
  · cases hf

/-! ### builtins -/
def CallD (κ : Kx) (r : List V → Hp → VK → Prop) (h : List D → Option D) : Prop := ∀ F H vs ds d (Q : VK), Good κ F H → Reps κ H H vs ds → h ds = some d → (∀ F' H' v, Go κ F H F' H' → Rep κ H' F' v d → Q v H') → r vs H Q
theorem ve_blt {id : String} {x : Str} {r : List V → Hp → VK → Prop} {h : List D → Option D} (hc : CallR X (.builtin id) r) (hd : CallD (kx X M) r h) (hg : Gl X x) (hm : X.mg x = none) (hv : bootBuiltins x = some (.builtin id)) (ha : RA M X (e :: es) fs) (hn : x ≠ "__name__" := by decide) (hdb : (x == ("__debug__" : Str)) = false := by decide)
    (he : starEach (e :: es) X.env = (false, eval e X.env) :: starEach es X.env := by rfl) (hpl : (backTo pos (starEach es X.env)).any (·.1) = false := by rfl) : VE M X (.Call (.Name x p) (e :: es) [] pos) (eCall h fs) := by
  obtain ⟨ta, pa, qa⟩ := ha
  refine ⟨_, pe_callB hc hg hm hv pa hn hdb he hpl, fun F0 H0 F H σ ρ d Q s hf k => ?_⟩
  obtain ⟨ds, hds, hf⟩ := bsome hf
  refine qa F0 H0 F H σ ρ ds _ s hds fun F1 H1 vs g1 r1 => ?_
  exact hd F1 H1 vs ds d _ g1.good r1 hf fun F2 H2 v g2 r2 => k F2 H2 v (g1.trans s.good g2) r2
theorem ve_blty {T : String} {x : Str} {r : List V → Hp → VK → Prop} {h : List D → Option D} (hc : CallR X (.type T) r) (hd : CallD (kx X M) r h) (hg : Gl X x) (hm : X.mg x = none) (hv : bootBuiltins x = some (.type T)) (ha : RA M X (e :: es) fs) (hn : x ≠ "__name__" := by decide) (hdb : (x == ("__debug__" : Str)) = false := by decide)
    (he : starEach (e :: es) X.env = (false, eval e X.env) :: starEach es X.env := by rfl) (hpl : (backTo pos (starEach es X.env)).any (·.1) = false := by rfl) : VE M X (.Call (.Name x p) (e :: es) [] pos) (eCall h fs) := by
  obtain ⟨ta, pa, qa⟩ := ha
  refine ⟨_, pe_callTy hc hg hm hv pa hn hdb he hpl, fun F0 H0 F H σ ρ d Q s hf k => ?_⟩
  obtain ⟨ds, hds, hf⟩ := bsome hf
  refine qa F0 H0 F H σ ρ ds _ s hds fun F1 H1 vs g1 r1 => ?_
  exact hd F1 H1 vs ds d _ g1.good r1 hf fun F2 H2 v g2 r2 => k F2 H2 v (g1.trans s.good g2) r2
variable {κ : Kx}
theorem cd_u1 {r : V → Hp → VK → Prop} {h : D → Option D} (hd : UnD κ r h) : CallD κ (fun xs H Q => ∃ x, xs = [x] ∧ r x H Q) (u1 h) := by
  intro F H vs ds d Q g rs hf k
  unfold u1 at hf
  split at hf
  · cases rs with
    | cons r1 rs =>
      cases rs
      exact ⟨_, rfl, hd F H _ _ d Q g r1 hf k⟩
  · cases hf
theorem rep_len {x : V} {da d : D} {T F : Hp} (hF : ∀ b o, F b = some o → ¬ isTbl o → T b = some o) (r : Rep κ T F x da) (h : D.len da = some d) : ∃ n : Nat, LenV κ.K x T n ∧ d = .int n := by
  cases r <;> first | (cases h; done) | skip
  · rename_i z l e
    subst e
    have h2 : (if z.cps.toList.length ≤ 1000 then some (D.int z.cps.toList.length) else none) = some d := h
    split at h2
    · rename_i hl
      cases h2
      refine ⟨_, ⟨?_, rfl⟩, ?_⟩
      · have e1 : z.length = z.cps.toList.length := by simp [Str.length]
        rw [e1]
        exact le1000 hl
      · simp [Str.length]
    · cases h2
  · rename_i h1 n z rs
    cases h
    exact ⟨_, .inr ⟨_, h1, rfl⟩, by rw [rs.length]⟩
  · rename_i h1 z rs
    cases h
    exact ⟨_, .inl ⟨_, sqL_mono hF h1, rfl⟩, by rw [rs.length]⟩
theorem cd_len : CallD κ (fun xs H Q => ∃ x n, xs = [x] ∧ LenV κ.K x H n ∧ Q (.int n) H) (u1 D.len) := by
  intro F H vs ds d Q g rs hf k
  unfold u1 at hf
  split at hf
  · cases rs with
    | cons r1 rs =>
      cases rs
      obtain ⟨n, h1, rfl⟩ := rep_len (fun _ _ e _ => e) r1 hf
      exact ⟨_, n, rfl, h1, k F H _ (.refl g) (.int _)⟩
  · cases hf
theorem cd_int : CallD κ (fun xs H Q => (∃ i, xs = [.int i] ∧ Q (.int i) H) ∨ ∃ k, xs = [.bl k] ∧ Q (.int (if k then 1 else 0)) H) (u1 D.toInt) := by
  intro F H vs ds d Q g rs hf k
  unfold u1 at hf
  split at hf
  · cases rs with
    | cons r1 rs =>
      cases rs
      unfold D.toInt at hf
      split at hf
      · cases hf
        cases r1
        exact .inl ⟨_, rfl, k F H _ (.refl g) (.int _)⟩
      · cases hf
        cases r1
        exact .inr ⟨_, rfl, k F H _ (.refl g) (.int _)⟩
      · cases hf
  · cases hf
theorem ints_some : ∀ {ds : List D} {ns : List Int}, getI ds = some ns → ds = ns.map .int
  | [], _, h => by cases h; rfl
  | .int i :: r, _, h => by
    unfold getI at h
    obtain ⟨ms, h1, h2⟩ := Option.map_eq_some_iff.mp h
    subst h2
    rw [ints_some h1]
    rfl
  | .non :: _, _, h => by cases h
  | .bl _ :: _, _, h => by cases h
  | .str _ :: _, _, h => by cases h
  | .tup _ :: _, _, h => by cases h
  | .lst _ :: _, _, h => by cases h
  | .dic _ :: _, _, h => by cases h
  | .ins _ _ :: _, _, h => by cases h
theorem cd_sum : CallD κ (rSum κ.K) (u1 D.sum) := by
  intro F H vs ds d Q g rs hf k
  unfold u1 at hf
  split at hf
  · cases rs with
    | cons r1 rs =>
      cases rs
      unfold D.sum at hf
      split at hf
      · obtain ⟨ns, h1, h2⟩ := Option.map_eq_some_iff.mp hf
        subst h2
        cases r1 with
        | lst h z r =>
          have e := ints_some h1
          subst e
          have e2 := reps_ints r
          subst e2
          exact ⟨_, ns, rfl, h, k F H _ (.refl g) (.int _)⟩
      · cases hf
  · cases hf
def rIsT (K : PySem.W.Frag) (T : String) : List V → Hp → VK → Prop := fun xs H Q => ∃ x, xs = [x, .ty T] ∧ TyX K H x (.type T) ∧ Q (.bl true) H
theorem call_isT {T : String} (hT : T = "tuple" ∨ T = "str" ∨ T = "int") : CallR X (.builtin "isinstance") (rIsT X.K T) := by
  intro pins s σ H xs us Q I r h
  obtain ⟨x, rfl, ty, q⟩ := h
  refine call_isi pins s σ H _ us Q I r ⟨x, _, _, _, true, rfl, .ty T, ty, kit_ty ?_, q⟩
  rcases hT with h | h | h <;> subst h <;> decide +kernel
theorem rep_ty {T : String} {T0 F : Hp} {x : V} {da d : D} (r : Rep κ T0 F x da) (h : isT T da = some d) : d = .bl true ∧ TyX κ.K T0 x (.type T) := by
  cases r <;> first | (cases h; done) | skip
  · have h2 : (if T = "int" then some (D.bl true) else none) = some d := h
    split at h2
    · rename_i e
      subst e
      cases h2
      exact ⟨rfl, .base (.int _)⟩
    · cases h2
  · have h2 : (if T = "str" then some (D.bl true) else none) = some d := h
    split at h2
    · rename_i e
      subst e
      cases h2
      exact ⟨rfl, .base (.str _)⟩
    · cases h2
  · rename_i h1 n z rs
    have h2 : (if T = "tuple" then some (D.bl true) else none) = some d := h
    split at h2
    · rename_i e
      subst e
      cases h2
      refine ⟨rfl, ?_⟩
      rcases h1 with h1 | ⟨o, its, n, hk, hc, _⟩
      · rcases h1 with h1 | ⟨o, h1⟩
        · exact .base (.tup h1)
        · exact .fTuple h1
      · exact .kTuple hk hc
    · cases h2
theorem ve_isT {T : String} (hT : T = "tuple" ∨ T = "str" ∨ T = "int") {x : Str} {p2 : Pos} (hg : Gl X "isinstance") (hm : X.mg "isinstance" = none) (hg2 : Gl X x) (hm2 : X.mg x = none) (hv2 : bootBuiltins x = some (.type T)) (ha : RE M X a fa) (hn : x ≠ "__name__" := by decide) (hdb : (x == ("__debug__" : Str)) = false := by decide)
    (he : starEach [a, .Name x p2] X.env = (false, eval a X.env) :: starEach [.Name x p2] X.env := by rfl) (he2 : starEach [.Name x p2] X.env = (false, eval (.Name x p2) X.env) :: starEach [] X.env := by rfl) (hpl : (backTo pos (starEach [.Name x p2] X.env)).any (·.1) = false := by rfl) :
    VE M X (.Call (.Name "isinstance" p) [a, .Name x p2] [] pos) (e1 (isT T) fa) := by
  obtain ⟨ta, pa, qa⟩ := ha
  have pt : PE X (.Name x p2) (tC (.ty T)) := pe_bltn hg2 hm2 hv2 rfl hn hdb
  refine ⟨_, pe_callB (call_isT hT) hg hm boot_isinstance (pa_cons pa (pa_cons pt pa_nil he2) he) (by decide) (by decide) he hpl, fun F0 H0 F H σ ρ d Q s hf k => ?_⟩
  obtain ⟨da, hda, hf⟩ := bsome hf
  refine qa F0 H0 F H σ ρ da _ s hda fun F1 H1 x1 g1 r1 => ?_
  obtain ⟨rfl, ty⟩ := rep_ty r1 hf
  exact ⟨x1, rfl, ty, k F1 H1 _ g1 (.bl _)⟩
end
end Vl
end
section
set_option Elab.async false
set_option linter.all false
set_option maxRecDepth 100000
set_option maxHeartbeats 2000000
/-! what is walked, targets, comprehensions -/
namespace Vl
open PySem PySem.Spec PyProof.Rows L2 GxR TupF Dc
/-! ### what is walked: J yields the data ds, as long as Rl holds -/
structure JR (κ : Kx) (Rl : Hp → Hp → Prop) (J : It) (ds : List D) : Prop where
  len : ds.length ≤ sizeLine
  stop : ∀ F H, Rl F H → J.stop ds.length H
  turn : ∀ F H i d, Rl F H → ds[i]? = some d → J.go i H ∧ ∀ x H', J.yld i H x H' → H' = H ∧ Rep κ H F x d
def LeG (κ : Kx) (F H F' H' : Hp) : Prop := Le F H F' H' ∧ Good κ F' H'
/-- a walk that lasts while shared things stay -/
def CWs (M : Wd) (X : Cx) (tg e : Expr) (w : FW) : Prop := ∃ wi, PI X tg e wi ∧ ∀ F0 H0 F H σ ρ ds R, RS (kx X M) F0 H0 F H σ ρ → w ρ = some ds → (∀ F' H' J, Go (kx X M) F H F' H' → JR (kx X M) (LeG (kx X M) F' H') J ds → R J H') → wi σ H R
/-- a walk that lasts while nothing is changed -/
def CWg (M : Wd) (X : Cx) (tg e : Expr) (w : FW) : Prop := ∃ wi, PI X tg e wi ∧ ∀ F0 H0 F H σ ρ ds R, RS (kx X M) F0 H0 F H σ ρ → w ρ = some ds → (∀ F' H' J, Go (kx X M) F H F' H' → JR (kx X M) (Go (kx X M) F' H') J ds → R J H') → wi σ H R
theorem JR.mono {κ : Kx} {Rl Rl' : Hp → Hp → Prop} {J : It} {ds : List D} (j : JR κ Rl J ds) (h : ∀ F H, Rl' F H → Rl F H) : JR κ Rl' J ds := ⟨j.len, fun F H r => j.stop F H (h F H r), fun F H i d r => j.turn F H i d (h F H r)⟩
theorem CWs.g {M : Wd} {X : Cx} {tg e : Expr} {w : FW} (h : CWs M X tg e w) : CWg M X tg e w := let ⟨wi, p, q⟩ := h; ⟨wi, p, fun F0 H0 F H σ ρ ds R s hw k => q F0 H0 F H σ ρ ds R s hw fun F' H' J g j => k F' H' J g (j.mono fun _ _ e => ⟨e.toExt.le, e.good⟩)⟩
theorem jr_list {κ : Kx} {Rl : Hp → Hp → Prop} {a : Addr} {vs : List V} {ds : List D} {T F0 : Hp} (hl : ds.length ≤ sizeLine) (r0 : Reps κ T F0 vs ds) (h : ∀ F H, Rl F H → SqL κ.K H a vs ∧ Reps κ H F vs ds) (hi : ∀ F H, Rl F H → ∀ xs, SqL κ.K H a xs → xs = vs) : JR κ Rl (Itl κ.K a) ds where
  len := hl
  stop := fun F H r => ⟨vs, (h F H r).1, by rw [(h F H r).2.length]; exact Nat.le_refl _⟩
  turn := fun F H i d r hd => by
    obtain ⟨s, rp⟩ := h F H r
    obtain ⟨v, hv, rv⟩ := rp.get hd
    refine ⟨⟨vs, v, s, hv⟩, fun x H' y => ⟨y.1, ?_⟩⟩
    have := y.2 vs s
    rw [hv] at this
    cases this
    exact rv
theorem jr_tup {κ : Kx} {Rl : Hp → Hp → Prop} {a : Addr} {vs : List V} {ds : List D} (hl : ds.length ≤ sizeLine) (h : ∀ F H, Rl F H → SqT κ.K H a vs ∧ Reps κ H F vs ds) : JR κ Rl (Itt κ.K a) ds where
  len := hl
  stop := fun F H r => ⟨vs, (h F H r).1, by rw [(h F H r).2.length]; exact Nat.le_refl _⟩
  turn := fun F H i d r hd => by
    obtain ⟨s, rp⟩ := h F H r
    obtain ⟨v, hv, rv⟩ := rp.get hd
    refine ⟨⟨vs, v, s, hv⟩, fun x H' y => ⟨y.1, ?_⟩⟩
    have := y.2 vs s
    rw [hv] at this
    cases this
    exact rv
section
variable {M : Wd} {X : Cx} {tg e a b : Expr} {es : List Expr} {f fa fb : FE} {fs : FA} {pos p : Pos}
/-- a list is walked -/
def wLst (f : FE) : FW := fun ρ => (f ρ).bind fun d => match d with
  | .lst xs => some xs
  | _ => none
def wTup (f : FE) : FW := fun ρ => (f ρ).bind fun d => match d with
  | .tup xs => some xs
  | _ => none
theorem cws_lst (h : VE M X e f) : CWs M X tg e (wLst f) := by
  obtain ⟨te, pe, qe⟩ := h
  refine ⟨_, pi_list pe, fun F0 H0 F H σ ρ ds R s hw k => ?_⟩
  obtain ⟨d, hd, hw⟩ := bsome hw
  split at hw
  · cases hw
    refine qe F0 H0 F H σ ρ _ _ s hd fun F1 H1 v g1 r1 => ?_
    cases r1 with
    | @lst a vs ds h z r =>
      refine ⟨_, rfl, ⟨_, sqL_mono (fun b o e _ => (g1.good.sub b o e).1) h⟩, k F1 H1 _ g1 ?_⟩
      refine ⟨by rw [← r.length]; exact z, fun F2 H2 e => ⟨vs, ?_, by rw [r.length]; exact Nat.le_refl _⟩, fun F2 H2 i d e hd => ?_⟩
      · exact sqL_mono (fun b o e2 _ => (e.2.sub b o (e.1.f b o e2)).1) h
      · have s2 : SqL (kx X M).K H2 a vs := sqL_mono (fun b o e2 _ => (e.2.sub b o (e.1.f b o e2)).1) h
        obtain ⟨v, hv, rv⟩ := (r.le e.1).get hd
        refine ⟨⟨vs, v, s2, hv⟩, fun x H' y => ⟨y.1, ?_⟩⟩
        have := y.2 vs s2
        rw [hv] at this
        cases this
        exact rv
  · cases hw
theorem cwg_lst (h : IE M X e f) : CWg M X tg e (wLst f) := by
  obtain ⟨te, pe, qe⟩ := h
  refine ⟨_, pi_list pe, fun F0 H0 F H σ ρ ds R s hw k => ?_⟩
  obtain ⟨d, hd, hw⟩ := bsome hw
  split at hw
  · rename_i xs
    cases hw
    refine qe F0 H0 F H σ ρ _ _ s hd fun F1 H1 v g1 r1 => ?_
    obtain ⟨a, vs, rfl, h, z, r⟩ := r1.lst g1.good.sub
    refine ⟨_, rfl, ⟨_, h⟩, k F1 H1 _ g1 ?_⟩
    refine ⟨by rw [← r.length]; exact z, fun F2 H2 e => ⟨vs, ?_, by rw [r.length]; exact Nat.le_refl _⟩, fun F2 H2 i d e hd => ?_⟩
    · exact sqL_mono (fun b o e2 n => e.h b o e2 n) h
    · have s2 : SqL (kx X M).K H2 a vs := sqL_mono (fun b o e2 n => e.h b o e2 n) h
      obtain ⟨v, hv, rv⟩ := (r.ext e.toExt).get hd
      refine ⟨⟨vs, v, s2, hv⟩, fun x H' y => ⟨y.1, ?_⟩⟩
      have := y.2 vs s2
      rw [hv] at this
      cases this
      exact rv
  · cases hw
theorem cws_tup (h : VE M X e f) : CWs M X tg e (wTup f) := by
  obtain ⟨te, pe, qe⟩ := h
  refine ⟨_, pi_tup pe, fun F0 H0 F H σ ρ ds R s hw k => ?_⟩
  obtain ⟨d, hd, hw⟩ := bsome hw
  split at hw
  · cases hw
    refine qe F0 H0 F H σ ρ _ _ s hd fun F1 H1 v g1 r1 => ?_
    cases r1 with
    | @tup a vs ds h n z r =>
      refine ⟨_, rfl, ⟨_, h⟩, k F1 H1 _ g1 (jr_tup (vs := vs) (by rw [← r.length]; exact z) fun F2 H2 e => ⟨sqT_mono e.1.x h, r.le e.1⟩)⟩
  · cases hw
theorem cws_str (h : VE M X e f) : CWs M X tg e (wStr f) := by
  obtain ⟨te, pe, qe⟩ := h
  refine ⟨_, pi_str pe, fun F0 H0 F H σ ρ ds R s hw k => ?_⟩
  obtain ⟨d, hd, hw⟩ := bsome hw
  split at hw
  · rename_i l
    split at hw
    · rename_i hlen
      cases hw
      refine qe F0 H0 F H σ ρ _ _ s hd fun F1 H1 v g1 r1 => ?_
      obtain ⟨x, rfl, rfl⟩ := ItR.str (.inl r1)
      refine ⟨x, rfl, k F1 H1 _ g1 ⟨by rw [List.length_map]; exact le1000 hlen, fun F2 H2 e => by show x.cps.size ≤ _; simp, fun F2 H2 i d e hd => ?_⟩⟩
      rw [List.getElem?_map] at hd
      obtain ⟨c, hc, rfl⟩ := Option.map_eq_some_iff.mp hd
      rw [Array.getElem?_toList] at hc
      refine ⟨(Array.getElem?_eq_some_iff.mp hc).1, fun y H' q => ⟨q.1, ?_⟩⟩
      obtain ⟨c', hc', rfl⟩ := q.2
      rw [hc] at hc'
      cases hc'
      exact .str _ rfl
    · cases hw
  · cases hw
theorem cws_range1 (hg : Gl X "range") (hm : X.mg "range" = none) (h : RE M X a f) (hs : starEach [a] X.env = (false, eval a X.env) :: starEach [] X.env := by rfl) (hs' : starEach [a] X.env = [(false, eval a X.env)] := by rfl) : CWs M X tg (.Call (.Name "range" p) [a] [] pos) (wRange f) := by
  obtain ⟨ta, pa, qa⟩ := (ra_cons h ra_nil hs : RA M X [a] (aCons f aNil))
  refine ⟨_, pi_range1 hg hm pa hs', fun F0 H0 F H σ ρ ds R s hw k => ?_⟩
  obtain ⟨d, hd, hw⟩ := bsome hw
  split at hw
  · rename_i n
    split at hw
    · rename_i hn
      cases hw
      have ha : (aCons f aNil) ρ = some [.int n] := by
        unfold aCons aNil
        rw [hd]
        rfl
      refine qa F0 H0 F H σ ρ _ _ s ha fun F1 H1 vs g1 r1 => ?_
      cases r1 with
      | cons r rs =>
        cases r
        cases rs
        refine ⟨n, rfl, by omega, by omega, k F1 H1 _ g1 ⟨?_, fun F2 H2 e => ?_, fun F2 H2 i d e hd => ?_⟩⟩
        · rw [List.length_map, List.length_range]
          have : sizeLine = 16777216 := sizeLine_eq
          omega
        · show n.toNat ≤ _
          rw [List.length_map, List.length_range]
          exact Nat.le_refl _
        · rw [List.getElem?_map] at hd
          obtain ⟨j, hj, rfl⟩ := Option.map_eq_some_iff.mp hd
          obtain ⟨hi, hj2⟩ := List.getElem?_eq_some_iff.mp hj
          rw [List.length_range] at hi
          rw [List.getElem_range] at hj2
          subst hj2
          refine ⟨hi, fun y H' q => ⟨q.1, ?_⟩⟩
          rw [q.2, Int.zero_add]
          exact .int _
    · cases hw
  · cases hw
theorem cws_range2 (hg : Gl X "range") (hm : X.mg "range" = none) (ha : RE M X a fa) (hb : RE M X b fb) (hs : starEach [a, b] X.env = (false, eval a X.env) :: starEach [b] X.env := by rfl) (hs2 : starEach [b] X.env = (false, eval b X.env) :: starEach [] X.env := by rfl) (hs' : starEach [a, b] X.env = [(false, eval a X.env), (false, eval b X.env)] := by rfl) (hs2' : starEach [b] X.env = [(false, eval b X.env)] := by rfl) : CWs M X tg (.Call (.Name "range" p) [a, b] [] pos) (wRange2 fa fb) := by
  obtain ⟨ta, pa, qa⟩ := (ra_cons ha (ra_cons hb ra_nil hs2) hs : RA M X [a, b] (aCons fa (aCons fb aNil)))
  refine ⟨_, pi_range2 hg hm pa hs' hs2', fun F0 H0 F H σ ρ ds R s hw k => ?_⟩
  obtain ⟨da, hda, hw⟩ := bsome hw
  obtain ⟨db, hdb, hw⟩ := bsome hw
  split at hw
  · rename_i m n _
    split at hw
    · rename_i hn
      cases hw
      have ha : (aCons fa (aCons fb aNil)) ρ = some [.int m, .int n] := by
        unfold aCons aNil
        rw [hda, hdb]
        rfl
      refine qa F0 H0 F H σ ρ _ _ s ha fun F1 H1 vs g1 r1 => ?_
      cases r1 with
      | cons r rs =>
        cases r
        cases rs with
        | cons r rs =>
          cases r
          cases rs
          refine ⟨m, n, rfl, by omega, k F1 H1 _ g1 ⟨?_, fun F2 H2 e => ?_, fun F2 H2 i d e hd => ?_⟩⟩
          · rw [List.length_map, List.length_range]
            have : sizeLine = 16777216 := sizeLine_eq
            omega
          · show (n - m).toNat ≤ _
            rw [List.length_map, List.length_range]
            exact Nat.le_refl _
          · rw [List.getElem?_map] at hd
            obtain ⟨j, hj, rfl⟩ := Option.map_eq_some_iff.mp hd
            obtain ⟨hi, hj2⟩ := List.getElem?_eq_some_iff.mp hj
            rw [List.length_range] at hi
            rw [List.getElem_range] at hj2
            subst hj2
            refine ⟨hi, fun y H' q => ⟨q.1, ?_⟩⟩
            rw [q.2]
            exact .int _
    · cases hw
  · cases hw
end

/-! ### targets -/
/-- target tg stores d; only the slots is are touched -/
def CG (M : Wd) (X : Cx) (tg : Expr) (g : FG) (is : List Nat) : Prop := ∃ t, PG X tg t ∧ ∀ F0 H0 F H σ ρ v d ρ' Q, RS (kx X M) F0 H0 F H σ ρ → Rep (kx X M) H F v d → g d ρ = some ρ' → (∀ σ', RS (kx X M) F0 H0 F H σ' ρ' → (∀ vs, (∀ i ∈ is, i ∈ vs) → wipe σ' vs = wipe σ vs) → Q σ' H) → t v σ H Q
def CGs (M : Wd) (X : Cx) (ts : List Expr) (gs : List FG) (is : List Nat) : Prop := ∃ t, PGs X ts t ∧ ∀ F0 H0 F H σ ρ vs ds ρ' Q, RS (kx X M) F0 H0 F H σ ρ → Reps (kx X M) H F vs ds → gAll gs ds ρ = some ρ' → (∀ σ', RS (kx X M) F0 H0 F H σ' ρ' → (∀ vs, (∀ i ∈ is, i ∈ vs) → wipe σ' vs = wipe σ vs) → Q σ' H) → t vs σ H Q
theorem set_none {α : Type} (l : List (Option α)) (i : Nat) (v : α) : (l.set i (some v)).set i none = l.set i none := List.set_set ..
theorem wipe_set {σ : L2.St} {i : Nat} {v : V} : ∀ {vs : List Nat}, i ∈ vs → wipe (σ.set i (some v)) vs = wipe σ vs
  | [], h => nomatch h
  | j :: vs, h => by
    unfold wipe
    by_cases hm : i ∈ vs
    · rw [wipe_set hm]
    · have hj : i = j := by
        rcases List.mem_cons.mp h with e | e
        · exact e
        · exact absurd e hm
      subst hj
      have key : ∀ (us : List Nat), i ∉ us → wipe (σ.set i (some v)) us = (wipe σ us).set i (some v) := by
        intro us
        induction us with
        | nil => intro _; rfl
        | cons u us ih =>
          intro h
          unfold wipe
          rw [ih fun z => h (List.mem_cons_of_mem _ z)]
          rw [List.set_comm _ _ fun z => h (by rw [z]; exact List.mem_cons_self)]
      rw [key vs hm, List.set_set]
section
variable {M : Wd} {X : Cx} {x : Str} {pos : Pos}
theorem cg_name {i : Nat} (h : PG X (.Name x pos) (gName i)) : CG M X (.Name x pos) (gN i) [i] := ⟨_, h, fun F0 H0 F H σ ρ v d ρ' Q s r hg k => by
  cases hg
  exact k _ (s.set r) fun vs hv => wipe_set (hv i List.mem_cons_self)⟩
theorem cgs_nil : CGs M X [] [] [] := ⟨_, pgs_nil, fun F0 H0 F H σ ρ vs ds ρ' Q s r hg k => by
  cases r with
  | nil =>
    cases hg
    exact ⟨rfl, k σ s fun _ _ => rfl⟩
  | cons _ _ => cases hg⟩
theorem cgs_cons {t : Expr} {ts : List Expr} {g : FG} {gs : List FG} {is js : List Nat} (hg : CG M X t g is) (hs : CGs M X ts gs js) (hp : ∀ {t1 t2}, PG X t t1 → PGs X ts t2 → PGs X (t :: ts) (gCons t1 t2)) : CGs M X (t :: ts) (g :: gs) (is ++ js) := by
  obtain ⟨t1, p1, q1⟩ := hg
  obtain ⟨t2, p2, q2⟩ := hs
  refine ⟨_, hp p1 p2, fun F0 H0 F H σ ρ vs ds ρ' Q s r hg k => ?_⟩
  cases r with
  | nil => cases hg
  | cons r rs =>
    obtain ⟨ρ1, h1, h2⟩ := bsome (show (g _ ρ).bind (fun ρ' => gAll gs _ ρ') = some ρ' from hg)
    refine ⟨_, _, rfl, q1 F0 H0 F H σ ρ _ _ ρ1 _ s r h1 fun σ1 s1 w1 => ?_⟩
    refine q2 F0 H0 F H σ1 ρ1 _ _ ρ' _ s1 rs h2 fun σ2 s2 w2 => ?_
    exact k σ2 s2 fun vs hv => (w2 vs fun i hi => hv i (List.mem_append_right _ hi)).trans (w1 vs fun i hi => hv i (List.mem_append_left _ hi))
theorem cg_tup {es : List Expr} {gs : List FG} {is : List Nat} {k : Nat} (hc : X.calm = true) (h : CGs M X es gs is) (hn : (assignEach es X.env).length = gs.length := by rfl) (hst : (assignEach es X.env).findIdx? (·.1) = none := by rfl) : CG M X (.Tuple es k pos) (gT gs) is := by
  obtain ⟨t, p, q⟩ := h
  refine ⟨_, pg_tup hc p hn hst, fun F0 H0 F H σ ρ v d ρ' Q s r hg k => ?_⟩
  unfold gT at hg
  split at hg
  · split at hg
    · rename_i hl
      cases r with
      | tup h n z r =>
        exact ⟨_, _, rfl, h, by rw [r.length]; exact hl, q F0 H0 F H σ ρ _ _ ρ' _ s r hg k⟩
    · cases hg
  · cases hg
end
end Vl
end
section
set_option Elab.async false
set_option linter.all false
set_option maxRecDepth 100000
set_option maxHeartbeats 2000000
/-! comprehensions -/
namespace Vl
open PySem PySem.Spec PyProof.Rows L2 GxR TupF Dc
/-! ### one reading for all contexts -/
section
variable {ι : Type} {M : Wd} {X : ι → Cx} {κ : Kx} {e : Expr} {f : FE} {tg : Expr} {g : FG} {is : List Nat} {ifs : List Expr} {t : FT}
theorem uniV (hκ : ∀ i, kx (X i) M = κ) (h : ∀ i, VE M (X i) e f) : ∃ te, (∀ i, PE (X i) e te) ∧ ∀ F0 H0 F H σ ρ d Q, RS κ F0 H0 F H σ ρ → f ρ = some d → (∀ F' H' v, Go κ F H F' H' → Rep κ H' F' v d → Q v H') → te σ H Q := by
  have h' : ∀ i, ∃ te, PE (X i) e te ∧ ∀ F0 H0 F H σ ρ d Q, RS κ F0 H0 F H σ ρ → f ρ = some d → (∀ F' H' v, Go κ F H F' H' → Rep κ H' F' v d → Q v H') → te σ H Q := fun i => by
    have z := h i
    unfold VE at z
    rw [hκ i] at z
    exact z
  exact ⟨fun σ H Q => ∀ i, Classical.choose (h' i) σ H Q, fun i => ⟨fun pins s σ H Q I w => (Classical.choose_spec (h' i)).1.run pins s σ H Q I (w i)⟩, fun F0 H0 F H σ ρ d Q s hd k i => (Classical.choose_spec (h' i)).2 F0 H0 F H σ ρ d Q s hd k⟩
theorem uniG (hκ : ∀ i, kx (X i) M = κ) (h : ∀ i, CG M (X i) tg g is) : ∃ t, (∀ i, PG (X i) tg t) ∧ ∀ F0 H0 F H σ ρ v d ρ' Q, RS κ F0 H0 F H σ ρ → Rep κ H F v d → g d ρ = some ρ' → (∀ σ', RS κ F0 H0 F H σ' ρ' → (∀ vs, (∀ i ∈ is, i ∈ vs) → wipe σ' vs = wipe σ vs) → Q σ' H) → t v σ H Q := by
  have h' : ∀ i, ∃ t, PG (X i) tg t ∧ ∀ F0 H0 F H σ ρ v d ρ' Q, RS κ F0 H0 F H σ ρ → Rep κ H F v d → g d ρ = some ρ' → (∀ σ', RS κ F0 H0 F H σ' ρ' → (∀ vs, (∀ i ∈ is, i ∈ vs) → wipe σ' vs = wipe σ vs) → Q σ' H) → t v σ H Q := fun i => by
    have z := h i
    unfold CG at z
    rw [hκ i] at z
    exact z
  exact ⟨fun v σ H Q => ∀ i, Classical.choose (h' i) v σ H Q, fun i => ⟨fun pins s σ H v u Q I r w => (Classical.choose_spec (h' i)).1.run pins s σ H v u Q I r (w i)⟩, fun F0 H0 F H σ ρ v d ρ' Q s r hd k i => (Classical.choose_spec (h' i)).2 F0 H0 F H σ ρ v d ρ' Q s r hd k⟩
/-- the tests of a comprehension -/
def CTs (M : Wd) (X : Cx) (ifs : List Expr) (t : FT) : Prop := ∃ tt, PTs X ifs tt ∧ TT' M X tt t
theorem cts_nil {X : Cx} : CTs M X [] tY := ⟨_, pts_nil, fun F0 H0 F H σ ρ b Q s h k => by cases h; exact k F H (.refl s.good)⟩
theorem cts_one {X : Cx} {c : Expr} (h : CT M X c t) : CTs M X [c] t := let ⟨tt, p, q⟩ := h; ⟨tt, pts_one p, q⟩
theorem uniT (hκ : ∀ i, kx (X i) M = κ) (h : ∀ i, CTs M (X i) ifs t) : ∃ tt, (∀ i, PTs (X i) ifs tt) ∧ ∀ F0 H0 F H σ ρ b Q, RS κ F0 H0 F H σ ρ → t ρ = some b → (∀ F' H', Go κ F H F' H' → Q b H') → tt σ H Q := by
  have h' : ∀ i, ∃ tt, PTs (X i) ifs tt ∧ ∀ F0 H0 F H σ ρ b Q, RS κ F0 H0 F H σ ρ → t ρ = some b → (∀ F' H', Go κ F H F' H' → Q b H') → tt σ H Q := fun i => by
    have z := h i
    unfold CTs TT' at z
    rw [hκ i] at z
    exact z
  exact ⟨fun σ H Q => ∀ i, Classical.choose (h' i) σ H Q, fun i => ⟨fun pins s σ H Q I w => (Classical.choose_spec (h' i)).1.run pins s σ H Q I (w i)⟩, fun F0 H0 F H σ ρ d Q s hd k i => (Classical.choose_spec (h' i)).2 F0 H0 F H σ ρ d Q s hd k⟩
end
/-! ### an object that no one shares -/
section
variable {κ : Kx} {F H F' H' : Hp} {D0 : Addr} {o o' : HO}
theorem Go.keep (g : Go κ F H F' H') (hD : H D0 = some o) (nt : ¬ isTbl o) (hF : F D0 = none) : H' D0 = some o ∧ F' D0 = none := by
  refine ⟨g.h _ _ hD nt, ?_⟩
  cases q : F' D0 with
  | none => rfl
  | some u =>
    rcases g.new _ _ q with z | z
    · rw [hF] at z; cases z
    · rw [hD] at z; cases z
theorem Good.put (g : Good κ F H) (hD : H D0 = some o) (nt : ¬ isTbl o) (nt' : ¬ isTbl o') (nf : ¬ isFix o) (hF : F D0 = Option.none) : Good κ F (upd H D0 o') where
  sub := fun b u e => by
    have hb : b ≠ D0 := ne_of_none e hF
    rw [upd_ne hb]
    exact g.sub b u e
  tabs := ⟨fun P hP => by
    obtain ⟨ps, e, r⟩ := g.tabs.1 P hP
    have hb : P ≠ D0 := fun z => by
      subst z
      rw [hD] at e
      cases e
      exact nt trivial
    exact ⟨ps, by rw [upd_ne hb]; exact e, r⟩, fun q hq => by
    obtain ⟨h1, h2⟩ := g.tabs.2 q hq
    refine ⟨h1.ext (fun b ps _ e => ?_) (fun b o u e => ?_), h2⟩
    · rw [upd_ne fun z => by subst z; rw [hD] at e; cases e; exact nt trivial]; exact e
    · rw [upd_ne fun z => by subst z; rw [hD] at e; cases e; exact nf trivial]; exact e⟩
theorem Go.put (g : Go κ F H F' H') (h0 : H D0 = none) (hD : H' D0 = some o) (nt : ¬ isTbl o) (nt' : ¬ isTbl o') (nf : ¬ isFix o) (hF : F' D0 = none) : Go κ F H F' (upd H' D0 o') where
  f := g.f
  h := fun b u e n => by
    have hb : b ≠ D0 := ne_of_none e h0
    rw [upd_ne hb]
    exact g.h b u e n
  t := fun P h => by
    obtain ⟨ps, e, r⟩ := g.t P h
    have hb : P ≠ D0 := fun z => by
      subst z
      rw [hD] at e
      cases e
      exact nt trivial
    exact ⟨ps, by rw [upd_ne hb]; exact e, r⟩
  tb := fun P ps h => by
    obtain ⟨qs, e⟩ := g.tb P ps h
    have hb : P ≠ D0 := fun z => by
      subst z
      rw [hD] at e
      cases e
      exact nt trivial
    exact ⟨qs, by rw [upd_ne hb]; exact e⟩
  new := g.new
  good := g.good.put hD nt nt' nf hF
theorem Reps.put {vs : List V} {ds : List D} (r : Reps κ H F vs ds) (hD : H D0 = some o) (nf : ¬ isFix o) : Reps κ (upd H D0 o') F vs ds := r.mono (Fx.upd fun u e => by rw [hD] at e; cases e; exact nf) fun _ _ e _ => e
theorem RepK.put {vs : List DRow} {ds : List (D × D)} (r : RepK κ H F vs ds) (hD : H D0 = some o) (nf : ¬ isFix o) : RepK κ (upd H D0 o') F vs ds := r.mono (Fx.upd fun u e => by rw [hD] at e; cases e; exact nf) fun _ _ e _ => e
theorem Rep.put {v : V} {d : D} (r : Rep κ H F v d) (hD : H D0 = some o) (nf : ¬ isFix o) : Rep κ (upd H D0 o') F v d := r.mono (Fx.upd fun u e => by rw [hD] at e; cases e; exact nf) fun _ _ e _ => e
end
abbrev BI := Shared × Hp × Addr × List (Str × Addr) × List Addr
def bx (X : Cx) (scope : Scope) (i : BI) : Cx := X.blk i.1 i.2.1 scope (compEnvC scope i.2.2.2.1 i.2.2.1 X.env) i.2.2.2.2
section
variable {M : Wd} {X : Cx} {elt tg iter : Expr} {ifs : List Expr} {scope : Scope} {own : List (Str × Nat)} {pos : Pos} {w : FW} {g : FG} {t : FT} {f : FE} {is : List Nat}
/-- the reading of a comprehension -/
theorem lc_read {wi : TI} {tgt : TG} {tt : TT} {te : TE} {vs : List Nat} (hw : ∀ F0 H0 F H σ ρ ds R, RS (kx X M) F0 H0 F H σ ρ → w ρ = some ds → (∀ F' H' J, Go (kx X M) F H F' H' → JR (kx X M) (Go (kx X M) F' H') J ds → R J H') → wi σ H R)
    (hg : ∀ F0 H0 F H σ ρ v d ρ' Q, RS (kx X M) F0 H0 F H σ ρ → Rep (kx X M) H F v d → g d ρ = some ρ' → (∀ σ', RS (kx X M) F0 H0 F H σ' ρ' → (∀ vs, (∀ i ∈ is, i ∈ vs) → wipe σ' vs = wipe σ vs) → Q σ' H) → tgt v σ H Q)
    (ht : ∀ F0 H0 F H σ ρ b Q, RS (kx X M) F0 H0 F H σ ρ → t ρ = some b → (∀ F' H', Go (kx X M) F H F' H' → Q b H') → tt σ H Q)
    (he : ∀ F0 H0 F H σ ρ d Q, RS (kx X M) F0 H0 F H σ ρ → f ρ = some d → (∀ F' H' v, Go (kx X M) F H F' H' → Rep (kx X M) H' F' v d → Q v H') → te σ H Q) (hv : ∀ i ∈ is, i ∈ vs) :
    ∀ F0 H0 F H σ ρ d Q, RS (kx X M) F0 H0 F H σ ρ → eLc w g t f vs ρ = some d → (∀ F' H' a, Go (kx X M) F H F' H' → H a = none → F' a = none → Own (kx X M) H' F' a d → Q (.ref a) H') → tLc wi tgt tt te vs σ H Q := by
  intro F0 H0 F H σ ρ d Q s hd k
  obtain ⟨xs, hxs, hd⟩ := bsome hd
  obtain ⟨r, hr, hd⟩ := bsome hd
  cases hd
  refine hw F0 H0 F H σ ρ xs _ s hxs fun F1 H1 J g1 j => ?_
  intro D0 hD0
  have s1 := s.go g1
  have F1D : F1 D0 = none := g1.good.none hD0
  refine ⟨fun i m Hc => m = xs.length - i ∧ i ≤ xs.length ∧ ∃ Fc acc accd rest, Go (kx X M) F1 H1 Fc Hc ∧ Hc D0 = some (.lst acc) ∧ Fc D0 = none ∧ Reps (kx X M) Hc Fc acc accd ∧ acc.length ≤ i ∧ lcM g t f (wipeE ρ vs) (xs.drop i) = some rest ∧ accd ++ rest = r, ⟨xs.length, ?_⟩, ?_⟩
  · refine ⟨by simp, Nat.zero_le _, F1, [], [], r, g1.good.new hD0 fun z => z, upd_same, F1D, .nil, Nat.le_refl _, by simpa using hr, rfl⟩
  · rintro i m Hc ⟨rfl, hi, Fc, acc, accd, rest, gc, hD, hFD, ra, hal, hl, e⟩
    by_cases hlt : i < xs.length
    · right
      have hx : xs[i]? = some xs[i] := List.getElem?_eq_getElem hlt
      obtain ⟨go, hy⟩ := j.turn Fc Hc i xs[i] gc hx
      refine ⟨go, fun H' => ∃ m', m' < xs.length - i ∧ (m' = xs.length - (i + 1) ∧ i + 1 ≤ xs.length ∧ ∃ Fc acc accd rest, Go (kx X M) F1 H1 Fc H' ∧ H' D0 = some (.lst acc) ∧ Fc D0 = none ∧ Reps (kx X M) H' Fc acc accd ∧ acc.length ≤ i + 1 ∧ lcM g t f (wipeE ρ vs) (xs.drop (i + 1)) = some rest ∧ accd ++ rest = r), fun H' n => n, fun x H' y => ?_⟩
      obtain ⟨rfl, rx⟩ := hy x H' y
      rw [List.drop_eq_getElem_cons hlt] at hl
      obtain ⟨ρ1, hg1, hl⟩ := bsome (show (g xs[i] (wipeE ρ vs)).bind _ = some rest from hl)
      obtain ⟨b, hb, hl⟩ := bsome hl
      have sc := (s1.go gc).wipe vs
      refine hg F0 H0 Fc H' (wipe σ vs) (wipeE ρ vs) x xs[i] ρ1 _ sc rx hg1 fun σ2 s2 w2 => ⟨?_, ?_⟩
      · have q := w2 vs hv
        rw [q]
        have idem : ∀ us : List Nat, (∀ u ∈ us, u ∈ vs) → wipe (wipe σ vs) us = wipe σ vs := by
          intro us
          induction us with
          | nil => intro _; rfl
          | cons u us ih =>
            intro h
            have h2 := ih fun z hz => h z (List.mem_cons_of_mem _ hz)
            show (wipe (wipe σ vs) us).set u none = wipe σ vs
            rw [h2]
            have key : ∀ (ws : List Nat), u ∈ ws → (wipe σ ws).set u none = wipe σ ws := by
              intro ws
              induction ws with
              | nil => intro h; cases h
              | cons c ws ih2 =>
                intro h
                show ((wipe σ ws).set c none).set u none = (wipe σ ws).set c none
                by_cases hc : u = c
                · subst hc; exact List.set_set ..
                · rw [List.set_comm _ _ (Ne.symm hc)]
                  rw [ih2 ((List.mem_cons.mp h).resolve_left hc)]
            exact key vs (h u List.mem_cons_self)
        exact idem vs fun _ h => h
      · refine ht F0 H0 Fc H' σ2 ρ1 b _ s2 hb fun F3 H3 g3 => ?_
        obtain ⟨k3, k3'⟩ := g3.keep hD (fun z => z) hFD
        cases b with
        | false =>
          refine ⟨xs.length - (i + 1), by omega, rfl, hlt, F3, acc, accd, rest, gc.trans g1.good g3, k3, k3', ra.ext g3.toExt, Nat.le_succ_of_le hal, hl, e⟩
        | true =>
          obtain ⟨d1, hd1, hl⟩ := bsome (show (f ρ1).bind _ = some rest from hl)
          obtain ⟨rest', hr', hl⟩ := bsome hl
          cases hl
          refine he F0 H0 F3 H3 σ2 ρ1 d1 _ (s2.go g3) hd1 fun F4 H4 v g4 r4 => ?_
          obtain ⟨k4, k4'⟩ := g4.keep k3 (fun z => z) k3'
          refine ⟨acc, k4, Nat.lt_of_le_of_lt hal (Nat.lt_of_lt_of_le hlt j.len), xs.length - (i + 1), by omega, rfl, hlt, F4, acc ++ [v], accd ++ [d1], rest', ?_, upd_same, k4', ?_, ?_, hr', by rw [List.append_assoc]; exact e⟩
          · exact ((gc.trans g1.good g3).trans g1.good g4).put hD0 k4 (fun z => z) (fun z => z) (fun z => z) k4'
          · exact (((ra.ext g3.toExt).ext g4.toExt).append (.cons r4 .nil)).put k4 fun z => z
          · rw [List.length_append]; exact Nat.succ_le_succ hal
    · left
      have hi' : i = xs.length := by omega
      subst hi'
      refine ⟨j.stop Fc Hc gc, ?_⟩
      rw [List.drop_length] at hl
      cases hl
      rw [List.append_nil] at e
      subst e
      exact k Fc Hc D0 (g1.trans s.good gc) (g1.toExt.free s.good.tabs hD0) hFD ⟨acc, hD, Nat.le_trans hal j.len, ra⟩
theorem oe_lc (hc : X.calm = true) (hN : X.N.Nodup) (hw : CWg M X tg iter w) (ok : BlkOk X.N X.env.scope scope own) (hg : ∀ i, CG M (bx X scope i) tg g is) (ht : ∀ i, CTs M (bx X scope i) ifs t) (he : ∀ i, VE M (bx X scope i) elt f) (hv : ∀ i ∈ is, i ∈ own.map (·.2))
    (hs : ∀ x, foldedSetIterable iter X.env x = pure x := by intro _; rfl) : OE M X (.ListComp elt [⟨tg, iter, ifs, 0⟩] scope pos) (eLc w g t f (own.map (·.2))) := by
  obtain ⟨wi, pi, qi⟩ := hw
  obtain ⟨tgt, pg, qg⟩ := uniG (X := bx X scope) (κ := kx X M) (fun _ => rfl) hg
  obtain ⟨tt, pt, qt⟩ := uniT (X := bx X scope) (κ := kx X M) (fun _ => rfl) ht
  obtain ⟨te, pe, qe⟩ := uniV (X := bx X scope) (κ := kx X M) (fun _ => rfl) he
  exact ⟨_, pe_lc hc hN pi ok (fun s H C cl fp => pg ⟨s, H, C, cl, fp⟩) (fun s H C cl fp => pt ⟨s, H, C, cl, fp⟩) (fun s H C cl fp => pe ⟨s, H, C, cl, fp⟩) hs, lc_read qi qg qt qe hv⟩
end
end Vl
end
section
set_option Elab.async false
set_option linter.all false
set_option maxRecDepth 100000
set_option maxHeartbeats 2000000
/-! statements -/
namespace Vl
open PySem PySem.Spec PyProof.Rows L2 GxR TupF Dc
section
variable {κ : Kx} {F0 H0 F H F' H' : Hp} {σ : L2.St} {ρ : En}
/-- an own object is written -/
theorem RS.mut {i : Nat} {d d' : D} {a : Addr} {o o' : HO} (s : RS κ F0 H0 F H σ ρ) (hρ : ρ[i]? = some (some (S.ow d))) (hσ : σ[i]? = some (some (V.ref a))) (hH : H a = some o) (nt : ¬ isTbl o) (nt' : ¬ isTbl o') (nf : ¬ isFix o) (w : Own κ (upd H a o') F a d') :
    RS κ F0 H0 F (upd H a o') σ (ρ.set i (some (S.ow d'))) ∧ Le F H F (upd H a o') := by
  obtain ⟨a', e1, h0, hF, _⟩ := s.ow i d hρ
  rw [hσ] at e1
  cases e1
  have fx : Fx H (upd H a o') := Fx.upd fun u e => by rw [hH] at e; cases e; exact nf
  have hl : i < ρ.length := (List.getElem?_eq_some_iff.mp hρ).1
  refine ⟨⟨⟨s.ext.f, ?_, ?_, ?_, s.ext.new⟩, s.tb0, s.good.put hH nt nt' nf hF, by rw [List.length_set, s.len], ?_, ?_, ?_⟩, ⟨fun _ _ e => e, fx⟩⟩
  · intro b u e n
    rw [upd_ne (ne_of_none e h0)]
    exact s.ext.h b u e n
  · intro P h
    obtain ⟨ps, e, r⟩ := s.ext.t P h
    have hb : P ≠ a := fun z => by
      subst z
      rw [hH] at e
      cases e
      exact nt trivial
    exact ⟨ps, by rw [upd_ne hb]; exact e, r⟩
  · intro P ps h
    obtain ⟨qs, e⟩ := s.ext.tb P ps h
    have hb : P ≠ a := fun z => by
      subst z
      rw [hH] at e
      cases e
      exact nt trivial
    exact ⟨qs, by rw [upd_ne hb]; exact e⟩
  · intro j e h
    by_cases hj : i = j
    · subst hj
      rw [List.getElem?_set_self hl] at h
      cases h
    · rw [List.getElem?_set_ne hj] at h
      obtain ⟨v, h1, h2⟩ := s.sh j e h
      exact ⟨v, h1, h2.mono fx fun _ _ e _ => e⟩
  · intro j e h
    by_cases hj : i = j
    · subst hj
      rw [List.getElem?_set_self hl] at h
      cases h
      exact ⟨a, hσ, h0, hF, w⟩
    · rw [List.getElem?_set_ne hj] at h
      obtain ⟨b, h1, h2, h3, h4⟩ := s.ow j e h
      have hb : b ≠ a := fun z => by
        subst z
        exact hj (s.inj i j d e b hρ h hσ h1)
      exact ⟨b, h1, h2, h3, h4.mono fx (fun _ _ e _ => e) fun u e n => by rw [upd_ne hb]; exact e⟩
  · intro j k e e' b h1 h2 h3 h4
    have q : ∀ {j : Nat} {e : D}, (ρ.set i (some (S.ow d')))[j]? = some (some (S.ow e)) → ∃ e', ρ[j]? = some (some (S.ow e')) := fun {j e} h => by
      by_cases hj : i = j
      · subst hj
        exact ⟨d, hρ⟩
      · rw [List.getElem?_set_ne hj] at h
        exact ⟨e, h⟩
    obtain ⟨_, g1⟩ := q h1
    obtain ⟨_, g2⟩ := q h2
    exact s.inj j k _ _ b g1 g2 h3 h4
/-- what a slot owns is shared from now on -/
theorem RS.frz1 {i : Nat} {d : D} (s : RS κ F0 H0 F H σ ρ) (hρ : ρ[i]? = some (some (S.ow d))) : ∃ F', RS κ F0 H0 F' H σ (ρ.set i (some (S.sh d))) ∧ Le F H F' H := by
  obtain ⟨a, hσ, h0, hF, w⟩ := s.ow i d hρ
  obtain ⟨u, hu, nt, r⟩ := w.share hF
  have hl : i < ρ.length := (List.getElem?_eq_some_iff.mp hρ).1
  have g1 := Ext.share (κ := κ) (F := F) (H := fun b => if b = a then none else H b) (F' := F) (H' := H) (a := a) (o := u)
  have fm : ∀ b o, F b = some o → (upd F a u) b = some o := fun b o e => by rw [upd_ne (ne_of_none e hF)]; exact e
  refine ⟨upd F a u, ⟨⟨fun b o e => fm b o (s.ext.f b o e), s.ext.h, s.ext.t, s.ext.tb, fun b o e => ?_⟩, s.tb0, ⟨fun b o e => ?_, s.good.tabs⟩, by rw [List.length_set, s.len], ?_, ?_, ?_⟩, ⟨fm, Fx.refl H⟩⟩
  · by_cases hb : b = a
    · subst hb; exact .inr h0
    · rw [upd_ne hb] at e
      exact s.ext.new b o e
  · by_cases hb : b = a
    · subst hb
      rw [upd_same] at e
      cases e
      exact ⟨hu, nt⟩
    · rw [upd_ne hb] at e
      exact s.good.sub b o e
  · intro j e h
    by_cases hj : i = j
    · subst hj
      rw [List.getElem?_set_self hl] at h
      cases h
      exact ⟨.ref a, hσ, r⟩
    · rw [List.getElem?_set_ne hj] at h
      obtain ⟨v, h1, h2⟩ := s.sh j e h
      exact ⟨v, h1, h2.mono (Fx.refl H) fun b o e _ => fm b o e⟩
  · intro j e h
    by_cases hj : i = j
    · subst hj
      rw [List.getElem?_set_self hl] at h
      cases h
    · rw [List.getElem?_set_ne hj] at h
      obtain ⟨b, h1, h2, h3, h4⟩ := s.ow j e h
      have hb : b ≠ a := fun z => by
        subst z
        exact hj (s.inj i j d e b hρ h hσ h1)
      exact ⟨b, h1, h2, by rw [upd_ne hb]; exact h3, h4.mono (Fx.refl H) (fun b o e _ => fm b o e) fun _ e _ => e⟩
  · intro j k e e' b h1 h2 h3 h4
    have q : ∀ {j : Nat} {e : D}, (ρ.set i (some (S.sh d)))[j]? = some (some (S.ow e)) → ρ[j]? = some (some (S.ow e)) := fun {j e} h => by
      by_cases hj : i = j
      · subst hj
        rw [List.getElem?_set_self hl] at h
        cases h
      · rwa [List.getElem?_set_ne hj] at h
    exact s.inj j k _ _ b (q h1) (q h2) h3 h4
theorem RS.frz : ∀ {is : List Nat} {F : Hp} {ρ : En}, RS κ F0 H0 F H σ ρ → ∃ F', RS κ F0 H0 F' H σ (Vl.frz is ρ) ∧ Le F H F' H
  | [], F, ρ, s => ⟨F, s, .refl F H⟩
  | i :: is, F, ρ, s => by
    unfold Vl.frz
    rw [List.foldl_cons]
    split
    · rename_i d hd
      obtain ⟨F1, s1, l1⟩ := s.frz1 hd
      obtain ⟨F2, s2, l2⟩ := RS.frz (is := is) s1
      exact ⟨F2, s2, l1.trans l2⟩
    · exact RS.frz (is := is) s
theorem OutOk.le {E : Ends} {o : Out} {F1 H1 : Hp} (l : Le F H F1 H1) (h : OutOk κ F0 H0 F H E o) : OutOk κ F0 H0 F1 H1 E o := by
  cases o with
  | nx ρ => exact fun F' H' σ s l' => h F' H' σ s (l.trans l')
  | rt d => exact h
  | bk ρ => exact fun F' H' σ s l' => h F' H' σ s (l.trans l')
  | ct ρ => exact fun F' H' σ s l' => h F' H' σ s (l.trans l')
end
section
variable {M : Wd} {X : Cx} {e a b c tg iter : Expr} {st : Stmt} {sa sb rest : List Stmt} {f fa fb : FE} {fs ft : FS} {t : FT} {g : FG} {w : FW} {is : List Nat} {pos p pos' : Pos}
theorem css_nil : CSs M X [] sNext := ⟨_, pss_nil, fun F0 H0 F H σ ρ o E s h k => by cases h; exact k F H σ s (.refl F H)⟩
theorem css_cons (h : CS M X st fs) (hr : CSs M X rest ft) : CSs M X (st :: rest) (sSeq fs ft) := by
  obtain ⟨t1, p1, q1⟩ := h
  obtain ⟨t2, p2, q2⟩ := hr
  refine ⟨_, pss_cons p1 p2, fun F0 H0 F H σ ρ o E s h k => ?_⟩
  obtain ⟨o1, h1, h2⟩ := bsome h
  refine q1 F0 H0 F H σ ρ o1 _ s h1 ?_
  cases o1 with
  | nx ρ1 => exact fun F1 H1 σ1 s1 l1 => q2 F0 H0 F1 H1 σ1 ρ1 o E s1 h2 (k.le l1)
  | rt d => cases h2; exact k
  | bk ρ1 => cases h2; exact k
  | ct ρ1 => cases h2; exact k
theorem css_one (h : CS M X st fs) : CSs M X [st] fs := let ⟨t1, p1, q1⟩ := h; ⟨t1, pss_one p1, q1⟩
theorem css_never : CSs M X sa sNever := ⟨_, pss_never, fun F0 H0 F H σ ρ o E s h k => nomatch h⟩
theorem cs_never : CS M X st sNever := ⟨_, ps_never, fun F0 H0 F H σ ρ o E s h k => nomatch h⟩
theorem cs_pass : CS M X (.Pass pos) sNext := ⟨_, ps_pass, fun F0 H0 F H σ ρ o E s h k => by cases h; exact k F H σ s (.refl F H)⟩
theorem css_frz (is : List Nat) (h : CSs M X sa fs) : CSs M X sa (sFrz is fs) := by
  obtain ⟨t1, p1, q1⟩ := h
  refine ⟨t1, p1, fun F0 H0 F H σ ρ o E s h k => ?_⟩
  obtain ⟨F1, s1, l1⟩ := RS.frz (is := is) s
  exact q1 F0 H0 F1 H σ _ o E s1 h (k.le l1)
theorem cs_frz (is : List Nat) (h : CS M X st fs) : CS M X st (sFrz is fs) := by
  obtain ⟨t1, p1, q1⟩ := h
  refine ⟨t1, p1, fun F0 H0 F H σ ρ o E s h k => ?_⟩
  obtain ⟨F1, s1, l1⟩ := RS.frz (is := is) s
  exact q1 F0 H0 F1 H σ _ o E s1 h (k.le l1)
theorem cs_ret (h : VE M X e f) : CS M X (.Return (some e) pos) (sRet f) := by
  obtain ⟨t1, p1, q1⟩ := h
  refine ⟨_, ps_ret p1, fun F0 H0 F H σ ρ o E s h k => ?_⟩
  obtain ⟨d, hd, h⟩ := bsome h
  cases h
  refine q1 F0 H0 F H σ ρ d _ s hd fun F1 H1 v g1 r1 => ?_
  have s1 := s.go g1
  exact k F1 H1 v ⟨s1.ext, s1.good⟩ r1
theorem cs_retN : CS M X (.Return none pos) sRetN := ⟨_, ps_retN, fun F0 H0 F H σ ρ o E s h k => by
  cases h
  exact k F H .non ⟨s.ext, s.good⟩ .non⟩
theorem cs_drop (h : RE M X e f) (hs : swapsWith e none pos.line X.env = pure false := by rfl) : CS M X (.Expr e pos) (sDrop f) := by
  obtain ⟨t1, p1, q1⟩ := h
  refine ⟨_, ps_expr p1 hs, fun F0 H0 F H σ ρ o E s h k => ?_⟩
  obtain ⟨d, hd, h⟩ := bsome h
  cases h
  exact q1 F0 H0 F H σ ρ d _ s hd fun F1 H1 v g1 r1 => k F1 H1 σ (s.go g1) g1.toExt.le
theorem cs_if (hc : CT M X c t) (ha : CSs M X sa fs) (hb : CSs M X sb ft) : CS M X (.If c sa sb pos) (sIf t fs ft) := by
  obtain ⟨tc, pc, qc⟩ := hc
  obtain ⟨t1, p1, q1⟩ := ha
  obtain ⟨t2, p2, q2⟩ := hb
  refine ⟨_, ps_if pc p1 p2, fun F0 H0 F H σ ρ o E s h k => ?_⟩
  obtain ⟨x, hx, h⟩ := bsome h
  refine qc F0 H0 F H σ ρ x _ s hx fun F1 H1 g1 => ?_
  cases x with
  | true => exact q1 F0 H0 F1 H1 σ ρ o E (s.go g1) h (k.le g1.toExt.le)
  | false => exact q2 F0 H0 F1 H1 σ ρ o E (s.go g1) h (k.le g1.toExt.le)
theorem cs_set {i : Nat} {x : Str} (hp : ∀ {te}, PE X e te → PS X (.Assign [.Name x pos'] e pos) (tAsg te (gName i))) (h : VE M X e f) : CS M X (.Assign [.Name x pos'] e pos) (sSet i f) := by
  obtain ⟨t1, p1, q1⟩ := h
  refine ⟨_, hp p1, fun F0 H0 F H σ ρ o E s h k => ?_⟩
  obtain ⟨d, hd, h⟩ := bsome h
  cases h
  exact q1 F0 H0 F H σ ρ d _ s hd fun F1 H1 v g1 r1 => k F1 H1 _ ((s.go g1).set r1) g1.toExt.le
theorem RS.setNew {κ : Kx} {F0 H0 F H F1 H1 : Hp} {σ : L2.St} {ρ : En} {i : Nat} {a : Addr} {d : D} (s : RS κ F0 H0 F H σ ρ) (g : Go κ F H F1 H1) (hH : H a = none) (hF : F1 a = none) (o : Own κ H1 F1 a d) : RS κ F0 H0 F1 H1 (σ.set i (some (.ref a))) (ρ.set i (some (S.ow d))) := by
  refine (s.go g).setOw (s.ext.free s.tb0 hH) hF o fun j e h _ z => ?_
  obtain ⟨b, h1, _, _, h4⟩ := s.ow j e h
  rw [z] at h1
  cases h1
  obtain ⟨u, hu, _⟩ := h4.there
  rw [hH] at hu
  cases hu
theorem cs_own {i : Nat} {x : Str} (hp : ∀ {te}, PE X e te → PS X (.Assign [.Name x pos'] e pos) (tAsg te (gName i))) (h : OE M X e f) : CS M X (.Assign [.Name x pos'] e pos) (sOwn i f) := by
  obtain ⟨t1, p1, q1⟩ := h
  refine ⟨_, hp p1, fun F0 H0 F H σ ρ o E s h k => ?_⟩
  obtain ⟨d, hd, h⟩ := bsome h
  cases h
  exact q1 F0 H0 F H σ ρ d _ s hd fun F1 H1 a g1 hH hF o1 => k F1 H1 _ (s.setNew g1 hH hF o1) g1.toExt.le
/-- x = [.. for ..] -/
theorem cs_ownLc {elt : Expr} {ifs : List Expr} {scope : Scope} {own : List (Str × Nat)} {i : Nat} {y : Str} {fe : FE} {spos : Pos} (hc : X.calm = true) (hN : X.N.Nodup) (hy : X.N[i]? = some y) (hyl : X.env.scope.names.lookup y = some .local)
    (hsw : swapsWith (.ListComp elt [⟨tg, iter, ifs, 0⟩] scope pos) (some (.Name y p)) spos.line X.env = pure true) (hw : CWg M X tg iter w) (ok : BlkOk X.N X.env.scope scope own) (hg : ∀ i, CG M (bx X scope i) tg g is) (ht : ∀ i, CTs M (bx X scope i) ifs t) (he : ∀ i, VE M (bx X scope i) elt fe) (hv : ∀ i ∈ is, i ∈ own.map (·.2))
    (hs : ∀ x, foldedSetIterable iter X.env x = pure x := by intro _; rfl) : CS M X (.Assign [.Name y p] (.ListComp elt [⟨tg, iter, ifs, 0⟩] scope pos) spos) (sOwn i (eLc w g t fe (own.map (·.2)))) := by
  obtain ⟨wi, pi, qi⟩ := hw
  obtain ⟨tgt, pg, qg⟩ := uniG (X := bx X scope) (κ := kx X M) (fun _ => rfl) hg
  obtain ⟨tt, pt, qt⟩ := uniT (X := bx X scope) (κ := kx X M) (fun _ => rfl) ht
  obtain ⟨te, pe, qe⟩ := uniV (X := bx X scope) (κ := kx X M) (fun _ => rfl) he
  refine ⟨_, ps_setLc hc hN hy hyl hsw pi ok (fun s H C cl fp => pg ⟨s, H, C, cl, fp⟩) (fun s H C cl fp => pt ⟨s, H, C, cl, fp⟩) (fun s H C cl fp => pe ⟨s, H, C, cl, fp⟩) hs, fun F0 H0 F H σ ρ o E s h k => ?_⟩
  obtain ⟨d, hd, h⟩ := bsome h
  cases h
  exact lc_read qi qg qt qe hv F0 H0 F H σ ρ d _ s hd fun F1 H1 a g1 hH hF o1 => k F1 H1 _ (s.setNew g1 hH hF o1) g1.toExt.le
theorem cs_asg (h : VE M X e f) (hg : CG M X tg g is) (hs : swapsWithSole [tg] e pos.line X.env = pure false := by rfl) (hw : swappedStores [tg] e X.env = pure none := by rfl)
    (h1 : (assignEach [tg] X.env).map (·.2) = [assign tg X.env] := by rfl) : CS M X (.Assign [tg] e pos) (sAsg g f) := by
  obtain ⟨t1, p1, q1⟩ := h
  obtain ⟨t2, p2, q2⟩ := hg
  refine ⟨_, ps_asg p1 p2 hs hw h1, fun F0 H0 F H σ ρ o E s h k => ?_⟩
  obtain ⟨d, hd, h⟩ := bsome h
  obtain ⟨ρ1, hρ, h⟩ := bsome h
  cases h
  refine q1 F0 H0 F H σ ρ d _ s hd fun F1 H1 v g1 r1 => ?_
  exact q2 F0 H0 F1 H1 σ ρ v d ρ1 _ (s.go g1) r1 hρ fun σ2 s2 _ => k F1 H1 σ2 s2 g1.toExt.le
theorem cs_par {i j : Nat} {x y : Str} {px py pt : Pos} {kt k2 pt2} (hc : X.calm = true) (hN : X.N.Nodup) (hi : X.N[i]? = some x) (hj : X.N[j]? = some y) (hij : i ≠ j)
    (hx : X.env.scope.names.lookup x = some .local) (hy : X.env.scope.names.lookup y = some .local) (ha : VE M X a fa) (hb : VE M X b fb)
    (hw : swappedStores [.Tuple [.Name x px, .Name y py] kt pt] (.Tuple [a, b] k2 pt2) X.env = pure (some [x, y]))
    (hs : swapsWithSole [.Tuple [.Name x px, .Name y py] kt pt] (.Tuple [a, b] k2 pt2) pos.line X.env = pure false := by rfl)
    (hs1 : starEach [a, b] X.env = (false, eval a X.env) :: starEach [b] X.env := by rfl) (hs2 : starEach [b] X.env = (false, eval b X.env) :: starEach [] X.env := by rfl) :
    CS M X (.Assign [.Tuple [.Name x px, .Name y py] kt pt] (.Tuple [a, b] k2 pt2) pos) (sPar i j fa fb) := by
  obtain ⟨ta, pa, qa⟩ := (va_cons ha (va_cons hb va_nil hs2) hs1 : VA M X [a, b] (aCons fa (aCons fb aNil)))
  refine ⟨_, ps_par hc hN hi hj hij hx hy pa hw hs, fun F0 H0 F H σ ρ o E s h k => ?_⟩
  obtain ⟨da, hda, h⟩ := bsome h
  obtain ⟨db, hdb, h⟩ := bsome h
  cases h
  have ha : (aCons fa (aCons fb aNil)) ρ = some [da, db] := by
    unfold aCons aNil
    rw [hda, hdb]
    rfl
  refine qa F0 H0 F H σ ρ _ _ s ha fun F1 H1 vs g1 r1 => ?_
  cases r1 with
  | cons r1 rs =>
    cases rs with
    | cons r2 rs =>
      cases rs
      exact ⟨_, _, rfl, k F1 H1 _ (((s.go g1).set r1).set r2) g1.toExt.le⟩
theorem cs_aug {i : Nat} {x : Str} (hp : ∀ {te}, PE X e te → PS X (.AugAssign (.Name x pos') .Add e pos) (tAug i te (ipI fun i j => i + j))) (h : RE M X e f) : CS M X (.AugAssign (.Name x pos') .Add e pos) (sAug i f) := by
  obtain ⟨t1, p1, q1⟩ := h
  refine ⟨_, hp p1, fun F0 H0 F H σ ρ o E s h k => ?_⟩
  obtain ⟨d, hd, h⟩ := bsome h
  obtain ⟨d2, hd2, h⟩ := bsome h
  unfold eSh at hd
  split at hd
  · rename_i d' he
    cases hd
    obtain ⟨v, h1, h2⟩ := s.sh i _ he
    split at h
    · cases h
      cases h2
      refine ⟨_, h1, q1 F0 H0 F H σ ρ _ _ s hd2 fun F1 H1 v g1 r1 => ?_⟩
      cases r1
      exact ⟨_, _, rfl, rfl, k F1 H1 _ ((s.go g1).set (.int _)) g1.toExt.le⟩
    · cases h
  · cases hd
/-- xs.append(e), xs its own -/
theorem cs_app {i : Nat} {x : Str} {apos cpos p' : Pos} (hx : PE X (.Name x p') (tVar i)) (h : VE M X e f) (hb : attributeBase (.Name x p') "append" X.env (eval (.Name x p') X.env) = eval (.Name x p') X.env := by rfl)
    (hf : ((backTo cpos (starEach [e] X.env)).all (fun x => !x.1) && (backToKw cpos (keywordEach [] X.env)).all (fun x => x.1.isSome)
      && decide ([e].length + ([] : List Keyword).length + (if ([] : List Keyword).isEmpty then 0 else 1) < 30)) = true := by rfl)
    (hline : (apos.endLine == cpos.line) = true := by rfl) (hs1 : starEach [e] X.env = (false, eval e X.env) :: starEach [] X.env := by rfl) (hpl : (backTo cpos (starEach [] X.env)).any (·.1) = false := by rfl)
    (hs : swapsWith (.Call (.Attribute (.Name x p') "append" apos) [e] [] cpos) none pos.line X.env = pure false := by rfl) : CS M X (.Expr (.Call (.Attribute (.Name x p') "append" apos) [e] [] cpos) pos) (sApp i f) := by
  obtain ⟨ta, pa, qa⟩ := (va_cons h va_nil hs1 : VA M X [e] (aCons f aNil))
  refine ⟨_, ps_expr (pe_bm PySem.F.plainAttrs_list PySem.F.slot_list_append PySem.F.type_list_append mt_append hx pa hb hf hline hs1 hpl) hs, fun F0 H0 F H σ ρ o E s h k => ?_⟩
  unfold sApp at h
  split at h
  · rename_i ds he
    obtain ⟨d, hd, h⟩ := bsome h
    split at h
    · rename_i hr
      cases h
      obtain ⟨a, h1, h2, h3, vs, h4, h5, h6⟩ := s.ow i _ he
      have ha : (aCons f aNil) ρ = some [d] := by
        unfold aCons aNil
        rw [hd]
        rfl
      refine ⟨.ref a, h1, .inl ⟨rfl, vs, SqL.of h4⟩, ?_⟩
      refine qa F0 H0 F H σ ρ _ _ s ha fun F1 H1 ws g1 r1 => ?_
      cases r1 with
      | cons r1 rs =>
        cases rs
        have s1 := s.go g1
        have h4' : H1 a = some (.lst vs) := g1.h _ _ h4 fun z => z
        have hlen : vs.length < sizeLine := by rw [h6.length]; exact room_le hr
        refine ⟨a, vs, _, rfl, rfl, h4', hlen, ?_⟩
        obtain ⟨s2, l2⟩ := s1.mut (d' := .lst (ds ++ [d])) (o' := .lst (vs ++ [_])) he h1 h4' (fun z => z) (fun z => z) (fun z => z)
          ⟨_, upd_same, by rw [List.length_append]; exact hlen, ((h6.ext g1.toExt).append (.cons r1 .nil)).put h4' fun z => z⟩
        exact k F1 _ σ s2 (g1.toExt.le.trans l2)
    · cases h
  · cases h
end
end Vl
end
section
set_option Elab.async false
set_option linter.all false
set_option maxRecDepth 100000
set_option maxHeartbeats 2000000
/-! loops, stores, generator expressions -/
namespace Vl
open PySem PySem.Spec PyProof.Rows L2 GxR TupF Dc
section
variable {M : Wd} {X : Cx} {e a b c tg iter i1 : Expr} {st : Stmt} {sa sb rest : List Stmt} {f fa fb fk : FE} {fs ft : FS} {t : FT} {g : FG} {w : FW} {is : List Nat} {pos p pos' : Pos}
/-- xs[k] = e, xs its own -/
theorem cs_put {i : Nat} {x : Str} {p' tpos : Pos} (hx : PE X (.Name x p') (tVar i)) (hk : RE M X i1 fk) (h : VE M X e f)
    (ha : ∀ v, assign (.Subscript (.Name x p') i1 tpos) X.env v = (do
      let ov ← holding [v] (eval (.Name x p') X.env)
      let iv ← holding [v, ov] (eval i1 X.env)
      standAt tpos
      holding [v, ov, iv] (setItem ov iv v)
      release [v, ov, iv] []) := by intro _; rfl)
    (hs : swapsWithSole [.Subscript (.Name x p') i1 tpos] e pos.line X.env = pure false := by rfl) (hw : swappedStores [.Subscript (.Name x p') i1 tpos] e X.env = pure none := by rfl)
    (h1 : (assignEach [.Subscript (.Name x p') i1 tpos] X.env).map (·.2) = [assign (.Subscript (.Name x p') i1 tpos) X.env] := by rfl) :
    CS M X (.Assign [.Subscript (.Name x p') i1 tpos] e pos) (sPut i fk f) := by
  obtain ⟨t1, p1, q1⟩ := h
  obtain ⟨t2, p2, q2⟩ := hk
  refine ⟨_, ps_asg p1 (pg_sub hx p2 set_list ha) hs hw h1, fun F0 H0 F H σ ρ o E s h k => ?_⟩
  obtain ⟨d, hd, h⟩ := bsome h
  split at h
  · rename_i ds he
    obtain ⟨dk, hdk, h⟩ := bsome h
    split at h
    · rename_i z
      obtain ⟨j, hj, h⟩ := bsome h
      cases h
      obtain ⟨a, hσ, h2, h3, vs, h4, h5, h6⟩ := s.ow i _ he
      refine q1 F0 H0 F H σ ρ d _ s hd fun F1 H1 v g1 r1 => ?_
      refine ⟨.ref a, hσ, q2 F0 H0 F1 H1 σ ρ _ _ (s.go g1) hdk fun F2 H2 y g2 r2 => ?_⟩
      cases r2
      have g12 := g1.trans s.good g2
      have h4' : H2 a = some (.lst vs) := g12.h _ _ h4 fun z => z
      refine ⟨a, vs, z, j, rfl, rfl, h4', ?_, ?_⟩
      · rw [← ixN_eq, h6.length]; exact hj
      · obtain ⟨s2, l2⟩ := (s.go g12).mut (d' := .lst (ds.set j d)) (o' := .lst (vs.set j v)) he hσ h4' (fun z => z) (fun z => z) (fun z => z)
          ⟨_, upd_same, by rw [List.length_set]; exact h5, (Reps.set j (r1.ext g2.toExt) (h6.ext g12.toExt)).put h4' fun z => z⟩
        exact k F2 _ σ s2 (g12.toExt.le.trans l2)
    · cases h
  · cases h
theorem putW_rep {κ : Kx} {T F : Hp} {b : Addr} {ns : List Int} {v : V} {d : D} (hb : SqT κ.K T b (ns.map V.int)) (hn : NoD κ.K T b) (hl : ns.length ≤ sizeLine) (r : Rep κ T F v d) {kvs : List DRow} {ds : List (D × D)} (rs : RepK κ T F kvs ds) :
    RepK κ T F (putW kvs (ns.map Sum.inl) b v) (put ds (.tup (ns.map .int)) d) := by
  unfold putW put
  rw [(look_rep (ms := ns) rs).1]
  split
  · have : ∀ {kvs : List DRow} {ds : List (D × D)}, RepK κ T F kvs ds → RepK κ T F (kvs.map fun p => if p.1 = ns.map Sum.inl then (p.1, p.2.1, v) else p) (ds.map fun p => if D.eqv p.1 (.tup (ns.map .int)) then (p.1, d) else p) := by
      intro kvs ds rs
      induction kvs generalizing ds with
      | nil => cases rs; exact .nil
      | cons q kvs ih =>
        cases rs with
        | @cons ms b' v' _ d' ds' k1 k2 k3 r1 rs =>
          rw [List.map_cons, List.map_cons]
          have hq : (D.eqv (.tup (ms.map .int)) (.tup (ns.map .int))) = decide (ms = ns) := by simp only [D.eqv]; exact eqvL_ints
          by_cases e : ms = ns
          · rw [if_pos (inl_inj.mpr e), hq, if_pos (by simpa using e)]
            exact .cons k1 k2 k3 r (ih rs)
          · rw [if_neg (fun z => e (inl_inj.mp z)), hq, if_neg (by simpa using e)]
            exact .cons k1 k2 k3 r1 (ih rs)
    exact this rs
  · have : ∀ {kvs : List DRow} {ds : List (D × D)}, RepK κ T F kvs ds → RepK κ T F (kvs ++ [(ns.map Sum.inl, b, v)]) (ds ++ [(.tup (ns.map .int), d)]) := by
      intro kvs ds rs
      induction kvs generalizing ds with
      | nil => cases rs; exact .cons hb hn hl r .nil
      | cons q kvs ih =>
        cases rs with
        | cons k1 k2 k3 r1 rs => exact .cons k1 k2 k3 r1 (ih rs)
    exact this rs
theorem repK_len {κ : Kx} {T F : Hp} : ∀ {kvs : List DRow} {ds : List (D × D)}, RepK κ T F kvs ds → kvs.length = ds.length
  | _, _, .nil => rfl
  | _, _, .cons _ _ _ _ r => by rw [List.length_cons, List.length_cons, repK_len r]
/-- d[k] = e, d its own -/
theorem cs_dput {i : Nat} {x : Str} {p' tpos : Pos} (hu : X.A.units + 1 < cLine) (hx : PE X (.Name x p') (tVar i)) (hk : VE M X i1 fk) (h : VE M X e f)
    (hs : swapsWith e (some (.Subscript (.Name x p') i1 tpos)) pos.line X.env = pure false := by rfl) :
    CS M X (.Assign [.Subscript (.Name x p') i1 tpos] e pos) (sDput i fk f) := by
  obtain ⟨t1, p1, q1⟩ := h
  obtain ⟨t2, p2, q2⟩ := hk
  refine ⟨_, ps_putW hu hx p2 p1 hs, fun F0 H0 F H σ ρ o E s h k => ?_⟩
  obtain ⟨d, hd, h⟩ := bsome h
  split at h
  · rename_i ds he
    obtain ⟨dk, hdk, h⟩ := bsome h
    split at h
    · rename_i ok
      cases h
      rw [Bool.and_eq_true] at ok
      obtain ⟨a, hσ, h2, h3, kvs, h4, h6⟩ := s.ow i _ he
      refine q1 F0 H0 F H σ ρ d _ s hd fun F1 H1 v g1 r1 => ?_
      refine ⟨.ref a, hσ, q2 F0 H0 F1 H1 σ ρ _ _ (s.go g1) hdk fun F2 H2 y g2 r2 => ?_⟩
      obtain ⟨b, ns, rfl, rfl, hb, hn, hl⟩ := key_rep r2 ok.1
      have g12 := g1.trans s.good g2
      have h4' : H2 a = some (DicO X.prog X.w a kvs) := g12.h _ _ h4 fun z => z
      have h6' : RepK (kx X M) H2 F2 kvs ds := h6.mono (Fx.of g12.h) fun b o h _ => g12.f b o h
      refine ⟨a, b, kvs, ns.map Sum.inl, rfl, rfl, h4', kys_of h6', by rw [map_kV]; exact hb, by rw [repK_len h6']; exact room_le ok.2, ?_⟩
      obtain ⟨s2, l2⟩ := (s.go g12).mut (d' := .dic (put ds (.tup (ns.map .int)) d)) (o' := DicO X.prog X.w a (putW kvs (ns.map Sum.inl) b v)) he hσ h4' (fun z => z) (fun z => z) (fun z => z)
          ⟨_, upd_same, (putW_rep hb hn hl (r1.ext g2.toExt) h6').put h4' fun z => z⟩
      exact k F2 _ σ s2 (g12.toExt.le.trans l2)
    · cases h
  · cases h
/-- {} of one's own; {k: v} -/
theorem oe_dic0 : OE M X (.Dict [] [] pos) (eC (.dic [])) := ⟨_, pe_newW, fun F0 H0 F H σ ρ d Q s hd k => by
  cases hd
  intro p hp
  exact k F _ p (s.good.new hp fun z => z) hp (s.good.none hp) ⟨[], upd_same, .nil⟩⟩
theorem oe_dic1 (hu : X.A.units < cLine) (ha : VE M X a fa) (hb : VE M X b fb) : OE M X (.Dict [some a] [b] pos) (eDic1 fa fb) := by
  obtain ⟨ta, pa, qa⟩ := ha
  obtain ⟨tb, pb, qb⟩ := hb
  refine ⟨_, pe_disp1 hu pa pb, fun F0 H0 F H σ ρ d Q s hd k => ?_⟩
  obtain ⟨da, hda, hd⟩ := bsome hd
  obtain ⟨db, hdb, hd⟩ := bsome hd
  split at hd
  · rename_i ok
    cases hd
    intro p hp
    have g0 := s.good.new (o := DicO X.prog X.w p []) hp fun z => z
    refine qa F0 H0 F _ σ ρ da _ (s.go g0) hda fun F1 H1 x g1 r1 => ?_
    refine qb F0 H0 F1 H1 σ ρ db _ ((s.go g0).go g1) hdb fun F2 H2 y g2 r2 => ?_
    obtain ⟨k1, k1'⟩ := g1.keep upd_same (fun z => z) (s.good.none hp)
    obtain ⟨k2, k2'⟩ := g2.keep k1 (fun z => z) k1'
    obtain ⟨b0, ns, rfl, rfl, hb, hn, hl⟩ := key_rep (r1.ext g2.toExt) ok
    refine ⟨k2, b0, ns.map Sum.inl, rfl, by rw [map_kV]; exact hb, ?_⟩
    refine k F2 _ p (((g0.trans s.good g1).trans s.good g2).put hp k2 (fun z => z) (fun z => z) (fun z => z) k2') hp k2' ⟨_, upd_same, ?_⟩
    exact RepK.put (.cons hb hn hl r2 .nil) k2 fun z => z
  · cases hd
/-! ### loops -/
theorem cs_for (hp : PassesOwn (model X.prog X.w) X.A X.env X.xe) (hc : X.calm = true) (hw : CWs M X tg iter w) (hg : CG M X tg g is) (hb : CSs M X sa fs) (hs : ∀ x, foldedSetIterable iter X.env x = pure x := by intro _; rfl) : CS M X (.For tg iter sa [] pos) (sFor w g fs) := by
  obtain ⟨wi, pi, qi⟩ := hw
  obtain ⟨tt, pt, qt⟩ := hg
  obtain ⟨tb, pb, qb⟩ := hb
  refine ⟨_, ps_for hp hc pi pt pb hs, fun F0 H0 F H σ ρ o E s h k => ?_⟩
  obtain ⟨xs, hxs, h⟩ := bsome h
  refine qi F0 H0 F H σ ρ xs _ s hxs fun F1 H1 J g1 j => ?_
  refine ⟨fun i m σ' H' => m = xs.length - i ∧ i ≤ xs.length ∧ ∃ F' ρ', RS (kx X M) F0 H0 F' H' σ' ρ' ∧ Le F1 H1 F' H' ∧ forM g fs (xs.drop i) ρ' = some o, ⟨xs.length, by simp, Nat.zero_le _, F1, ρ, s.go g1, .refl F1 H1, by simpa using h⟩, ?_⟩
  rintro i m σ' Hc ⟨rfl, hi, Fc, ρ', sc, lc, hf⟩
  by_cases hlt : i < xs.length
  · right
    have hx : xs[i]? = some xs[i] := List.getElem?_eq_getElem hlt
    obtain ⟨go, hy⟩ := j.turn Fc Hc i xs[i] ⟨lc, sc.good⟩ hx
    refine ⟨go, fun σ2 H2 => ∃ m', m' < xs.length - i ∧ (m' = xs.length - (i + 1) ∧ i + 1 ≤ xs.length ∧ ∃ F' ρ', RS (kx X M) F0 H0 F' H2 σ2 ρ' ∧ Le F1 H1 F' H2 ∧ forM g fs (xs.drop (i + 1)) ρ' = some o), fun σ2 H2 n => n, fun x H' y => ?_⟩
    obtain ⟨rfl, rx⟩ := hy x H' y
    rw [List.drop_eq_getElem_cons hlt] at hf
    obtain ⟨ρ1, hg1, hf⟩ := bsome (show (g xs[i] ρ').bind _ = some o from hf)
    obtain ⟨o1, ho1, hf⟩ := bsome hf
    refine qt F0 H0 Fc H' σ' ρ' x xs[i] ρ1 _ sc rx hg1 fun σ2 s2 _ => ?_
    refine qb F0 H0 Fc H' σ2 ρ1 o1 _ s2 ho1 ?_
    have kk := k.le (g1.toExt.le.trans lc)
    cases o1 with
    | nx ρ2 => exact fun F3 H3 σ3 s3 l3 => ⟨xs.length - (i + 1), by omega, rfl, hlt, F3, ρ2, s3, lc.trans l3, hf⟩
    | ct ρ2 => exact fun F3 H3 σ3 s3 l3 => ⟨xs.length - (i + 1), by omega, rfl, hlt, F3, ρ2, s3, lc.trans l3, hf⟩
    | bk ρ2 => cases hf; exact kk
    | rt d => cases hf; exact kk
  · left
    have hi' : i = xs.length := by omega
    subst hi'
    refine ⟨j.stop Fc Hc ⟨lc, sc.good⟩, ?_⟩
    rw [List.drop_length] at hf
    cases hf
    exact k.le (g1.toExt.le.trans lc) Fc Hc σ' sc (.refl _ _)
theorem cs_while (hp : PassesOwn (model X.prog X.w) X.A X.env X.xe) (hc : CT M X c t) (hb : CSs M X sa fs) : CS M X (.While c sa [] pos) (sWhile t fs) := by
  obtain ⟨tc, pc, qc⟩ := hc
  obtain ⟨tb, pb, qb⟩ := hb
  refine ⟨_, ps_while hp pc pb, fun F0 H0 F H σ ρ o E s h k => ?_⟩
  refine ⟨fun m σ' H' => ∃ F' ρ', RS (kx X M) F0 H0 F' H' σ' ρ' ∧ Le F H F' H' ∧ whileM t fs m ρ' = some o, ⟨fuel, F, ρ, s, .refl F H, h⟩, ?_⟩
  rintro m σ' Hc ⟨Fc, ρ', sc, lc, hf⟩
  cases m with
  | zero => cases hf
  | succ m =>
    obtain ⟨x, hx, hf⟩ := bsome (show (t ρ').bind _ = some o from hf)
    refine qc F0 H0 Fc Hc σ' ρ' x _ sc hx fun F1 H1 g1 => ?_
    have kk := k.le (lc.trans g1.toExt.le)
    cases x with
    | false => cases hf; exact kk F1 H1 σ' (sc.go g1) (.refl _ _)
    | true =>
      refine ⟨fun σ2 H2 => ∃ m', m' < m + 1 ∧ ∃ F' ρ', RS (kx X M) F0 H0 F' H2 σ2 ρ' ∧ Le F H F' H2 ∧ whileM t fs m' ρ' = some o, fun σ2 H2 n => n, ?_⟩
      obtain ⟨o1, ho1, hf⟩ := bsome (show (fs ρ').bind _ = some o from hf)
      refine qb F0 H0 F1 H1 σ' ρ' o1 _ (sc.go g1) ho1 ?_
      cases o1 with
      | nx ρ2 => exact fun F3 H3 σ3 s3 l3 => ⟨m, Nat.lt_succ_self m, F3, ρ2, s3, (lc.trans g1.toExt.le).trans l3, hf⟩
      | ct ρ2 => exact fun F3 H3 σ3 s3 l3 => ⟨m, Nat.lt_succ_self m, F3, ρ2, s3, (lc.trans g1.toExt.le).trans l3, hf⟩
      | bk ρ2 => cases hf; exact kk
      | rt d => cases hf; exact kk
end
/-! ### any, all of a generator expression -/
abbrev GI (k : Nat) := { p : Around × Shared × Hp × Addr × Value × List Addr × List (Addr × Obj) // Room k p.1 }
def gxx (X : Cx) (scope : Scope) {k : Nat} (i : GI k) : Cx := Gx.gcx X i.1.1 i.1.2.1 i.1.2.2.1 (Gx.genv X scope i.1.2.2.2.1 i.1.2.2.2.2.1) i.1.2.2.2.2.2.1 i.1.2.2.2.2.2.2
theorem go_tab {κ : Kx} {F H H' : Hp} {P : Addr} (g : Good κ F H) (hP : P ∈ κ.tabs) (t : Tabbed P H H') : Go κ F H F H' := by
  obtain ⟨ps, e, _⟩ := g.tabs.1 P hP
  refine ⟨⟨fun _ _ e => e, fun b o e2 n => ?_, fun b hb => ?_, fun b qs hb => ?_, fun _ _ e => .inl e⟩, ⟨fun b o e2 => ?_, fun Q hQ => ?_, fun q hq => ?_⟩⟩
  · rw [t.2 b fun z => by subst z; rw [e] at e2; cases e2; exact n trivial]
    exact e2
  · by_cases z : b = P
    · rw [z]; exact t.1
    · obtain ⟨qs, e2, r⟩ := hb
      exact ⟨qs, by rw [t.2 b z]; exact e2, r⟩
  · by_cases z : b = P
    · obtain ⟨rs, e3, _⟩ := t.1
      exact ⟨rs, by rw [z]; exact e3⟩
    · exact ⟨qs, by rw [t.2 b z]; exact hb⟩
  · obtain ⟨h1, h2⟩ := g.sub b o e2
    exact ⟨by rw [t.2 b fun z => by subst z; rw [e] at h1; cases h1; exact h2 trivial]; exact h1, h2⟩
  · by_cases z : Q = P
    · rw [z]; exact t.1
    · obtain ⟨qs, e2, r⟩ := g.tabs.1 Q hQ
      exact ⟨qs, by rw [t.2 Q z]; exact e2, r⟩
  · obtain ⟨h1, h2, h3⟩ := g.tabs.2 q hq
    refine ⟨h1.ext (fun b qs e1 e2 => ?_) (fun b o u e2 => ?_), h2, h3⟩
    · rw [t.2 b fun z => by subst z; exact h2 (by rw [← e1]; exact hP)]; exact e2
    · rw [t.2 b fun z => by subst z; rw [e] at e2; cases e2]; exact e2
section
variable {M : Wd} {X : Cx} {elt tg iter : Expr} {scope : Scope} {own : List (Str × Nat)} {pos gpos p : Pos} {w : FW} {g : FG} {f : FE} {is : List Nat} {c P : Addr} {k : Nat} {al : Bool}
theorem gx_read {wi : TI} {tgt : TG} {te : TE} {vs : List Nat} (hP : P ∈ M.tabs) (hw : ∀ F0 H0 F H σ ρ ds R, RS (kx X M) F0 H0 F H σ ρ → w ρ = some ds → (∀ F' H' J, Go (kx X M) F H F' H' → JR (kx X M) (Go (kx X M) F' H') J ds → R J H') → wi σ H R)
    (hg : ∀ F0 H0 F H σ ρ v d ρ' Q, RS (kx X M) F0 H0 F H σ ρ → Rep (kx X M) H F v d → g d ρ = some ρ' → (∀ σ', RS (kx X M) F0 H0 F H σ' ρ' → (∀ vs, (∀ i ∈ is, i ∈ vs) → wipe σ' vs = wipe σ vs) → Q σ' H) → tgt v σ H Q)
    (he : ∀ F0 H0 F H σ ρ d Q, RS (kx X M) F0 H0 F H σ ρ → f ρ = some d → (∀ F' H' v, Go (kx X M) F H F' H' → Rep (kx X M) H' F' v d → Q v H') → te σ H Q) (hv : ∀ i ∈ is, i ∈ vs) :
    ∀ F0 H0 F H σ ρ d Q, RS (kx X M) F0 H0 F H σ ρ → eGx al w g f vs ρ = some d → (∀ F' H' v, Go (kx X M) F H F' H' → Rep (kx X M) H' F' v d → Q v H') → Gx.tGx al P wi tgt te vs σ H Q := by
  intro F0 H0 F H σ ρ d Q s hd kk
  obtain ⟨xs, hxs, hd⟩ := bsome hd
  obtain ⟨r, hr, hd⟩ := bsome hd
  cases hd
  refine hw F0 H0 F H σ ρ xs _ s hxs fun F1 H1 J g1 j => ?_
  refine ⟨g1.good.tabs.1 P hP, fun H2 ht => ?_⟩
  have g2 := go_tab g1.good hP ht
  refine ⟨fun i m Hc => m = xs.length - i ∧ i ≤ xs.length ∧ ∃ Fc, Go (kx X M) F1 H1 Fc Hc ∧ gxM al g f (wipeE ρ vs) (xs.drop i) = some r, ⟨xs.length, by simp, Nat.zero_le _, F1, g2, by simpa using hr⟩, ?_⟩
  rintro i m Hc ⟨rfl, hi, Fc, gc, hl⟩
  by_cases hlt : i < xs.length
  · right
    have hx : xs[i]? = some xs[i] := List.getElem?_eq_getElem hlt
    obtain ⟨go, hy⟩ := j.turn Fc Hc i xs[i] gc hx
    refine ⟨go, fun H' => ∃ m', m' < xs.length - i ∧ (m' = xs.length - (i + 1) ∧ i + 1 ≤ xs.length ∧ ∃ Fc, Go (kx X M) F1 H1 Fc H' ∧ gxM al g f (wipeE ρ vs) (xs.drop (i + 1)) = some r), fun H' n => n, fun x H' y => ?_⟩
    obtain ⟨rfl, rx⟩ := hy x H' y
    rw [List.drop_eq_getElem_cons hlt] at hl
    obtain ⟨ρ1, hg1, hl⟩ := bsome (show (g xs[i] (wipeE ρ vs)).bind _ = some r from hl)
    obtain ⟨d1, hd1, hl⟩ := bsome hl
    have sc := ((s.go g1).go gc).wipe vs
    refine hg F0 H0 Fc H' (wipe σ vs) (wipeE ρ vs) x xs[i] ρ1 _ sc rx hg1 fun σ2 s2 w2 => ⟨?_, ?_⟩
    · have q := w2 vs hv
      rw [q]
      have idem : ∀ us : List Nat, (∀ u ∈ us, u ∈ vs) → wipe (wipe σ vs) us = wipe σ vs := by
        intro us
        induction us with
        | nil => intro _; rfl
        | cons u us ih =>
          intro h
          have h2 := ih fun z hz => h z (List.mem_cons_of_mem _ hz)
          show (wipe (wipe σ vs) us).set u none = wipe σ vs
          rw [h2]
          have key : ∀ (ws : List Nat), u ∈ ws → (wipe σ ws).set u none = wipe σ ws := by
            intro ws
            induction ws with
            | nil => intro h; cases h
            | cons c ws ih2 =>
              intro h
              show ((wipe σ ws).set c none).set u none = (wipe σ ws).set c none
              by_cases hc : u = c
              · subst hc; exact List.set_set ..
              · rw [List.set_comm _ _ (Ne.symm hc)]
                rw [ih2 ((List.mem_cons.mp h).resolve_left hc)]
          exact key vs (h u List.mem_cons_self)
      exact idem vs fun _ h => h
    · refine he F0 H0 Fc H' σ2 ρ1 d1 _ s2 hd1 fun F3 H3 v g3 r3 => ?_
      split at hl
      · rename_i b
        cases r3
        refine ⟨b, rfl, ?_⟩
        by_cases hb : b = al
        · rw [if_pos hb] at hl ⊢
          exact ⟨xs.length - (i + 1), by omega, rfl, hlt, F3, gc.trans g1.good g3, hl⟩
        · rw [if_neg hb] at hl ⊢
          cases hl
          exact kk F3 H3 _ (g1.trans s.good (gc.trans g1.good g3)) (.bl _)
      · cases hl
  · left
    have hi' : i = xs.length := by omega
    subst hi'
    refine ⟨j.stop Fc Hc gc, ?_⟩
    rw [List.drop_length] at hl
    cases hl
    exact kk Fc Hc _ (g1.trans s.good gc) (.bl _)
theorem ve_any (hr : Room (k + 1) X.A) (hgl : Gl X "any") (hm : X.mg "any" = none) (TB : TabB X.base X.mg c P) (hcode : X.env.code = .ref c) (hc : X.calm = true) (hN : X.N.Nodup) (hP : P ∈ M.tabs) (hw : CWg M X tg iter w) (S : Gx.GSc X.N X.env.scope scope own)
    (hg : ∀ i : GI k, CG M (gxx X scope i) tg g is) (he : ∀ i : GI k, VE M (gxx X scope i) elt f) (hv : ∀ i ∈ is, i ∈ own.map (·.2)) (hs : ∀ v, genFold iter X.env v = pure v := by intro _; rfl)
    (hst : starEach [.GeneratorExp elt [⟨tg, iter, [], 0⟩] scope gpos] X.env = (false, eval (.GeneratorExp elt [⟨tg, iter, [], 0⟩] scope gpos) X.env) :: starEach [] X.env := by rfl) :
    VE M X (.Call (.Name "any" p) [.GeneratorExp elt [⟨tg, iter, [], 0⟩] scope gpos] [] pos) (eGx false w g f (own.map (·.2))) := by
  obtain ⟨wi, pi, qi⟩ := hw
  obtain ⟨tgt, pg, qg⟩ := uniG (X := gxx X scope) (κ := kx X M) (fun _ => rfl) hg
  obtain ⟨te, pe, qe⟩ := uniV (X := gxx X scope) (κ := kx X M) (fun _ => rfl) he
  exact ⟨_, Gx.pe_anyG hr hgl hm TB hcode hc hN pi S (fun A' s H C code fp pn h => pg ⟨⟨A', s, H, C, code, fp, pn⟩, h⟩) (fun A' s H C code fp pn h => pe ⟨⟨A', s, H, C, code, fp, pn⟩, h⟩) hs hst, gx_read hP qi qg qe hv⟩
theorem ve_all (hr : Room (k + 1) X.A) (hgl : Gl X "all") (hm : X.mg "all" = none) (TB : TabB X.base X.mg c P) (hcode : X.env.code = .ref c) (hc : X.calm = true) (hN : X.N.Nodup) (hP : P ∈ M.tabs) (hw : CWg M X tg iter w) (S : Gx.GSc X.N X.env.scope scope own)
    (hg : ∀ i : GI k, CG M (gxx X scope i) tg g is) (he : ∀ i : GI k, VE M (gxx X scope i) elt f) (hv : ∀ i ∈ is, i ∈ own.map (·.2)) (hs : ∀ v, genFold iter X.env v = pure v := by intro _; rfl)
    (hst : starEach [.GeneratorExp elt [⟨tg, iter, [], 0⟩] scope gpos] X.env = (false, eval (.GeneratorExp elt [⟨tg, iter, [], 0⟩] scope gpos) X.env) :: starEach [] X.env := by rfl) :
    VE M X (.Call (.Name "all" p) [.GeneratorExp elt [⟨tg, iter, [], 0⟩] scope gpos] [] pos) (eGx true w g f (own.map (·.2))) := by
  obtain ⟨wi, pi, qi⟩ := hw
  obtain ⟨tgt, pg, qg⟩ := uniG (X := gxx X scope) (κ := kx X M) (fun _ => rfl) hg
  obtain ⟨te, pe, qe⟩ := uniV (X := gxx X scope) (κ := kx X M) (fun _ => rfl) he
  exact ⟨_, Gx.pe_allG hr hgl hm TB hcode hc hN pi S (fun A' s H C code fp pn h => pg ⟨⟨A', s, H, C, code, fp, pn⟩, h⟩) (fun A' s H C code fp pn h => pe ⟨⟨A', s, H, C, code, fp, pn⟩, h⟩) hs hst, gx_read hP qi qg qe hv⟩
end
end Vl
end
section
set_option Elab.async false
set_option linter.all false
set_option maxRecDepth 100000
set_option maxHeartbeats 2000000
/-! more builtins -/
namespace Vl
open PySem PySem.Spec PyProof.Rows L2 GxR TupF Dc
section
variable {M : Wd} {X : Cx} {e a b : Expr} {f fa fb : FE} {pos p p2 pos2 apos cpos : Pos}
theorem ve_tuple (hg : Gl X "tuple") (hm : X.mg "tuple" = none) (h : IE M X e f) (he : starEach [e] X.env = (false, eval e X.env) :: starEach [] X.env := by rfl) (hpl : (backTo pos (starEach [] X.env)).any (·.1) = false := by rfl) : VE M X (.Call (.Name "tuple" p) [e] [] pos) (e1 D.toTup f) := by
  obtain ⟨te, pe, qe⟩ := h
  refine ⟨_, pe_callTy call_tupF hg hm boot_tuple (pa_cons pe pa_nil he) (by decide) (by decide) he hpl, fun F0 H0 F H σ ρ d Q s hf k => ?_⟩
  obtain ⟨da, hda, hf⟩ := bsome hf
  refine qe F0 H0 F H σ ρ da _ s hda fun F1 H1 v g1 r1 => ?_
  unfold D.toTup at hf
  split at hf
  · cases hf
    obtain ⟨a, vs, rfl, h, z, r⟩ := r1.lst g1.good.sub
    exact ⟨a, vs, rfl, .inl ⟨h, newT_go g1.good z r fun F2 H2 v g2 r2 => k F2 H2 v (g1.trans s.good g2) r2⟩⟩
  · cases hf
    obtain ⟨a, vs, rfl, h, n, z, r⟩ := r1.tup
    exact ⟨a, vs, rfl, .inr ⟨h, k F1 H1 _ g1 (.tup h n z r)⟩⟩
  · cases hf
theorem oe_list (hg : Gl X "list") (hm : X.mg "list" = none) (h : IE M X e f) (he : starEach [e] X.env = (false, eval e X.env) :: starEach [] X.env := by rfl) (hpl : (backTo pos (starEach [] X.env)).any (·.1) = false := by rfl) : OE M X (.Call (.Name "list" p) [e] [] pos) (e1 D.toLst f) := by
  obtain ⟨te, pe, qe⟩ := h
  refine ⟨_, pe_callTy call_list_of hg hm boot_list (pa_cons pe pa_nil he) (by decide) (by decide) he hpl, fun F0 H0 F H σ ρ d Q s hf k => ?_⟩
  obtain ⟨da, hda, hf⟩ := bsome hf
  refine qe F0 H0 F H σ ρ da _ s hda fun F1 H1 v g1 r1 => ?_
  have fin : ∀ (vs : List V) (ds : List D), vs.length ≤ sizeLine → Reps (kx X M) H1 F1 vs ds → d = .lst ds → ∀ l, H1 l = none → Q (.ref l) (upd H1 l (.lst vs)) := fun vs ds z r e l hl => by
    subst e
    exact k F1 _ l (g1.trans s.good (g1.good.new hl fun z => z)) (g1.toExt.free s.good.tabs hl) (g1.good.none hl) ⟨vs, upd_same, z, r.new hl⟩
  unfold D.toLst at hf
  split at hf
  · cases hf
    obtain ⟨a, vs, rfl, h, z, r⟩ := r1.lst g1.good.sub
    exact ⟨a, vs, rfl, .inl h, fin vs _ z r rfl⟩
  · cases hf
    obtain ⟨a, vs, rfl, h, n, z, r⟩ := r1.tup
    exact ⟨a, vs, rfl, .inr h, fin vs _ z r rfl⟩
  · cases hf
theorem ve_tupRev (hc : X.calm = true) (hg : Gl X "tuple") (hm : X.mg "tuple" = none) (hg2 : Gl X "reversed") (hm2 : X.mg "reversed" = none) (h : IE M X e f)
    (hs : starEach [e] X.env = (false, eval e X.env) :: starEach [] X.env := by rfl)
    (hs2 : starEach [.Call (.Name "reversed" p2) [e] [] pos2] X.env = (false, eval (.Call (.Name "reversed" p2) [e] [] pos2) X.env) :: starEach [] X.env := by rfl) :
    VE M X (.Call (.Name "tuple" p) [.Call (.Name "reversed" p2) [e] [] pos2] [] pos) (e1 D.revTup f) := by
  obtain ⟨te, pe, qe⟩ := h
  refine ⟨_, pe_tupRevF hc hg hm hg2 hm2 pe hs hs2, fun F0 H0 F H σ ρ d Q s hf k => ?_⟩
  obtain ⟨da, hda, hf⟩ := bsome hf
  refine qe F0 H0 F H σ ρ da _ s hda fun F1 H1 v g1 r1 => ?_
  unfold D.revTup at hf
  split at hf
  · cases hf
    obtain ⟨a, vs, rfl, h, z, r⟩ := r1.lst g1.good.sub
    exact ⟨a, vs, rfl, h, newT_go g1.good (by rw [List.length_reverse]; exact z) r.reverse fun F2 H2 v g2 r2 => k F2 H2 v (g1.trans s.good g2) r2⟩
  · cases hf
/-- t[:n], 0 ≤ n -/
theorem ve_take (ha : VE M X a fa) (hb : RE M X b fb) : VE M X (.Subscript a (.Slice none (some b) none p2) pos) (e2 D.takeTo fa fb) := by
  obtain ⟨ta, pa, qa⟩ := ha
  obtain ⟨tb, pb, qb⟩ := hb
  refine ⟨_, pe_slice sl_tupF pa po_none (po_some pb), fun F0 H0 F H σ ρ d Q s hf k => ?_⟩
  obtain ⟨da, hda, hf⟩ := bsome hf
  obtain ⟨db, hdb, hf⟩ := bsome hf
  refine qa F0 H0 F H σ ρ da _ s hda fun F1 H1 v g1 r1 => ?_
  refine qb F0 H0 F1 H1 σ ρ db _ (s.go g1) hdb fun F2 H2 y g2 r2 => ?_
  unfold D.takeTo at hf
  split at hf
  · rename_i xs n _
    split at hf
    · rename_i hn
      cases hf
      cases r2
      have r1' := r1.ext g2.toExt
      cases r1' with
      | @tup a0 vs ds h m z r =>
        have hi : HT.sIx vs.length vs.length (some n) = min n.toNat vs.length := by
          show (if n < 0 then (n + (vs.length : Int)).toNat else min n.toNat vs.length) = _
          rw [if_neg (by omega)]
        refine ⟨n, rfl, a0, vs, rfl, h, fun hw => ?_, fun hw => ?_⟩
        · have hle : vs.length ≤ n.toNat := by
            have := hw.2
            rw [hi] at this
            omega
          have e : xs.take n.toNat = xs := List.take_of_length_le (by rw [← r.length]; exact hle)
          rw [e] at k
          exact k F2 H2 _ (g1.trans s.good g2) (.tup h m z r)
        · have e : cutV vs none (some n) = vs.take n.toNat := by
            unfold cutV
            rw [HT.sIx_none, hi, List.drop_zero, Nat.sub_zero]
            by_cases hle : n.toNat ≤ vs.length
            · rw [Nat.min_eq_left hle]
            · rw [Nat.min_eq_right (by omega), List.take_of_length_le (Nat.le_refl _), List.take_of_length_le (by omega)]
          rw [e]
          refine newT_go g2.good (Nat.le_trans (by rw [List.length_take]; omega) z) (r.take n.toNat) fun F3 H3 v g3 r3 => ?_
          exact k F3 H3 v ((g1.trans s.good g2).trans s.good g3) r3
    · cases hf
  · cases hf
theorem findIdx_spec {α : Type} {q : α → Bool} : ∀ {l : List α} {j : Nat}, l.findIdx? q = some j → ∃ z, l[j]? = some z ∧ q z = true ∧ ∀ m z', m < j → l[m]? = some z' → q z' = false := by
  intro l
  induction l with
  | nil => intro j h; simp at h
  | cons x l ih =>
    intro j h
    rw [List.findIdx?_cons] at h
    by_cases hx : q x = true
    · rw [if_pos hx] at h
      cases h
      exact ⟨x, rfl, hx, fun m z' hm _ => absurd hm (Nat.not_lt_zero m)⟩
    · rw [if_neg hx] at h
      obtain ⟨i, hi, e⟩ := Option.map_eq_some_iff.mp h
      subst e
      obtain ⟨z, h1, h2, h3⟩ := ih hi
      refine ⟨z, by simpa using h1, h2, fun m z' hm hz => ?_⟩
      cases m with
      | zero =>
        simp only [List.getElem?_cons_zero, Option.some.injEq] at hz
        subst hz
        simpa using hx
      | succ m => exact h3 m z' (Nat.lt_of_succ_lt_succ hm) (by simpa using hz)
theorem toPL_get : ∀ {ds : List D} {j : Nat}, (D.toPL ds)[j]? = (ds[j]?).map D.toP
  | [], _ => by simp [D.toPL]
  | d :: ds, 0 => by simp [D.toPL]
  | d :: ds, j + 1 => by
    simp only [D.toPL, List.getElem?_cons_succ]
    exact toPL_get
theorem okdL_get {n : Nat} : ∀ {ds : List D} {j : Nat} {d : D}, D.okdL n ds = true → ds[j]? = some d → D.okd n d = true
  | [], _, _, _, h => by simp at h
  | d :: ds, 0, _, o, h => by
    simp only [D.okdL, Bool.and_eq_true] at o
    simp only [List.getElem?_cons_zero, Option.some.injEq] at h
    subst h
    exact o.1
  | d :: ds, j + 1, _, o, h => by
    simp only [D.okdL, Bool.and_eq_true] at o
    exact okdL_get o.2 (by simpa using h)
theorem index_spec {ds : List D} {a d : D} (oa : D.okd 60 a = true) (o : D.okdL 59 ds = true) (h : ((ds.findIdx? fun z => D.eqv z a).map fun (k : Nat) => D.int (k : Int)) = some d) :
    ∃ (j : Nat) (z : PyData), d = .int (j : Nat) ∧ (D.toPL ds)[j]? = some z ∧ PyData.eqv z a.toP = true ∧ ∀ (m : Nat) (z' : PyData), m < j → (D.toPL ds)[m]? = some z' → PyData.eqv z' a.toP = false := by
  obtain ⟨j, hj, e⟩ := Option.map_eq_some_iff.mp h
  obtain ⟨z, h1, h2, h3⟩ := findIdx_spec hj
  refine ⟨j, z.toP, e.symm, by rw [toPL_get, h1]; rfl, by rw [okd_eqv (okdL_get o h1) oa]; exact h2, fun m z' hm hz => ?_⟩
  rw [toPL_get] at hz
  obtain ⟨w, hw, e2⟩ := Option.map_eq_some_iff.mp hz
  subst e2
  rw [okd_eqv (okdL_get o hw) oa]
  exact h3 m w hm hw
/-- t.index(x) -/
theorem ve_idxT (hu : X.A.units + 65 < cLine) (ha : RE M X a fa) (hb : RE M X b fb)
    (hbase : attributeBase a "index" X.env (eval a X.env) = eval a X.env := by rfl)
    (hfew : ((backTo cpos (starEach [b] X.env)).all (fun x => !x.1) && (backToKw cpos (keywordEach [] X.env)).all (fun x => x.1.isSome)
      && decide ([b].length + ([] : List Keyword).length + (if ([] : List Keyword).isEmpty then 0 else 1) < 30)) = true := by rfl)
    (hline : (apos.endLine == cpos.line) = true := by rfl) (hs : starEach [b] X.env = (false, eval b X.env) :: starEach [] X.env := by rfl) (hplain : (backTo cpos (starEach [] X.env)).any (·.1) = false := by rfl) :
    VE M X (.Call (.Attribute a "index" apos) [b] [] cpos) (e2 D.indexT fa fb) := by
  obtain ⟨ta, pa, qa⟩ := ha
  obtain ⟨tb, pb, qb⟩ := (ra_cons hb ra_nil hs : RA M X [b] (aCons fb aNil))
  refine ⟨_, pe_tm PySem.F.plainAttrs_tuple PySem.F.slot_tuple_index PySem.F.type_tuple_index (mt_indexT hu) pa pb hbase hfew hline hs hplain, fun F0 H0 F H σ ρ d Q s hf k => ?_⟩
  obtain ⟨da, hda, hf⟩ := bsome hf
  obtain ⟨db, hdb, hf⟩ := bsome hf
  refine qa F0 H0 F H σ ρ da _ s hda fun F1 H1 v g1 r1 => ?_
  unfold D.indexT at hf
  split at hf
  · rename_i xs _
    split at hf
    · rename_i o
      rw [Bool.and_eq_true] at o
      have ha : (aCons fb aNil) ρ = some [db] := by
        unfold aCons aNil
        rw [hdb]
        rfl
      obtain ⟨j, z, e, h1, h2, h3⟩ := index_spec o.1 (by simpa only [D.okd] using o.2) hf
      subst e
      have r1c := r1
      cases r1 with
      | @tup a0 vs ds h m z0 r =>
        refine ⟨⟨a0, vs, rfl, h, m⟩, ?_⟩
        refine qb F0 H0 F1 H1 σ ρ _ _ (s.go g1) ha fun F2 H2 ws g2 r2 => ?_
        cases r2 with
        | cons r2 rs =>
          cases rs
          have h4 : Dp (kx X M).K H2 (.ref a0) (.tuple (D.toPL xs)) := (r1c.allExt g2.toExt).dp o.2
          exact ⟨a0, _, _, _, j, z, rfl, rfl, h4, r2.dp o.1, okd_shaped o.2, okd_shaped o.1, h1, h2, h3, k F2 H2 _ (g1.trans s.good g2) (.int _)⟩
    · cases hf
  · cases hf
/-- l.index(x) -/
theorem ve_idxL (hu : X.A.units + 65 < cLine) (ha : RE M X a fa) (hb : RE M X b fb)
    (hbase : attributeBase a "index" X.env (eval a X.env) = eval a X.env := by rfl)
    (hfew : ((backTo cpos (starEach [b] X.env)).all (fun x => !x.1) && (backToKw cpos (keywordEach [] X.env)).all (fun x => x.1.isSome)
      && decide ([b].length + ([] : List Keyword).length + (if ([] : List Keyword).isEmpty then 0 else 1) < 30)) = true := by rfl)
    (hline : (apos.endLine == cpos.line) = true := by rfl) (hs : starEach [b] X.env = (false, eval b X.env) :: starEach [] X.env := by rfl) (hplain : (backTo cpos (starEach [] X.env)).any (·.1) = false := by rfl) :
    VE M X (.Call (.Attribute a "index" apos) [b] [] cpos) (e2 D.indexL fa fb) := by
  obtain ⟨ta, pa, qa⟩ := ha
  obtain ⟨tb, pb, qb⟩ := (ra_cons hb ra_nil hs : RA M X [b] (aCons fb aNil))
  refine ⟨_, pe_bm PySem.F.plainAttrs_list PySem.F.slot_list_index PySem.F.type_list_index (mt_indexD hu) pa pb hbase hfew hline hs hplain, fun F0 H0 F H σ ρ d Q s hf k => ?_⟩
  obtain ⟨da, hda, hf⟩ := bsome hf
  obtain ⟨db, hdb, hf⟩ := bsome hf
  refine qa F0 H0 F H σ ρ da _ s hda fun F1 H1 v g1 r1 => ?_
  unfold D.indexL at hf
  split at hf
  · rename_i xs _
    split at hf
    · rename_i o
      rw [Bool.and_eq_true] at o
      have ha : (aCons fb aNil) ρ = some [db] := by
        unfold aCons aNil
        rw [hdb]
        rfl
      obtain ⟨j, z, e, h1, h2, h3⟩ := index_spec o.1 (by simpa only [D.okd] using o.2) hf
      subst e
      have r1c := r1
      cases r1 with
      | @lst a0 vs ds h z0 r =>
        refine ⟨.inl ⟨rfl, vs, h⟩, ?_⟩
        refine qb F0 H0 F1 H1 σ ρ _ _ (s.go g1) ha fun F2 H2 ws g2 r2 => ?_
        cases r2 with
        | cons r2 rs =>
          cases rs
          have h4 : Dp (kx X M).K H2 (.ref a0) (.list (D.toPL xs)) := (r1c.allExt g2.toExt).dp o.2
          exact ⟨a0, _, _, _, j, z, rfl, rfl, h4, r2.dp o.1, okd_shaped o.2, okd_shaped o.1, h1, h2, h3, k F2 H2 _ (g1.trans s.good g2) (.int _)⟩
    · cases hf
  · cases hf
end
end Vl
end
section
set_option Elab.async false
set_option linter.all false
set_option maxRecDepth 100000
set_option maxHeartbeats 2000000
/-! defs and classes -/
namespace Vl
open PySem PySem.Spec PyProof.Rows L2 GxR TupF Dc
/-! ### the entry -/
theorem start_get {N : List Str} {vs : List V} {i : Nat} : (L2.start N vs)[i]? = if i < vs.length then (vs[i]?).map some else if i < vs.length + (N.length - vs.length) then some none else none := by
  unfold L2.start
  rw [List.getElem?_append]
  rw [List.length_map]
  split
  · rw [List.getElem?_map]
  · rw [List.getElem?_replicate]
    split
    · rw [if_pos (by omega)]
    · rw [if_neg (by omega)]
section
variable {κ : Kx} {F H : Hp}
theorem rs_start {N : List Str} {vs : List V} {ds : List D} (g : Good κ F H) (r : Reps κ H F vs ds) : RS κ F H F H (L2.start N vs) (ds.map (fun d => some (S.sh d)) ++ List.replicate (N.length - ds.length) none) where
  ext := .refl F H
  tb0 := g.tabs
  good := g
  len := by unfold L2.start; rw [List.length_append, List.length_append, List.length_map, List.length_map, List.length_replicate, List.length_replicate, r.length]
  sh := fun i d h => by
    rw [List.getElem?_append, List.length_map] at h
    split at h
    · rename_i hi
      rw [List.getElem?_map] at h
      obtain ⟨d', hd, e⟩ := Option.map_eq_some_iff.mp h
      cases e
      obtain ⟨v, hv, rv⟩ := r.get hd
      refine ⟨v, ?_, rv⟩
      rw [start_get, if_pos (by rw [r.length]; exact hi), hv]
      rfl
    · rw [List.getElem?_replicate] at h
      split at h <;> cases h
  ow := fun i d h => by
    rw [List.getElem?_append, List.length_map] at h
    split at h
    · rw [List.getElem?_map] at h
      obtain ⟨d', hd, e⟩ := Option.map_eq_some_iff.mp h
      cases e
    · rw [List.getElem?_replicate] at h
      split at h <;> cases h
  inj := fun i j d e a h => by
    rw [List.getElem?_append, List.length_map] at h
    split at h
    · rw [List.getElem?_map] at h
      obtain ⟨d', hd, e⟩ := Option.map_eq_some_iff.mp h
      cases e
    · rw [List.getElem?_replicate] at h
      split at h <;> cases h
/-- the heap but for x -/
def wo (H : Hp) (x : Addr) : Hp := fun b => if b = x then none else H b
theorem wo_ne {x b : Addr} (h : b ≠ x) : wo H x b = H b := by unfold wo; rw [if_neg h]
theorem wo_same {x : Addr} : wo H x x = none := by unfold wo; rw [if_pos rfl]
theorem wo_some {x b : Addr} {o : HO} (h : wo H x b = some o) : H b = some o ∧ b ≠ x := by
  unfold wo at h
  split at h
  · cases h
  · exact ⟨h, by assumption⟩
theorem rs_startI {N : List Str} {vs : List V} {ds : List D} {c : Nat} {x dx : Addr} (g : Good κ F H) (hx : H x = some (.ins (κ.cl.at_ c) dx [])) (hF : F x = none) (hs : κ.slf = some x) (r : Reps κ (wo H x) F vs ds) : RS κ F (wo H x) F H (L2.start N (.ref x :: vs)) (some (S.ow (.ins c [])) :: ds.map (fun d => some (S.sh d)) ++ List.replicate (N.length - (ds.length + 1)) none) := by
  have fx : Fx (wo H x) H := fun b o e _ => (wo_some e).1
  have r' : Reps κ H F vs ds := r.mono fx fun _ _ e _ => e
  have tabs : Tabs κ (wo H x) := ⟨fun P hP => by
    obtain ⟨ps, e, r⟩ := g.tabs.1 P hP
    exact ⟨ps, by rw [wo_ne fun z => by subst z; rw [hx] at e; cases e]; exact e, r⟩, fun q hq => by
    obtain ⟨h1, h2⟩ := g.tabs.2 q hq
    exact ⟨h1.ext (fun b ps _ e => by rw [wo_ne fun z => by subst z; rw [hx] at e; cases e]; exact e) (fun b o u e => by rw [wo_ne fun z => by subst z; rw [hx] at e; cases e]; exact e), h2⟩⟩
  have shg : ∀ (i : Nat) (d : S), (some (S.ow (.ins c [])) :: ds.map (fun d => some (S.sh d)) ++ List.replicate (N.length - (ds.length + 1)) none)[i]? = some (some d) → (i = 0 ∧ d = S.ow (.ins c [])) ∨ ∃ j e, i = j + 1 ∧ ds[j]? = some e ∧ d = S.sh e := by
    intro i d h
    cases i with
    | zero =>
      simp only [List.cons_append, List.getElem?_cons_zero, Option.some.injEq] at h
      exact .inl ⟨rfl, h.symm⟩
    | succ i =>
      rw [List.cons_append, List.getElem?_cons_succ, List.getElem?_append, List.length_map] at h
      split at h
      · rw [List.getElem?_map] at h
        obtain ⟨d', hd, e⟩ := Option.map_eq_some_iff.mp h
        cases e
        exact .inr ⟨i, d', rfl, hd, rfl⟩
      · rw [List.getElem?_replicate] at h
        split at h <;> cases h
  refine ⟨⟨fun _ _ e => e, fun b o e _ => (wo_some e).1, fun P ⟨ps, e, r⟩ => ⟨ps, (wo_some e).1, r⟩, fun P ps e => ⟨ps, (wo_some e).1⟩, fun _ _ e => .inl e⟩, tabs, g, ?_, fun i d h => ?_, fun i d h => ?_, fun i j d e a h1 h2 _ _ => ?_⟩
  · unfold L2.start
    simp only [List.length_append, List.length_map, List.length_replicate, List.length_cons, r.length]
  · rcases shg i _ h with ⟨_, e⟩ | ⟨j, e, rfl, hj, e2⟩
    · cases e
    · cases e2
      obtain ⟨v, hv, rv⟩ := r'.get hj
      refine ⟨v, ?_, rv⟩
      have hl : j < vs.length := (List.getElem?_eq_some_iff.mp hv).1
      rw [start_get, if_pos (by rw [List.length_cons]; omega), List.getElem?_cons_succ, hv]
      rfl
  · rcases shg i _ h with ⟨rfl, e⟩ | ⟨j, e, rfl, hj, e2⟩
    · cases e
      refine ⟨x, ?_, wo_same, hF, hs, dx, [], by rw [List.zip_nil_right]; exact hx, Nat.zero_le _, .nil⟩
      rw [start_get, if_pos (by rw [List.length_cons]; omega)]
      rfl
    · cases e2
  · rcases shg i _ h1 with ⟨rfl, _⟩ | ⟨_, _, _, _, e2⟩
    · rcases shg j _ h2 with ⟨rfl, _⟩ | ⟨_, _, _, _, e2⟩
      · rfl
      · cases e2
    · cases e2
end
/-! ### a def keeps its promise -/
def cxN (P : Program) (w : World) (K : PySem.W.Frag) (mg : Str → Option Value) (base : Heap) (N : List Str) (qual : Str) (scope : Scope) (f : Addr) (c : Addr) (A : Around) (outer : List Env) (s : Shared) (H : Hp) (E : XK) : Cx :=
  (cxOf CX0 P w K mg base N qual scope f (.ref c) A outer s H E).nox
section
variable {P : Program} {w : World} {K : PySem.W.Frag} {mg : Str → Option Value} {base : Heap} {M : Wd}
theorem fd_code {d : He.DefD} {fd : FuncData} (F : FunD K d.name d.qual d.params d.body d.scope (d.dvs K) (d.kws K) (He.fAd K d.at_) fd) :
    ∃ (oc : Value) (od : Option Addr) (dV kV doc pm : Value) (an : Option Addr) (ct : Value) (osl : Array (Option Value)),
    fd = PySem.W.fnOf d.name d.qual d.params d.body d.scope dV kV doc pm an (.ref (He.codeOf K d.at_)) ct ∧ K.lookup (He.fAd K d.at_) = some ⟨oc, od, .func fd, osl⟩ ∧ PySem.W.codeIn K (.ref (He.codeOf K d.at_)) d.qual = true := by
  obtain ⟨oc, od, dV, kV, doc, pm, an, cdv, ct, osl, e, lk, hcd, _, _⟩ := F.ex
  obtain ⟨c, rfl⟩ := He.codeIn_ref hcd
  have hc : He.codeOf K d.at_ = c := He.codeOf_eq lk (by rw [e])
  rw [hc]
  exact ⟨oc, od, dV, kV, doc, pm, an, ct, osl, e, lk, hcd⟩
theorem fnV {d : He.DefD} {fd : FuncData} {N ps : List Str} {k : Nat} {fs : FS} (F : FunD K d.name d.qual d.params d.body d.scope (d.dvs K) (d.kws K) (He.fAd K d.at_) fd) (S : FnScope N ps d.scope)
    (hb : ∀ (A : Around) (outer : List Env) (s : Shared) (H : Hp) (E : XK), Room k (cxN P w K mg base N d.qual d.scope (He.fAd K d.at_) (He.codeOf K d.at_) A outer s H E).A → CSs M (cxN P w K mg base N d.qual d.scope (He.fAd K d.at_) (He.codeOf K d.at_) A outer s H E) d.body fs) :
    FnOk P w K mg base CX0 (k + 1) (He.fAd K d.at_) fd ps (spV (kp P w K M) (fnB ps.length N.length fs)) := by
  obtain ⟨oc, od, dV, kV, doc, pm, an, ct, osl, e, lk, hcd⟩ := fd_code F
  subst e
  refine fn_of lk hcd S (fun vs H Q E h => ?_) fun A outer s H vs Q E hr h => ?_
  · obtain ⟨F0, ds, d, _, r, hg, _⟩ := h
    unfold fnB at hg
    split at hg
    · rename_i hl
      rw [r.length]; exact hl
    · cases hg
  · obtain ⟨F0, ds, d, g, r, hg, kk⟩ := h
    obtain ⟨ts, p, q⟩ := hb A outer s H E hr
    refine ⟨ts, PSs.nox p, ?_⟩
    unfold fnB at hg
    split at hg
    · rename_i hl
      obtain ⟨o, ho, hg⟩ := bsome hg
      have rs := rs_start (N := N) g r
      rw [hl] at rs
      refine q F0 H F0 H (L2.start N vs) _ o _ rs ho ?_
      split at hg
      · cases hg
        exact fun F' H' v g' r' => kk F' H' v g' r'
      · cases hg
        exact fun F' H' σ s' _ => kk F' H' .non ⟨s'.ext, s'.good⟩ .non
      · cases hg
    · cases hg
/-- a def by its global name -/
structure DefV (P : Program) (w : World) (K : PySem.W.Frag) (mg : Str → Option Value) (base : Heap) (M : Wd) (x : Str) (k : Nat) (g : List D → Option D) : Prop where
  ex : ∃ fn fd ps, FnOk P w K mg base CX0 k fn fd ps (spV (kp P w K M) g) ∧ mg x = some (.ref fn) ∧ PySem.W.keepIn K (.ref fn) = true ∧ Binds K fd ps []
end
section
variable {M : Wd} {X : Cx} {e a b : Expr} {es : List Expr} {fs : FA} {g : List D → Option D} {pos p : Pos} {x : Str} {k j : Nat}
theorem ve_cal (V : DefV X.prog X.w X.K X.mg X.base M x k g) (hr : Room j X.A) (hk : k ≤ j) (hg : Gl X x) (ha : VA M X (e :: es) fs) (hdb : (x == ("__debug__" : Str)) = false := by decide) (he : starEach (e :: es) X.env = (false, eval e X.env) :: starEach es X.env := by rfl) (hpl : (backTo pos (starEach es X.env)).any (·.1) = false := by rfl) :
    VE M X (.Call (.Name x p) (e :: es) [] pos) (eCall g fs) := by
  obtain ⟨fn, fd, ps, G, hm, hkp, hb⟩ := V.ex
  exact ve_call G (hr.mono hk) hg hm hkp hb ha hdb he hpl
theorem re_cal (V : DefV X.prog X.w X.K X.mg X.base M x k g) (hr : Room j X.A) (hk : k ≤ j) (hg : Gl X x) (ha : RA M X (e :: es) fs) (hdb : (x == ("__debug__" : Str)) = false := by decide) (he : starEach (e :: es) X.env = (false, eval e X.env) :: starEach es X.env := by rfl) (hpl : (backTo pos (starEach es X.env)).any (·.1) = false := by rfl) :
    RE M X (.Call (.Name x p) (e :: es) [] pos) (eCall g fs) := by
  obtain ⟨fn, fd, ps, G, hm, hkp, hb⟩ := V.ex
  exact re_call G (hr.mono hk) hg hm hkp hb ha hdb he hpl
end
/-! ### classes -/
/-- for another object that is being made -/
abbrev Kx.by (κ : Kx) (o : Option Addr) : Kx := { κ with slf := o }
mutual
theorem Rep.cv {κ κ' : Kx} {T F : Hp} (h : κ.K = κ'.K ∧ κ.P = κ'.P ∧ κ.W = κ'.W ∧ κ.cl = κ'.cl) : ∀ {v : V} {d : D}, Rep κ T F v d → Rep κ' T F v d
  | _, _, .non => .non
  | _, _, .bl b => .bl b
  | _, _, .int i => .int i
  | _, _, .str x e => .str x e
  | _, _, .tup a n z r => .tup (h.1 ▸ a) (h.1 ▸ n) z (Reps.cv h r)
  | _, _, .lst a z r => .lst (h.1 ▸ a) z (Reps.cv h r)
  | _, _, .dic a r => .dic (by rw [← h.2.1, ← h.2.2.1]; exact a) (RepK.cv h r)
  | _, _, .ins a n r => .ins (by rw [← h.2.2.2]; exact a) (by rw [← h.2.2.2]; exact n) (Reps.cv h r)
theorem Reps.cv {κ κ' : Kx} {T F : Hp} (h : κ.K = κ'.K ∧ κ.P = κ'.P ∧ κ.W = κ'.W ∧ κ.cl = κ'.cl) : ∀ {vs : List V} {ds : List D}, Reps κ T F vs ds → Reps κ' T F vs ds
  | _, _, .nil => .nil
  | _, _, .cons r rs => .cons (Rep.cv h r) (Reps.cv h rs)
theorem RepK.cv {κ κ' : Kx} {T F : Hp} (h : κ.K = κ'.K ∧ κ.P = κ'.P ∧ κ.W = κ'.W ∧ κ.cl = κ'.cl) : ∀ {vs : List DRow} {ds : List (D × D)}, RepK κ T F vs ds → RepK κ' T F vs ds
  | _, _, .nil => .nil
  | _, _, .cons k n l r rs => .cons (h.1 ▸ k) (h.1 ▸ n) l (Rep.cv h r) (RepK.cv h rs)
end
/-- an __init__'s promise: the fields that it sets -/
def spI (κ : Kx) (c : Nat) (g : List D → Option (List D)) : Sp := fun vs H Q _ => ∃ x dx ws F ds es, vs = .ref x :: ws ∧ H x = some (.ins (κ.cl.at_ c) dx []) ∧ F x = none ∧ Good κ F H ∧ Reps κ (wo H x) F ws ds ∧ g ds = some es ∧
  ∀ F' H', Go κ F (wo H x) F' H' → F' x = none → (∃ dx vs, H' x = some (.ins (κ.cl.at_ c) dx ((κ.cl.fl c).zip vs)) ∧ vs.length ≤ (κ.cl.fl c).length ∧ Reps κ H' F' vs es) → Q .non H'
section
variable {P : Program} {w : World} {K : PySem.W.Frag} {mg : Str → Option Value} {base : Heap} {M : Wd}
theorem fnVI {d : He.DefD} {fd : FuncData} {N ps : List Str} {p0 : Str} {k c : Nat} {fs : FS} (F : FunD K d.name d.qual d.params d.body d.scope (d.dvs K) (d.kws K) (He.fAd K d.at_) fd) (S : FnScope N (p0 :: ps) d.scope)
    (hb : ∀ (x : Addr) (A : Around) (outer : List Env) (s : Shared) (H : Hp) (E : XK), Room k (cxN P w K mg base N d.qual d.scope (He.fAd K d.at_) (He.codeOf K d.at_) A outer s H E).A → CSs ⟨M.cl, M.tabs, some x, M.lams⟩ (cxN P w K mg base N d.qual d.scope (He.fAd K d.at_) (He.codeOf K d.at_) A outer s H E) d.body fs) :
    FnOk P w K mg base CX0 (k + 1) (He.fAd K d.at_) fd (p0 :: ps) (spI (kp P w K M) c (fnI c ps.length N.length fs)) := by
  obtain ⟨oc, od, dV, kV, doc, pm, an, ct, osl, e, lk, hcd⟩ := fd_code F
  subst e
  refine fn_of lk hcd S (fun vs H Q E h => ?_) fun A outer s H vs Q E hr h => ?_
  · obtain ⟨x, dx, ws, F0, ds, es, rfl, _, _, _, r, hg, _⟩ := h
    unfold fnI at hg
    split at hg
    · rename_i hl
      rw [List.length_cons, List.length_cons, r.length, hl]
    · cases hg
  · obtain ⟨x, dx, ws, F0, ds, es, rfl, hx, hF, g, r, hg, kk⟩ := h
    obtain ⟨ts, p, q⟩ := hb x A outer s H E hr
    refine ⟨ts, PSs.nox p, ?_⟩
    unfold fnI at hg
    split at hg
    · rename_i hl
      obtain ⟨o, ho, hg⟩ := bsome hg
      have g' : Good ((kp P w K M).by (some x)) F0 H := ⟨g.sub, g.tabs⟩
      have rs := rs_startI (κ := (kp P w K M).by (some x)) (N := N) (c := c) g' hx hF rfl (Reps.cv (κ := kp P w K M) (κ' := (kp P w K M).by (some x)) ⟨rfl, rfl, rfl, rfl⟩ r)
      rw [hl] at rs
      refine q F0 (wo H x) F0 H (L2.start N (.ref x :: ws)) _ o _ rs ho ?_
      split at hg
      · rename_i ρ1
        split at hg
        · rename_i c' es' he
          split at hg
          · rename_i hc
            cases hg
            subst hc
            intro F' H' σ s' _
            obtain ⟨a, h1, h2, h3, h4, dx', vs', h5, h6, h7⟩ := s'.ow 0 _ he
            have ha : a = x := (Option.some.inj h4).symm
            subst ha
            exact kk F' H' ⟨⟨s'.ext.f, s'.ext.h, s'.ext.t, s'.ext.tb, s'.ext.new⟩, ⟨s'.good.sub, s'.good.tabs⟩⟩ h3 ⟨dx', vs', h5, h6, Reps.cv (κ := (kp P w K M).by (some a)) (κ' := kp P w K M) ⟨rfl, rfl, rfl, rfl⟩ h7⟩
          · cases hg
        · cases hg
      · cases hg
    · cases hg
end
section
variable {M : Wd} {X : Cx} {e a b : Expr} {es : List Expr} {f : FE} {fs : FA} {g : List D → Option (List D)} {pos p pos' p' : Pos} {x fl : Str} {k j c i : Nat}
/-- self.f = e -/
theorem cs_fld (hx : PE X (.Name x p') (tVar i)) (hv : VE M X e f) (hc : Cls X.K (M.cl.at_ c)) (hn : NoAttr X.K (M.cl.at_ c) fl) (hj : (M.cl.fl c)[j]? = some fl) (hnd : (M.cl.fl c).Nodup) (hl : (M.cl.fl c).length ≤ 1000)
    (hs : swapsWith e (some (.Attribute (.Name x p') fl pos')) pos.line X.env = pure false := by rfl) : CS M X (.Assign [.Attribute (.Name x p') fl pos'] e pos) (sFld i c j f) := by
  obtain ⟨t1, p1, q1⟩ := hv
  refine ⟨_, ps_fld hx p1 hs, fun F0 H0 F H σ ρ o E s h k => ?_⟩
  obtain ⟨d, hd, h⟩ := bsome h
  split at h
  · rename_i c' ds he
    split at h
    · rename_i hlen
      obtain ⟨hcc, hlen⟩ := hlen
      cases h
      subst hcc
      obtain ⟨a, h1, h2, h3, h4, dx, vs, h5, h6, h7⟩ := s.ow i _ he
      refine q1 F0 H0 F H σ ρ d _ s hd fun F1 H1 v g1 r1 => ?_
      have h5' := g1.h _ _ h5 fun z => z
      have hvl : vs.length = j := by rw [h7.length]; exact hlen
      have hjl : j < (M.cl.fl c').length := (List.getElem?_eq_some_iff.mp hj).1
      refine ⟨.ref a, h1, a, M.cl.at_ c', dx, _, rfl, h5', hc, hn, by rw [List.length_zip]; omega, ?_⟩
      have key : ∀ (l : List Str) (ws : List V) (n : Nat), ws.length = n → l[n]? = some fl → l.Nodup → putF fl v (l.zip ws) = l.zip (ws ++ [v]) := by
        intro l
        induction l with
        | nil => intro ws n _ h; simp at h
        | cons y l ih =>
          intro ws n hn h hd
          cases ws with
          | nil =>
            simp only [List.length_nil] at hn
            subst hn
            simp only [List.getElem?_cons_zero, Option.some.injEq] at h
            subst h
            rw [List.zip_nil_right]
            simp [putF]
          | cons w0 ws =>
            simp only [List.length_cons] at hn
            subst hn
            rw [List.getElem?_cons_succ] at h
            have hne : y ≠ fl := fun z => (List.nodup_cons.mp hd).1 (z ▸ List.mem_of_getElem? h)
            rw [List.zip_cons_cons, List.cons_append, List.zip_cons_cons]
            show (if y = fl then _ else _) = _
            rw [if_neg hne, ih ws _ rfl h (List.nodup_cons.mp hd).2]
      rw [key _ vs j hvl hj hnd]
      obtain ⟨s2, l2⟩ := (s.go g1).mut (d' := .ins c' (ds ++ [d])) (o' := .ins (M.cl.at_ c') dx ((M.cl.fl c').zip (vs ++ [v]))) he h1 h5' (fun z => z) (fun z => z) (fun z => z)
          ⟨h4, dx, vs ++ [v], upd_same, by rw [List.length_append]; show vs.length + 1 ≤ (M.cl.fl c').length; omega, ((h7.ext g1.toExt).append (.cons r1 .nil)).put h5' fun z => z⟩
      exact k F1 _ σ s2 (g1.toExt.le.trans l2)
    · cases h
  · cases h
/-- C(..) -/
structure ClsV (P : Program) (w : World) (K : PySem.W.Frag) (mg : Str → Option Value) (base : Heap) (M : Wd) (x : Str) (k c : Nat) (g : List D → Option (List D)) : Prop where
  ex : ∃ fn fd ps, FnOk P w K mg base CX0 k fn fd ps (spI (kp P w K M) c g) ∧ Mk K (M.cl.at_ c) fn ∧ mg x = some (.ref (M.cl.at_ c)) ∧ Binds K fd ps []
theorem ve_make (V : ClsV X.prog X.w X.K X.mg X.base M x k c g) (hr : Room j X.A) (hk : k + 1 ≤ j) (hg : Gl X x) (ha : VA M X (e :: es) fs) (hdb : (x == ("__debug__" : Str)) = false := by decide) (he : starEach (e :: es) X.env = (false, eval e X.env) :: starEach es X.env := by rfl) (hpl : (backTo pos (starEach es X.env)).any (·.1) = false := by rfl) :
    VE M X (.Call (.Name x p) (e :: es) [] pos) (eMake c g fs) := by
  obtain ⟨fn, fd, ps, G, hM, hm, hb⟩ := V.ex
  obtain ⟨ta, pa, qa⟩ := ha
  refine ⟨_, pe_make hM G (hr.mono hk) hg hm hb .nil (E := E0) pass0 pa hdb he hpl, fun F0 H0 F H σ ρ d Q s hf kk => ?_⟩
  obtain ⟨ds, hds, hf⟩ := bsome hf
  obtain ⟨es', hes, hf⟩ := bsome hf
  cases hf
  refine qa F0 H0 F H σ ρ ds _ s hds fun F1 H1 vs g1 r1 => ?_
  intro y dx hy hdx hne
  have hxo : wo (upd (upd H1 dx (.own y)) y (.ins (M.cl.at_ c) dx [])) y = upd H1 dx (.own y) := by
    funext b
    unfold wo
    split
    · rename_i e
      rw [e, upd_ne (Ne.symm hne)]
      exact hy.symm
    · rename_i e
      rw [upd_ne e]
  have g2 : Go (kx X M) F1 H1 F1 (upd H1 dx (.own y)) := g1.good.new hdx fun z => z
  have hy2 : (upd H1 dx (.own y)) y = none := by rw [upd_ne (Ne.symm hne)]; exact hy
  have g3 : Go (kx X M) F1 (upd H1 dx (.own y)) F1 (upd (upd H1 dx (.own y)) y (.ins (M.cl.at_ c) dx [])) := g2.good.new hy2 fun z => z
  refine ⟨y, dx, vs, F1, ds, es', by rw [List.append_nil], upd_same, g1.good.none hy, g3.good, ?_, hes, fun F' H' g4 hF' ⟨dx', vs', h5, h6, h7⟩ => ⟨rfl, ?_⟩⟩
  · rw [hxo]
    exact r1.ext g2.toExt
  · rw [hxo] at g4
    have g5 := g2.trans g1.good g4
    have fm : ∀ b u, F' b = some u → ¬ isTbl u → (upd F' y (.ins (M.cl.at_ c) dx' ((M.cl.fl c).zip vs'))) b = some u := fun b u e _ => by
      rw [upd_ne (ne_of_none e hF')]
      exact e
    refine kk _ H' (.ref y) (Ext.share (g1.trans s.good g5) (g1.toExt.free s.good.tabs hy) hF' h5 fun z => z) ?_
    exact .ins upd_same h6 (h7.mono (Fx.refl _) fm)
end
end Vl
end
section
set_option Elab.async false
set_option linter.all false
set_option maxRecDepth 100000
set_option maxHeartbeats 2000000
/-! rules as a printed derivation takes them -/
namespace Vl
open PySem PySem.Spec PyProof.Rows L2 GxR TupF Dc
def visB (sc : Scope) (x : Str) : Bool := match sc.names.lookup x with
  | some .local => true
  | some .cell => true
  | some .free => true
  | _ => false
def locB (sc : Scope) (x : Str) : Bool := match sc.names.lookup x with
  | some .local => true
  | some .cell => true
  | _ => false
theorem vis_of {sc : Scope} {x : Str} (h : visB sc x = true) : Vis sc x := by
  unfold visB at h
  unfold Vis
  split at h <;> first | (rename_i e; rw [e]; simp; done) | cases h
theorem loc_of {sc : Scope} {x : Str} (h : locB sc x = true) : L2.Loc sc x := by
  unfold locB at h
  unfold L2.Loc
  split at h <;> first | (rename_i e; rw [e]; simp; done) | cases h
section
variable {M : Wd} {X : Cx} {e a b c o tg iter : Expr} {es rest : List Expr} {f fa fb fo : FE} {fs : FA} {t u : FT} {w : FW} {pos p p2 apos cpos pos' : Pos}
theorem pvv (i : Nat) {x : Str} (hN : X.N[i]? = some x := by rfl) (hv : visB X.env.scope x = true := by rfl) (hd : (x == ("__debug__" : Str)) = false := by decide) (hcd : (x == ("__classdict__" : Str)) = false := by decide) : PE X (.Name x pos) (tVar i) := pe_var hN (vis_of hv) hd hcd
theorem v_var (i : Nat) {x : Str} (h : PE X (.Name x pos) (tVar i)) : VE M X (.Name x pos) (eSh i) := ve_var h
theorem PE.orr {ta tb : TE} (ha : PE X e ta) (hb : PE X e tb) : PE X e (fun σ H Q => ta σ H Q ∨ tb σ H Q) := ⟨fun pins s σ H Q I h => by
  rcases h with h | h
  · exact ha.run pins s σ H Q I h
  · exact hb.run pins s σ H Q I h⟩
theorem PI.orr {ta tb : TI} (ha : PI X tg e ta) (hb : PI X tg e tb) : PI X tg e (fun σ H Q => ta σ H Q ∨ tb σ H Q) := ⟨fun pins s σ H Q I h => by
  rcases h with h | h
  · exact ha.run pins s σ H Q I h
  · exact hb.run pins s σ H Q I h⟩
theorem VE.orr {f1 f2 : FE} (h1 : VE M X e f1) (h2 : VE M X e f2) (h : ∀ ρ d, f ρ = some d → f1 ρ = some d ∨ f2 ρ = some d) : VE M X e f := by
  obtain ⟨t1, p1, q1⟩ := h1
  obtain ⟨t2, p2, q2⟩ := h2
  refine ⟨_, PE.orr p1 p2, fun F0 H0 F H σ ρ d Q s hd k => ?_⟩
  rcases h ρ d hd with z | z
  · exact .inl (q1 F0 H0 F H σ ρ d Q s z k)
  · exact .inr (q2 F0 H0 F H σ ρ d Q s z k)
theorem CWs.orr {w1 w2 : FW} (h1 : CWs M X tg e w1) (h2 : CWs M X tg e w2) (h : ∀ ρ d, w ρ = some d → w1 ρ = some d ∨ w2 ρ = some d) : CWs M X tg e w := by
  obtain ⟨t1, p1, q1⟩ := h1
  obtain ⟨t2, p2, q2⟩ := h2
  refine ⟨_, PI.orr p1 p2, fun F0 H0 F H σ ρ d Q s hd k => ?_⟩
  rcases h ρ d hd with z | z
  · exact .inl (q1 F0 H0 F H σ ρ d Q s z k)
  · exact .inr (q2 F0 H0 F H σ ρ d Q s z k)
theorem CWg.orr {w1 w2 : FW} (h1 : CWg M X tg e w1) (h2 : CWg M X tg e w2) (h : ∀ ρ d, w ρ = some d → w1 ρ = some d ∨ w2 ρ = some d) : CWg M X tg e w := by
  obtain ⟨t1, p1, q1⟩ := h1
  obtain ⟨t2, p2, q2⟩ := h2
  refine ⟨_, PI.orr p1 p2, fun F0 H0 F H σ ρ d Q s hd k => ?_⟩
  rcases h ρ d hd with z | z
  · exact .inl (q1 F0 H0 F H σ ρ d Q s z k)
  · exact .inr (q2 F0 H0 F H σ ρ d Q s z k)
/-- a list, a tuple or a text is walked -/
theorem w_s (h : VE M X e f) : CWs M X tg e (wSeq f) := CWs.orr (CWs.orr (cws_lst h) (cws_tup h) (w := fun ρ => (f ρ).bind fun d => match d with
  | .lst xs => some xs
  | .tup xs => some xs
  | _ => none) (fun ρ d hd => by
    obtain ⟨x, hx, hd⟩ := bsome hd
    unfold wLst wTup
    rw [hx]
    split at hd
    · exact .inl hd
    · exact .inr hd
    · cases hd)) (cws_str h) (fun ρ d hd => by
    obtain ⟨x, hx, hd⟩ := bsome hd
    unfold wStr
    rw [hx]
    split at hd
    · exact .inl hd
    · exact .inl hd
    · exact .inr hd
    · cases hd)
theorem w_g (h : VE M X e f) : CWg M X tg e (wSeq f) := (w_s h).g
/-- a name's list, own or shared, while nothing is changed -/
theorem w_gv (i : Nat) {x : Str} {p' : Pos} (h : PE X (.Name x p') (tVar i)) : CWg M X tg (.Name x p') (wVar i) := CWg.orr (cwg_lst (ie_var h)) (CWs.g (w_s (ve_var h))) (fun ρ d hd => by
  unfold wVar at hd
  split at hd
  · rename_i z hz
    cases hd
    refine .inr ?_
    unfold wSeq eSh
    rw [hz]
    rfl
  · rename_i z hz
    cases hd
    refine .inr ?_
    unfold wSeq eSh
    rw [hz]
    rfl
  · rename_i z hz
    cases hd
    refine .inl ?_
    unfold wLst eVar
    rw [hz]
    rfl
  · cases hd)
/-- a[k] -/
theorem v_get (hu : X.A.units + 1 < cLine) (ha : IE M X a fa) (hb : RE M X b fb) (hs : PlainIx b := by intro _ _; rfl) (hs2 : NoSl b := by intro _ _; rfl) : VE M X (.Subscript a b pos) (e2 D.get fa fb) := VE.orr (ve_ix' ha hb hs) (ve_dget hu ha hb hs2) (fun ρ d hd => by
  obtain ⟨x, hx, hd⟩ := bsome hd
  obtain ⟨y, hy, hd⟩ := bsome hd
  unfold e2
  rw [hx, hy]
  unfold D.get at hd
  split at hd
  · exact .inr hd
  · exact .inl hd
  · exact .inl hd
  · exact .inl hd
  · cases hd)
/-- a in b -/
def rHas (X : Cx) (neg : Bool) : R2 := fun x y H Q => (rInV X.K neg x y H Q ∨ rSign neg x y H Q) ∨ rInW X neg x y H Q
theorem op_has (hu : X.A.units + 65 < cLine) : OpR X (compareOp .In) (rHas X false) := ((op_inV hu).or op_signV).or (op_inW (by omega))
theorem op_hasnt (hu : X.A.units + 65 < cLine) : OpR X (compareOp .NotIn) (rHas X true) := ((op_notInV hu).or op_notSignV).or (op_notInW (by omega))
theorem od_has {neg : Bool} : OpD (kx X M) (rHas X neg) (D.has neg) := by
  intro F H x y da db d Q g rx ry hd k
  unfold D.has at hd
  split at hd
  · exact .inr (od_inW F H x y _ _ d Q g rx ry hd k)
  · exact .inl (.inr (od_sign F H x y _ _ d Q g rx ry hd k))
  · exact .inl (.inl (od_in F H x y _ _ d Q g rx ry hd k))
  · exact .inl (.inl (od_in F H x y _ _ d Q g rx ry hd k))
  · cases hd
/-- a.index(b) -/
theorem v_index (hu : X.A.units + 65 < cLine) (ha : RE M X a fa) (hb : RE M X b fb)
    (hbase : attributeBase a "index" X.env (eval a X.env) = eval a X.env := by rfl)
    (hfew : ((backTo cpos (starEach [b] X.env)).all (fun x => !x.1) && (backToKw cpos (keywordEach [] X.env)).all (fun x => x.1.isSome)
      && decide ([b].length + ([] : List Keyword).length + (if ([] : List Keyword).isEmpty then 0 else 1) < 30)) = true := by rfl)
    (hline : (apos.endLine == cpos.line) = true := by rfl) (hs : starEach [b] X.env = (false, eval b X.env) :: starEach [] X.env := by rfl) (hplain : (backTo cpos (starEach [] X.env)).any (·.1) = false := by rfl) :
    VE M X (.Call (.Attribute a "index" apos) [b] [] cpos) (e2 D.index fa fb) := VE.orr (ve_idxL hu ha hb hbase hfew hline hs hplain) (ve_idxT hu ha hb hbase hfew hline hs hplain) (fun ρ d hd => by
  obtain ⟨x, hx, hd⟩ := bsome hd
  obtain ⟨y, hy, hd⟩ := bsome hd
  unfold e2
  rw [hx, hy]
  unfold D.index at hd
  split at hd
  · exact .inl hd
  · exact .inr hd
  · cases hd)
theorem ucall {h : D → Option D} : eCall (u1 h) (aCons f aNil) = e1 h f := by
  funext ρ
  unfold eCall aCons aNil e1 u1
  cases f ρ <;> rfl
theorem v_len (hm : X.mg "len" = none) (ha : RE M X e f) (hg : Gl X "len" := by rfl) (he : starEach [e] X.env = (false, eval e X.env) :: starEach [] X.env := by rfl) (hpl : (backTo pos (starEach [] X.env)).any (·.1) = false := by rfl) : VE M X (.Call (.Name "len" p) [e] [] pos) (e1 D.len f) := by
  rw [← ucall]
  exact ve_blt call_len (cd_len (κ := kx X M)) hg hm boot_len (ra_cons ha ra_nil he) (by decide) (by decide) he hpl
theorem v_int (hm : X.mg "int" = none) (ha : RE M X e f) (hg : Gl X "int" := by rfl) (he : starEach [e] X.env = (false, eval e X.env) :: starEach [] X.env := by rfl) (hpl : (backTo pos (starEach [] X.env)).any (·.1) = false := by rfl) : VE M X (.Call (.Name "int" p) [e] [] pos) (e1 D.toInt f) := by
  rw [← ucall]
  exact ve_blty call_int1 (cd_int (κ := kx X M)) hg hm PyProof.Rows.boot_int (ra_cons ha ra_nil he) (by decide) (by decide) he hpl
theorem v_sum (hc : X.calm = true) (hm : X.mg "sum" = none) (ha : RE M X e f) (hg : Gl X "sum" := by rfl) (he : starEach [e] X.env = (false, eval e X.env) :: starEach [] X.env := by rfl) (hpl : (backTo pos (starEach [] X.env)).any (·.1) = false := by rfl) : VE M X (.Call (.Name "sum" p) [e] [] pos) (e1 D.sum f) := by
  rw [← ucall]
  exact ve_blt (cr_sum hc) (cd_sum (κ := kx X M)) hg hm boot_sum (ra_cons ha ra_nil he) (by decide) (by decide) he hpl
theorem v_tuple (hm : X.mg "tuple" = none) (h : IE M X e f) (hg : Gl X "tuple" := by rfl) (he : starEach [e] X.env = (false, eval e X.env) :: starEach [] X.env := by rfl) (hpl : (backTo pos (starEach [] X.env)).any (·.1) = false := by rfl) : VE M X (.Call (.Name "tuple" p) [e] [] pos) (e1 D.toTup f) := ve_tuple hg hm h he hpl
theorem v_list (hm : X.mg "list" = none) (h : IE M X e f) (hg : Gl X "list" := by rfl) (he : starEach [e] X.env = (false, eval e X.env) :: starEach [] X.env := by rfl) (hpl : (backTo pos (starEach [] X.env)).any (·.1) = false := by rfl) : OE M X (.Call (.Name "list" p) [e] [] pos) (e1 D.toLst f) := oe_list hg hm h he hpl
theorem v_isT {T : String} (hT : T = "tuple" ∨ T = "str" ∨ T = "int") {x : Str} (hm : X.mg "isinstance" = none) (hm2 : X.mg x = none) (hv2 : bootBuiltins x = some (.type T)) (ha : RE M X a fa) (hg : Gl X "isinstance" := by rfl) (hg2 : Gl X x := by rfl) (hn : x ≠ "__name__" := by decide) (hdb : (x == ("__debug__" : Str)) = false := by decide)
    (he : starEach [a, .Name x p2] X.env = (false, eval a X.env) :: starEach [.Name x p2] X.env := by rfl) (he2 : starEach [.Name x p2] X.env = (false, eval (.Name x p2) X.env) :: starEach [] X.env := by rfl) (hpl : (backTo pos (starEach [.Name x p2] X.env)).any (·.1) = false := by rfl) :
    VE M X (.Call (.Name "isinstance" p) [a, .Name x p2] [] pos) (e1 (isT T) fa) := ve_isT hT hg hm hg2 hm2 hv2 ha hn hdb he he2 hpl
theorem w_r1 (hm : X.mg "range" = none) (h : RE M X a f) (hg : Gl X "range" := by rfl) (hs : starEach [a] X.env = (false, eval a X.env) :: starEach [] X.env := by rfl) (hs' : starEach [a] X.env = [(false, eval a X.env)] := by rfl) : CWs M X tg (.Call (.Name "range" p) [a] [] pos) (wRange f) := cws_range1 hg hm h hs hs'
theorem w_r2 (hm : X.mg "range" = none) (ha : RE M X a fa) (hb : RE M X b fb) (hg : Gl X "range" := by rfl) (hs : starEach [a, b] X.env = (false, eval a X.env) :: starEach [b] X.env := by rfl) (hs2 : starEach [b] X.env = (false, eval b X.env) :: starEach [] X.env := by rfl) (hs' : starEach [a, b] X.env = [(false, eval a X.env), (false, eval b X.env)] := by rfl) (hs2' : starEach [b] X.env = [(false, eval b X.env)] := by rfl) : CWs M X tg (.Call (.Name "range" p) [a, b] [] pos) (wRange2 fa fb) := cws_range2 hg hm ha hb hs hs2 hs' hs2'
theorem v_cal {g : List D → Option D} {x : Str} {k j : Nat} (V : DefV X.prog X.w X.K X.mg X.base M x k g) (hr : Room j X.A) (ha : VA M X (e :: es) fs) (hk : k ≤ j := by decide) (hg : Gl X x := by rfl) (hdb : (x == ("__debug__" : Str)) = false := by decide) (he : starEach (e :: es) X.env = (false, eval e X.env) :: starEach es X.env := by rfl) (hpl : (backTo pos (starEach es X.env)).any (·.1) = false := by rfl) :
    VE M X (.Call (.Name x p) (e :: es) [] pos) (eCall g fs) := ve_cal V hr hk hg ha hdb he hpl
theorem v_make {g : List D → Option (List D)} {x : Str} {k j c : Nat} (V : ClsV X.prog X.w X.K X.mg X.base M x k c g) (hr : Room j X.A) (ha : VA M X (e :: es) fs) (hk : k + 1 ≤ j := by decide) (hg : Gl X x := by rfl) (hdb : (x == ("__debug__" : Str)) = false := by decide) (he : starEach (e :: es) X.env = (false, eval e X.env) :: starEach es X.env := by rfl) (hpl : (backTo pos (starEach es X.env)).any (·.1) = false := by rfl) :
    VE M X (.Call (.Name x p) (e :: es) [] pos) (eMake c g fs) := ve_make V hr hk hg ha hdb he hpl
theorem s_set (i : Nat) {x : Str} (hN : X.N.Nodup) (h : VE M X e f) (hi : X.N[i]? = some x := by rfl) (hx : locB X.env.scope x = true := by rfl) (hs : swapsWith e (some (.Name x pos')) pos.line X.env = pure false := by rfl) (hf : X.fn x = true := by rfl) : CS M X (.Assign [.Name x pos'] e pos) (sSet i f) := cs_set (fun he => ps_set hN hi (loc_of hx) he hs (.inl hf)) h
theorem s_own (i : Nat) {x : Str} (hN : X.N.Nodup) (h : OE M X e f) (hi : X.N[i]? = some x := by rfl) (hx : locB X.env.scope x = true := by rfl) (hs : swapsWith e (some (.Name x pos')) pos.line X.env = pure false := by rfl) (hf : X.fn x = true := by rfl) : CS M X (.Assign [.Name x pos'] e pos) (sOwn i f) := cs_own (fun he => ps_set hN hi (loc_of hx) he hs (.inl hf)) h
theorem s_aug (i : Nat) {x : Str} (hN : X.N.Nodup) (h : RE M X e f) (hi : X.N[i]? = some x := by rfl) (hx : locB X.env.scope x = true := by rfl) (hf : X.fn x = true := by rfl) : CS M X (.AugAssign (.Name x pos') .Add e pos) (sAug i f) := cs_aug (fun he => ps_aug hN hi (loc_of hx) he ip_add (.inl hf)) h
theorem g_name (i : Nat) {x : Str} (hN : X.N.Nodup) (hi : X.N[i]? = some x := by rfl) (hx : locB X.env.scope x = true := by rfl) (hf : X.fn x = true ∨ X.env.scope.names.lookup x = some .local := by first | exact .inl rfl | exact .inr rfl) : CG M X (.Name x pos) (gN i) [i] := cg_name (pg_name hN hi (loc_of hx) hf)
theorem g_cons {t : Expr} {ts : List Expr} {g : FG} {gs : List FG} {is js : List Nat} (hg : CG M X t g is) (hs : CGs M X ts gs js) (h2 : (assignEach (t :: ts) X.env).map (·.2) = assign t X.env :: (assignEach ts X.env).map (·.2) := by rfl) : CGs M X (t :: ts) (g :: gs) (is ++ js) := cgs_cons hg hs fun a b => pgs_cons a b h2
theorem s_for {sa : List Stmt} {g : FG} {is : List Nat} {fb : FS} (hp : PassesOwn (model X.prog X.w) X.A X.env X.xe) (hc : X.calm = true) (hw : CWs M X tg iter w) (hg : CG M X tg g is) (hb : CSs M X sa fb) (hs : ∀ x, foldedSetIterable iter X.env x = pure x := by intro _; rfl) : CS M X (.For tg iter sa [] pos) (sFor w g fb) := cs_for hp hc hw hg hb hs
end
theorem room65 {k : Nat} {A : Around} (r : Room k A) : A.units + 65 < cLine := by have := r.un; omega
theorem room64 {k : Nat} {A : Around} (r : Room k A) : A.units + 64 < cLine := by have := r.un; omega
theorem room1 {k : Nat} {A : Around} (r : Room k A) : A.units + 1 < cLine := by have := r.un; omega
theorem room0 {k : Nat} {A : Around} (r : Room k A) : A.units < cLine := by have := r.un; omega
end Vl
end
section
set_option Elab.async false
set_option linter.all false
set_option maxRecDepth 100000
set_option maxHeartbeats 2000000
/-! rules, the rest -/
namespace Vl
open PySem PySem.Spec PyProof.Rows L2 GxR TupF Dc RT
section
variable {M : Wd} {X : Cx} {e a b c o tg iter : Expr} {es rest : List Expr} {f fa fb fo fc fd' : FE} {fs : FA} {t u : FT} {w : FW} {g : FG} {is : List Nat} {pos p p2 pos2 apos cpos pos' : Pos}
theorem v_gint {x : Str} {i : Int} (h : ∃ t, X.mg x = some (.int i t)) (hg : Gl X x := by rfl) (hd : (x == ("__debug__" : Str)) = false := by decide) : VE M X (.Name x pos) (eC (.int i)) := by
  obtain ⟨t, h⟩ := h
  exact ve_glob (v := .int i) hg h ⟨t, rfl⟩ (fun _ _ => .int i) hd
theorem v_gstr {x z : Str} {l : List Nat} (h : ∃ t, X.mg x = some (.str z t)) (hl : z.cps.toList = l) (hg : Gl X x := by rfl) (hd : (x == ("__debug__" : Str)) = false := by decide) : VE M X (.Name x pos) (eC (.str l)) := by
  obtain ⟨t, h⟩ := h
  exact ve_glob (v := .str z) hg h ⟨t, rfl⟩ (fun _ _ => .str z hl) hd
theorem cs_doc {x : Str} {j : Nat} : CS M X (.Expr (.Constant (.str x) j pos) pos') sNext := ⟨_, ps_doc, fun F0 H0 F H σ ρ o E s h k => by cases h; exact k F H σ s (.refl F H)⟩
/-- x = [.. for ..], shared -/
theorem cs_setLc {elt : Expr} {ifs : List Expr} {scope : Scope} {own : List (Str × Nat)} {i : Nat} {y : Str} {fe : FE} {spos : Pos} (hc : X.calm = true) (hN : X.N.Nodup) (hy : X.N[i]? = some y) (hyl : X.env.scope.names.lookup y = some .local)
    (hsw : swapsWith (.ListComp elt [⟨tg, iter, ifs, 0⟩] scope pos) (some (.Name y p)) spos.line X.env = pure true) (hw : CWg M X tg iter w) (ok : BlkOk X.N X.env.scope scope own) (hg : ∀ i, CG M (bx X scope i) tg g is) (ht : ∀ i, CTs M (bx X scope i) ifs t) (he : ∀ i, VE M (bx X scope i) elt fe) (hv : ∀ i ∈ is, i ∈ own.map (·.2))
    (hs : ∀ x, foldedSetIterable iter X.env x = pure x := by intro _; rfl) : CS M X (.Assign [.Name y p] (.ListComp elt [⟨tg, iter, ifs, 0⟩] scope pos) spos) (sSet i (eLc w g t fe (own.map (·.2)))) := by
  obtain ⟨wi, pi, qi⟩ := hw
  obtain ⟨tgt, pg, qg⟩ := uniG (X := bx X scope) (κ := kx X M) (fun _ => rfl) hg
  obtain ⟨tt, pt, qt⟩ := uniT (X := bx X scope) (κ := kx X M) (fun _ => rfl) ht
  obtain ⟨te, pe, qe⟩ := uniV (X := bx X scope) (κ := kx X M) (fun _ => rfl) he
  refine ⟨_, ps_setLc hc hN hy hyl hsw pi ok (fun s H C cl fp => pg ⟨s, H, C, cl, fp⟩) (fun s H C cl fp => pt ⟨s, H, C, cl, fp⟩) (fun s H C cl fp => pe ⟨s, H, C, cl, fp⟩) hs, fun F0 H0 F H σ ρ o E s h k => ?_⟩
  obtain ⟨d, hd, h⟩ := bsome h
  cases h
  refine lc_read qi qg qt qe hv F0 H0 F H σ ρ d _ s hd fun F1 H1 a g1 hH hF o1 => ?_
  obtain ⟨u, hu, nt, r⟩ := o1.share hF
  have g2 := Ext.share g1 hH hF hu nt
  exact k _ H1 _ ((s.go g2).set r) g2.toExt.le
/-- xs[k], xs[l] = v, w -/
theorem cs_put2 {i : Nat} {x : Str} {i1 i2 : Expr} {fk fl fv fw : FE} {p1 p3 tp1 tp2 pt pt2 : Pos} {kt kt2 : Nat} (hc : X.calm = true) (hx : ∀ {p}, PE X (.Name x p) (tVar i)) (hk : RE M X i1 fk) (hl : RE M X i2 fl) (ha : VE M X a fv) (hb : VE M X b fw)
    (ha1 : ∀ v, assign (.Subscript (.Name x p1) i1 tp1) X.env v = (do
      let ov ← holding [v] (eval (.Name x p1) X.env)
      let iv ← holding [v, ov] (eval i1 X.env)
      standAt tp1
      holding [v, ov, iv] (setItem ov iv v)
      release [v, ov, iv] []) := by intro _; rfl)
    (ha2 : ∀ v, assign (.Subscript (.Name x p3) i2 tp2) X.env v = (do
      let ov ← holding [v] (eval (.Name x p3) X.env)
      let iv ← holding [v, ov] (eval i2 X.env)
      standAt tp2
      holding [v, ov, iv] (setItem ov iv v)
      release [v, ov, iv] []) := by intro _; rfl)
    (hs : swapsWithSole [.Tuple [.Subscript (.Name x p1) i1 tp1, .Subscript (.Name x p3) i2 tp2] kt pt] (.Tuple [a, b] kt2 pt2) pos.line X.env = pure false := by rfl)
    (hw : swappedStores [.Tuple [.Subscript (.Name x p1) i1 tp1, .Subscript (.Name x p3) i2 tp2] kt pt] (.Tuple [a, b] kt2 pt2) X.env = pure none := by rfl)
    (h1 : (assignEach [.Tuple [.Subscript (.Name x p1) i1 tp1, .Subscript (.Name x p3) i2 tp2] kt pt] X.env).map (·.2) = [assign (.Tuple [.Subscript (.Name x p1) i1 tp1, .Subscript (.Name x p3) i2 tp2] kt pt) X.env] := by rfl)
    (hs1 : starEach [a, b] X.env = (false, eval a X.env) :: starEach [b] X.env := by rfl) (hs2 : starEach [b] X.env = (false, eval b X.env) :: starEach [] X.env := by rfl)
    (hg1 : (assignEach [.Subscript (.Name x p1) i1 tp1, .Subscript (.Name x p3) i2 tp2] X.env).map (·.2) = assign (.Subscript (.Name x p1) i1 tp1) X.env :: (assignEach [.Subscript (.Name x p3) i2 tp2] X.env).map (·.2) := by rfl)
    (hg2 : (assignEach [.Subscript (.Name x p3) i2 tp2] X.env).map (·.2) = assign (.Subscript (.Name x p3) i2 tp2) X.env :: (assignEach [] X.env).map (·.2) := by rfl)
    (hn : (assignEach [.Subscript (.Name x p1) i1 tp1, .Subscript (.Name x p3) i2 tp2] X.env).length = 2 := by rfl) (hst : (assignEach [.Subscript (.Name x p1) i1 tp1, .Subscript (.Name x p3) i2 tp2] X.env).findIdx? (·.1) = none := by rfl) :
    CS M X (.Assign [.Tuple [.Subscript (.Name x p1) i1 tp1, .Subscript (.Name x p3) i2 tp2] kt pt] (.Tuple [a, b] kt2 pt2) pos) (sPut2 i fk fl fv fw) := by
  obtain ⟨ta, pa, qa⟩ := (va_cons ha (va_cons hb va_nil hs2) hs1 : VA M X [a, b] (aCons fv (aCons fw aNil)))
  obtain ⟨tk, pk, qk⟩ := hk
  obtain ⟨tl, pl, ql⟩ := hl
  refine ⟨_, ps_asg (pe_tupF pa) (pg_tup hc (pgs_cons (pg_sub hx pk set_list ha1) (pgs_cons (pg_sub hx pl set_list ha2) pgs_nil hg2) hg1) hn hst) hs hw h1, fun F0 H0 F H σ ρ o E s h k => ?_⟩
  obtain ⟨d, hd, h⟩ := bsome h
  obtain ⟨d', hd', h⟩ := bsome h
  split at h
  · rename_i ds he
    obtain ⟨e1, he1, h⟩ := bsome h
    split at h
    · rename_i z
      obtain ⟨j, hj, h⟩ := bsome h
      obtain ⟨e2, he2, h⟩ := bsome h
      split at h
      · rename_i z'
        obtain ⟨j', hj', h⟩ := bsome h
        cases h
        obtain ⟨a0, hσ, h2, h3, vs0, h4, h5, h6⟩ := s.ow i _ he
        have haa : (aCons fv (aCons fw aNil)) ρ = some [d, d'] := by
          unfold aCons aNil
          rw [hd, hd']
          rfl
        refine qa F0 H0 F H σ ρ _ _ s haa fun F1 H1 ws g1 r1 => ?_
        have hz : ws.length ≤ sizeLine := by rw [r1.length]; show 2 ≤ sizeLine; decide
        refine ⟨hz, newT_go g1.good hz r1 fun F2 H2 v g2 r2 => ?_⟩
        cases r2 with
        | @tup at0 vs dd h m z0 r =>
          cases r with
          | cons r2 r =>
            rename_i v1 vs1
            cases r with
            | cons r3 r =>
              rename_i v2 vs2
              cases r
              have g12 := g1.trans s.good g2
              have s2 := s.go g12
              refine ⟨at0, _, rfl, h, rfl, v1, [v2], rfl, ?_⟩
              refine ⟨.ref a0, hσ, qk F0 H0 F2 H2 σ ρ _ _ s2 he1 fun F3 H3 y g3 r4 => ?_⟩
              cases r4
              have g13 := g12.trans s.good g3
              have h4' : H3 a0 = some (.lst vs0) := g13.h _ _ h4 fun z => z
              refine ⟨a0, vs0, z, j, rfl, rfl, h4', by rw [← ixN_eq, h6.length]; exact hj, ?_⟩
              have h6' := h6.ext g13.toExt
              have r2' := r2.ext g3.toExt
              obtain ⟨s3, l3⟩ := (s.go g13).mut (d' := .lst (ds.set j d)) (o' := .lst (vs0.set j v1)) he hσ h4' (fun z => z) (fun z => z) (fun z => z)
                ⟨_, upd_same, by rw [List.length_set]; exact h5, (Reps.set j r2' h6').put h4' fun z => z⟩
              have hl : i < ρ.length := (List.getElem?_eq_some_iff.mp he).1
              refine ⟨v2, [], rfl, .ref a0, hσ, ql F0 H0 F3 _ σ _ _ _ s3 he2 fun F4 H4 y g4 r5 => ?_⟩
              cases r5
              have s4 := s3.go g4
              have he' : (ρ.set i (some (S.ow (.lst (ds.set j d)))))[i]? = some (some (S.ow (.lst (ds.set j d)))) := List.getElem?_set_self hl
              have h7 : H4 a0 = some (.lst (vs0.set j v1)) := g4.h _ _ upd_same fun z => z
              have h8 : Reps (kx X M) H4 F4 (vs0.set j v1) (ds.set j d) := ((Reps.set j r2' h6').put h4' fun z => z).ext g4.toExt
              refine ⟨a0, _, z', j', rfl, rfl, h7, by rw [← ixN_eq, List.length_set, h6.length]; exact hj', ?_, ?_⟩
              · rfl
              · obtain ⟨s5, l5⟩ := s4.mut (d' := .lst ((ds.set j d).set j' d')) (o' := .lst ((vs0.set j v1).set j' v2)) he' hσ h7 (fun z => z) (fun z => z) (fun z => z)
                  ⟨_, upd_same, by rw [List.length_set, List.length_set]; exact h5, (Reps.set j' ((((r3.ext g3.toExt).put h4' fun z => z).ext g4.toExt)) h8).put h7 fun z => z⟩
                rw [List.set_set] at s5
                exact k F4 _ σ s5 (((g13.toExt.le.trans l3).trans g4.toExt.le).trans l5)
      · cases h
    · cases h
  · cases h
/-- a def with keyword-only parameters that are not given -/
structure DefVD (P : Program) (w : World) (K : PySem.W.Frag) (mg : Str → Option Value) (base : Heap) (M : Wd) (x : Str) (k : Nat) (g : List D → Option D) (dds : List D) : Prop where
  ex : ∃ fn fd ps ds0 dvs, FnOk P w K mg base CX0 k fn fd ps (spV (kp P w K M) g) ∧ mg x = some (.ref fn) ∧ PySem.W.keepIn K (.ref fn) = true ∧ Binds K fd ps ds0 ∧ Vals dvs ds0 ∧ ∀ T F, Reps (kp P w K M) T F dvs dds
theorem DefVD.of_kw {P : Program} {w : World} {K : PySem.W.Frag} {mg : Str → Option Value} {base : Heap} {x : Str} {k : Nat} {g : List D → Option D} {dds : List D} {x0 qual : Str} {params : Arguments} {body : List Stmt} {scope : Scope} {dvs : List V} {kws : List (Str × V)} {fn : Addr} {fd : FuncData} {ps : List Str}
    (F : FunD K x0 qual params body scope dvs kws fn fd) (G : FnOk P w K mg base CX0 k fn fd ps (spV (kp P w K M) g)) (hm : mg x = some (.ref fn)) (n : Nat) (hd : dvs = []) (hk : kws ≠ []) (hn : n + kws.length = ps.length) (rd : ∀ T F, Reps (kp P w K M) T F (kws.map (·.2)) dds)
    (h : ∀ (D : Addr) (doc pm : Value) (an : Option Addr) (cdv ct : Value) (us ks : List Value), us.length = n → ks.length = kws.length →
      KwChain D ((kws.map (·.1)).zip ks) (bindArgs (PySem.W.fnOf x0 qual params body scope .none (.ref D) doc pm an cdv ct) ⟨us, []⟩) (ps.zip (us ++ ks))) : DefVD P w K mg base M x k g dds := by
  subst hd
  obtain ⟨ds, hv, hb⟩ := F.binds0 n hk hn h
  exact ⟨⟨_, fd, ps, ds, _, G, hm, F.kp, hb, hv, rd⟩⟩
theorem v_calD {g : List D → Option D} {dds : List D} {x : Str} {k j : Nat} (V : DefVD X.prog X.w X.K X.mg X.base M x k g dds) (hr : Room j X.A) (ha : VA M X (e :: es) fs) (hk : k ≤ j := by decide) (hg : Gl X x := by rfl) (hdb : (x == ("__debug__" : Str)) = false := by decide) (he : starEach (e :: es) X.env = (false, eval e X.env) :: starEach es X.env := by rfl) (hpl : (backTo pos (starEach es X.env)).any (·.1) = false := by rfl) :
    VE M X (.Call (.Name x p) (e :: es) [] pos) (eCall (fun ds => g (ds ++ dds)) fs) := by
  obtain ⟨fn, fd, ps, ds0, dvs, G, hm, hkp, hb, hv, rd⟩ := V.ex
  exact ve_callD G (hr.mono hk) hg hm hkp hb hv rd ha hdb he hpl
end
theorem keyI_eq {d : D} {k : List Int} (h : keyI d = some k) : d = tupI k := by
  unfold keyI at h
  split at h
  · rw [ints_some h]; rfl
  · cases h
theorem keysI_eq : ∀ {ds : List D} {ks : List (List Int)}, keysI ds = some ks → ds = ks.map tupI
  | [], _, h => by cases h; rfl
  | d :: ds, _, h => by
    obtain ⟨k, h1, h⟩ := bsome (show (keyI d).bind _ = some _ from h)
    obtain ⟨ks, h2, h⟩ := bsome h
    cases h
    rw [keyI_eq h1, keysI_eq h2]
    rfl
theorem leL_refl : ∀ a, leL a a = true
  | [] => rfl
  | a :: as => by unfold leL; simp [leL_refl as]
theorem leL_total : ∀ a b, (leL a b || leL b a) = true
  | [], _ => by simp [leL]
  | _ :: _, [] => by simp [leL]
  | a :: as, b :: bs => by
    have h := leL_total as bs
    simp only [Bool.or_eq_true] at h
    simp only [leL, Bool.or_eq_true, Bool.and_eq_true, decide_eq_true_eq]
    rcases Int.lt_trichotomy a b with z | z | z
    · exact .inl (.inl z)
    · subst z
      rcases h with h | h
      · exact .inl (.inr ⟨rfl, h⟩)
      · exact .inr (.inr ⟨rfl, h⟩)
    · exact .inr (.inl z)
theorem leL_trans : ∀ a b c, leL a b = true → leL b c = true → leL a c = true
  | [], _, _, _, _ => rfl
  | _ :: _, [], _, h, _ => by cases h
  | _ :: _, _ :: _, [], _, h => by cases h
  | a :: as, b :: bs, c :: cs, h, h' => by
    simp only [leL, Bool.or_eq_true, Bool.and_eq_true, decide_eq_true_eq] at h h' ⊢
    rcases h with h | ⟨h, h2⟩
    · rcases h' with h' | ⟨h', _⟩
      · exact .inl (by omega)
      · exact .inl (by omega)
    · rcases h' with h' | ⟨h', h3⟩
      · exact .inl (by omega)
      · exact .inr ⟨by omega, leL_trans as bs cs h2 h3⟩
theorem leL_antisymm : ∀ a b, leL a b = true → leL b a = true → a = b
  | [], [], _, _ => rfl
  | [], _ :: _, _, h => by cases h
  | _ :: _, [], h, _ => by cases h
  | a :: as, b :: bs, h, h' => by
    simp only [leL, Bool.or_eq_true, Bool.and_eq_true, decide_eq_true_eq] at h h'
    rcases h with h | ⟨h, h2⟩
    · rcases h' with h' | ⟨h', _⟩ <;> omega
    · rcases h' with h' | ⟨h', h3⟩
      · omega
      · rw [h, leL_antisymm as bs h2 h3]
theorem leL_code {B : Int} : ∀ {a b : List Int}, a.length = b.length → TS.Bd B a → TS.Bd B b → TS.code B a ≤ TS.code B b → leL a b = true
  | [], _, _, _, _, _ => rfl
  | _ :: _, [], h, _, _, _ => by cases h
  | a :: as, b :: bs, hl, h1, h2, hc => by
    simp only [leL, Bool.or_eq_true, Bool.and_eq_true, decide_eq_true_eq]
    have hl' : as.length = bs.length := Nat.succ.inj hl
    rcases Int.lt_trichotomy a b with z | z | z
    · exact .inl z
    · subst z
      refine .inr ⟨rfl, leL_code hl' (TS.Bd.tail h1) (TS.Bd.tail h2) ?_⟩
      have q : TS.code B (a :: bs) < TS.code B (a :: as) ↔ TS.code B bs < TS.code B as := TS.code_same hl'.symm
      apply Int.not_lt.mp
      intro y
      exact absurd (q.mpr y) (Int.not_lt.mpr hc)
    · exact absurd (TS.code_lt hl'.symm (TS.Bd.tail h2) (TS.Bd.tail h1) z) (Int.not_lt.mpr hc)
section
variable {κ : Kx} {T F : Hp}
theorem Reps.perm {ys vs : List V} {ds : List D} (h : ys.Perm vs) (r : Reps κ T F vs ds) : ∃ es, es.Perm ds ∧ Reps κ T F ys es := by
  induction h generalizing ds with
  | nil => exact ⟨ds, .refl _, r⟩
  | cons x _ ih =>
    cases r with
    | cons r1 rs =>
      obtain ⟨es, p, q⟩ := ih rs
      exact ⟨_ :: es, p.cons _, .cons r1 q⟩
  | swap x y l =>
    cases r with
    | cons r1 rs =>
      cases rs with
      | cons r2 rs => exact ⟨_ :: _ :: _, .swap _ _ _, .cons r2 (.cons r1 rs)⟩
  | trans _ _ ih1 ih2 =>
    obtain ⟨es, p, q⟩ := ih2 r
    obtain ⟨es', p', q'⟩ := ih1 q
    exact ⟨es', p'.trans p, q'⟩
theorem rep_tupI {v : V} {k : List Int} (r : Rep κ T F v (tupI k)) : TupI κ.K T v k := by
  cases r with
  | tup h n z r =>
    have e := reps_ints r
    subst e
    exact ⟨_, rfl, h⟩
theorem perm_tupI : ∀ {es : List D} {ks : List (List Int)}, es.Perm (ks.map tupI) → ∃ js : List (List Int), js.Perm ks ∧ es = js.map tupI := by
  intro es ks h
  have inj : ∀ d : D, (∃ k, d = tupI k) → ∃ k, keyI d = some k := by
    rintro d ⟨k, rfl⟩
    refine ⟨k, ?_⟩
    unfold keyI tupI
    have : ∀ k : List Int, getI (k.map .int) = some k := by
      intro k
      induction k with
      | nil => rfl
      | cons a k ih => simp only [List.map_cons, getI, ih, Option.map_some]
    exact this k
  have all : ∀ d ∈ es, ∃ k, d = tupI k := fun d hd => by
    obtain ⟨k, _, e⟩ := List.mem_map.mp (h.mem_iff.mp hd)
    exact ⟨k, e.symm⟩
  have key : ∀ k, (keyI (tupI k)).getD [] = k := fun k => by
    unfold keyI tupI
    have : ∀ k : List Int, getI (k.map .int) = some k := by
      intro k
      induction k with
      | nil => rfl
      | cons a k ih => simp only [List.map_cons, getI, ih, Option.map_some]
    show (getI (k.map .int)).getD [] = k
    rw [this]
    rfl
  refine ⟨es.map fun d => (keyI d).getD [], ?_, ?_⟩
  · have h2 := h.map fun d => (keyI d).getD []
    rw [List.map_map] at h2
    have e : (ks.map ((fun d => (keyI d).getD []) ∘ tupI)) = ks := by
      rw [show ((fun d => (keyI d).getD []) ∘ tupI) = id from funext key, List.map_id]
    rw [e] at h2
    exact h2
  · rw [List.map_map]
    have : ∀ l : List D, (∀ d ∈ l, ∃ k, d = tupI k) → l = l.map (tupI ∘ fun d => (keyI d).getD []) := by
      intro l
      induction l with
      | nil => intro _; rfl
      | cons d l ih =>
        intro hd
        obtain ⟨k, e⟩ := hd d List.mem_cons_self
        rw [List.map_cons, ← ih fun x hx => hd x (List.mem_cons_of_mem _ hx)]
        subst e
        show _ = tupI ((keyI (tupI k)).getD []) :: l
        rw [key]
    exact this es all
end
theorem PE.exi {ι : Type} {X : Cx} {e : Expr} {C : ι → Prop} {te : ι → TE} (h : ∀ i, C i → PE X e (te i)) : PE X e (fun σ H Q => ∃ i, C i ∧ te i σ H Q) := ⟨fun pins s σ H Q I ⟨i, c, w⟩ => (h i c).run pins s σ H Q I w⟩
theorem max_bound : ∀ ks : List (List Int), (∀ k ∈ ks, ∀ z ∈ k, 0 ≤ z) → ∃ B : Int, ∀ k ∈ ks, TS.Bd B k := by
  have one : ∀ k : List Int, (∀ z ∈ k, 0 ≤ z) → ∃ B : Int, TS.Bd B k := by
    intro k
    induction k with
    | nil => intro _; exact ⟨0, fun m hm => nomatch hm⟩
    | cons a k ih =>
      intro h
      obtain ⟨B, hB⟩ := ih fun z hz => h z (List.mem_cons_of_mem _ hz)
      refine ⟨max B (a + 1), fun m hm => ?_⟩
      rcases List.mem_cons.mp hm with e | hm
      · subst e; exact ⟨h m List.mem_cons_self, by omega⟩
      · have := hB m hm
        omega
  intro ks
  induction ks with
  | nil => intro _; exact ⟨0, fun k hk => nomatch hk⟩
  | cons k ks ih =>
    intro h
    obtain ⟨B, hB⟩ := ih fun k hk => h k (List.mem_cons_of_mem _ hk)
    obtain ⟨B', hB'⟩ := one k (h k List.mem_cons_self)
    refine ⟨max B B', fun j hj m hm => ?_⟩
    rcases List.mem_cons.mp hj with e | hj
    · subst e
      have := hB' m hm
      omega
    · have := hB j hj m hm
      omega
section
variable {M : Wd} {X : Cx} {e : Expr} {f : FE} {pos p : Pos}
theorem v_sorted (hg : Gl X "sorted") (hu : X.A.units + 64 < cLine) (hm : X.mg "sorted" = none) (h : IE M X e f) (he : starEach [e] X.env = (false, eval e X.env) :: starEach [] X.env := by rfl) (hpl : (backTo pos (starEach [] X.env)).any (·.1) = false := by rfl) : OE M X (.Call (.Name "sorted" p) [e] [] pos) (e1 D.sortT f) := by
  obtain ⟨te, pe, qe⟩ := h
  refine ⟨_, PE.exi (C := fun i : Nat × Int => 1 ≤ i.1) (te := fun i => tCB (rSortU X.K i.1 i.2) (tCons te tNil)) fun i hi => pe_callB (cr_sortT hi) hg hm boot_sorted (pa_cons pe pa_nil he) (by decide) (by decide) he hpl, fun F0 H0 F H σ ρ d Q s hf k => ?_⟩
  obtain ⟨da, hda, hf⟩ := bsome hf
  unfold D.sortT at hf
  split at hf
  · rename_i ds
    obtain ⟨ks, hks, hf⟩ := bsome hf
    split at hf
    · rename_i ok
      cases hf
      unfold sOk at ok
      simp only [Bool.and_eq_true, decide_eq_true_eq, List.all_eq_true] at ok
      obtain ⟨h64, ok⟩ := ok
      have e0 := keysI_eq hks
      subst e0
      obtain ⟨B, hB⟩ := max_bound ks fun k hk z hz => (ok k hk).2 z hz
      have hd1 : 1 ≤ (ks.headD [0]).length := by
        cases ks with
        | nil => decide
        | cons k0 ks => exact (ok k0 List.mem_cons_self).1.1
      refine ⟨⟨(ks.headD [0]).length, B⟩, hd1, ?_⟩
      refine qe F0 H0 F H σ ρ _ _ s hda fun F1 H1 v g1 r1 => ?_
      obtain ⟨a, vs, rfl, h, z, r⟩ := r1.lst g1.good.sub
      have hlen : vs.length = ks.length := by rw [r.length, List.length_map]
      refine ⟨a, vs, rfl, h, by rw [hlen]; exact h64, fun x hx => ?_, fun ys q hp hs hq => ?_⟩
      · obtain ⟨j, hj⟩ := List.mem_iff_getElem?.mp hx
        obtain ⟨d', hd', rd⟩ := r.get' hj
        rw [List.getElem?_map] at hd'
        obtain ⟨k0, hk0, e1⟩ := Option.map_eq_some_iff.mp hd'
        subst e1
        have hm0 := List.mem_of_getElem? hk0
        exact ⟨k0, rep_tupI rd, (ok k0 hm0).1.2, hB k0 hm0⟩
      · obtain ⟨es, pe1, re1⟩ := Reps.perm hp r
        obtain ⟨js, pj, rfl⟩ := perm_tupI pe1
        have hsj : js.Pairwise fun x y => leL x y = true := by
          have aux : ∀ (ys : List V) (js : List (List Int)), Reps (kx X M) H1 F1 ys (js.map tupI) → (∀ j ∈ js, j ∈ ks) → ys.Pairwise (fun x y => ∀ n m, TupI X.K H1 x n → TupI X.K H1 y m → TS.code B n ≤ TS.code B m) → js.Pairwise fun x y => leL x y = true := by
            intro ys
            induction ys with
            | nil =>
              intro js r _ _
              cases js with
              | nil => exact .nil
              | cons j js => cases r
            | cons y ys ih =>
              intro js r hj hp
              cases js with
              | nil => exact .nil
              | cons j js =>
                cases r with
                | cons r1 rs =>
                  rw [List.pairwise_cons] at hp ⊢
                  refine ⟨fun j' hj' => ?_, ih js rs (fun x hx => hj x (List.mem_cons_of_mem _ hx)) hp.2⟩
                  obtain ⟨n, hn⟩ := List.mem_iff_getElem?.mp hj'
                  obtain ⟨v', hv', rv'⟩ := rs.get (i := n) (d := tupI j') (by rw [List.getElem?_map, hn]; rfl)
                  have m1 := hj j List.mem_cons_self
                  have m2 := hj j' (List.mem_cons_of_mem _ hj')
                  exact leL_code ((ok j m1).1.2.trans (ok j' m2).1.2.symm) (hB j m1) (hB j' m2) (hp.1 v' (List.mem_of_getElem? hv') j j' (rep_tupI r1) (rep_tupI rv'))
          exact aux ys js re1 (fun j hj => pj.mem_iff.mp hj) hs
        have e2 : js = ks.mergeSort leL := List.Perm.eq_of_pairwise (le := fun x y => leL x y = true) (fun x y _ _ h1 h2 => leL_antisymm x y h1 h2) hsj (List.pairwise_mergeSort leL_trans leL_total ks) (pj.trans (List.mergeSort_perm ks leL).symm)
        subst e2
        have hlen2 : ys.length ≤ sizeLine := by rw [hp.length_eq]; exact z
        exact k F1 _ q (g1.trans s.good (g1.good.new hq fun z => z)) (g1.toExt.free s.good.tabs hq) (g1.good.none hq) ⟨ys, upd_same, hlen2, re1.new hq⟩
    · cases hf
  · cases hf
end
section
variable {M : Wd} {X : Cx} {e : Expr} {es : List Expr} {f : FE} {fs : FA} {pos p p2 pos2 : Pos}
def tListRev (K : PySem.W.Frag) (te : TE) : TE := fun σ H Q => te σ H fun v H1 => ∃ (a : Addr) (xs : List V), v = .ref a ∧ SqT K H1 a xs ∧ ∀ l, H1 l = none → Q (.ref l) (upd H1 l (.lst xs.reverse))
theorem pe_listRev {te : TE} (hc : X.calm = true) (hg : Gl X "list") (hm : X.mg "list" = none) (hg2 : Gl X "reversed") (hm2 : X.mg "reversed" = none) (he : PE X e te)
    (hs : starEach [e] X.env = (false, eval e X.env) :: starEach [] X.env := by rfl)
    (hs2 : starEach [.Call (.Name "reversed" p2) [e] [] pos2] X.env = (false, eval (.Call (.Name "reversed" p2) [e] [] pos2) X.env) :: starEach [] X.env := by rfl) :
    PE X (.Call (.Name "list" p) [.Call (.Name "reversed" p2) [e] [] pos2] [] pos) (tListRev X.K te) := by
  refine ⟨fun pins s σ H Q I h => ?_⟩
  refine Call_ (ld_blt I hg hm boot_list (PyProof.Rows.callWith_type1 (args_cons (Call_ (ld_blt I hg2 hm2 PyProof.Rows.boot_reversed (PyProof.Rows.callWith_type1 (args_cons (thn (he.run pins s σ H _ I h) fun u s1 ⟨v, H1, I1, r1, q1⟩ => args_nil ?_) hs) hs rfl))) hs2) hs2 rfl))
  obtain ⟨a, xs, ev, hq, q⟩ := q1
  subst ev
  obtain rfl : u = Value.ref a := r1
  obtain ⟨its, rv, p', hz⟩ := I1.tuple hq
  have hn : its.toArray.size ≤ sizeLine := by rw [List.size_toArray, ← rv.length]; exact hz
  refine RT.call_reversed_tup p' (fun A E Q k => len_tuple p' (by rw [sizeLine_eq] at hn; omega) k) (args_nil ?_)
  have k0 : ∀ b o, s1.heap.get? b = some o → (s1.heap.push (RT.rtObj a ((its.toArray.size : Int) - 1))).get? b = some o := fun b o e => Heap.get?_push_of_some _ e
  have I2 : Inv X pins σ H1 { s1 with heap := s1.heap.push (RT.rtObj a ((its.toArray.size : Int) - 1)), toks := s1.toks + 1 + 1 } := I1.kept (t' := s1.toks + 1 + 1) k0
  obtain ⟨f0, f1, f2, f3, f4, f5⟩ := I1.fpOk (H' := H1) (b := s1.heap.objs.size) (Nat.le_refl _) (I1.hok.fresh (Nat.le_refl _))
  obtain ⟨ol, hol, hol2⟩ := id p'
  have hne : a ≠ s1.heap.objs.size := Nat.ne_of_lt (Heap.lt_size hol)
  refine Lr.call_list_rt (s := { s1 with heap := s1.heap.push (RT.rtObj a ((its.toArray.size : Int) - 1)), toks := s1.toks + 1 + 1 }) (I1.ok.hd hc) hne ⟨_, Heap.get?_push_size _ rfl, rfl, rfl⟩ ⟨ol, k0 _ _ hol, hol2⟩ hn fun h' tk acc c' hk hl hi => ?_
  have hsz : (s1.heap.push (RT.rtObj a ((its.toArray.size : Int) - 1))).objs.size = s1.heap.objs.size + 1 := Heap.size_push ..
  have hv : Vals xs.reverse acc.toList := vals_rev rv hi
  have hSn : H1 (s1.heap.objs.size + 1) = none := I1.hok.fresh (Nat.le_succ _)
  have hla : h'.get? (s1.heap.objs.size + 1) = some { cls := .type "list", dict := none, data := .seq acc c', slots := #[] } := by
    rw [← hsz]; exact hl
  have I4 : Inv X pins σ (upd H1 (s1.heap.objs.size + 1) (.lst xs.reverse)) { s1 with heap := (s1.heap.push (RT.rtObj a ((its.toArray.size : Int) - 1))).push { cls := .type "list", dict := none, data := .seq acc c', slots := #[] }, toks := s1.toks + 1 + 1 } := by
    have z := I2.laid (a := s1.heap.objs.size + 1) (o := .lst xs.reverse) (h' := (s1.heap.push (RT.rtObj a ((its.toArray.size : Int) - 1))).push { cls := .type "list", dict := none, data := .seq acc c', slots := #[] }) (t' := s1.toks + 1 + 1) (fun b u e => Heap.get?_push_of_some _ e) (Nat.le_of_eq hsz)
      ⟨by rw [List.length_reverse]; exact hz, acc.toList, c', hv, by rw [← hsz]; have := Heap.get?_push_size (s1.heap.push (RT.rtObj a ((its.toArray.size : Int) - 1))) (o := { cls := .type "list", dict := none, data := .seq acc c', slots := #[] }) rfl; simpa using this⟩
    exact z
  have I5 : Inv X pins σ (upd H1 (s1.heap.objs.size + 1) (.lst xs.reverse)) { s1 with heap := h', toks := tk } := I4.turned (t' := tk) (fun b o hb e => by
    by_cases hbS : b = s1.heap.objs.size + 1
    · subst hbS
      have q := Heap.get?_push_size (s1.heap.push (RT.rtObj a ((its.toArray.size : Int) - 1))) (o := { cls := .type "list", dict := none, data := .seq acc c', slots := #[] }) rfl
      rw [hsz] at q
      have e' : ((s1.heap.push (RT.rtObj a ((its.toArray.size : Int) - 1))).push { cls := .type "list", dict := none, data := .seq acc c', slots := #[] }).get? (s1.heap.objs.size + 1) = some o := e
      rw [q] at e'
      cases e'
      exact hla
    · refine hk b o hb ?_
      have e' : ((s1.heap.push (RT.rtObj a ((its.toArray.size : Int) - 1))).push { cls := .type "list", dict := none, data := .seq acc c', slots := #[] }).get? b = some o := e
      rw [Heap.get?_push_ne _ _ _ (by rw [hsz]; exact hbS)] at e'
      exact e') (by rw [upd_ne (Nat.ne_of_lt (Nat.lt_succ_self _))]; exact f0) f1 f3 f4 f5
  refine ⟨.ref (s1.heap.objs.size + 1), _, I5, ?_, q _ hSn⟩
  show Value.ref (s1.heap.push (RT.rtObj a ((its.toArray.size : Int) - 1))).objs.size = _
  rw [hsz]
theorem oe_listRev (hc : X.calm = true) (hg : Gl X "list") (hm : X.mg "list" = none) (hg2 : Gl X "reversed") (hm2 : X.mg "reversed" = none) (h : IE M X e f)
    (hs : starEach [e] X.env = (false, eval e X.env) :: starEach [] X.env := by rfl)
    (hs2 : starEach [.Call (.Name "reversed" p2) [e] [] pos2] X.env = (false, eval (.Call (.Name "reversed" p2) [e] [] pos2) X.env) :: starEach [] X.env := by rfl) : OE M X (.Call (.Name "list" p) [.Call (.Name "reversed" p2) [e] [] pos2] [] pos) (e1 D.revLst f) := by
  obtain ⟨te, pe, qe⟩ := h
  refine ⟨_, pe_listRev hc hg hm hg2 hm2 pe hs hs2, fun F0 H0 F H σ ρ d Q s hf k => ?_⟩
  obtain ⟨da, hda, hf⟩ := bsome hf
  refine qe F0 H0 F H σ ρ da _ s hda fun F1 H1 v g1 r1 => ?_
  unfold D.revLst at hf
  split at hf
  · cases hf
    obtain ⟨a, vs, rfl, h, n, z, r⟩ := r1.tup
    refine ⟨a, vs, rfl, h, fun l hl => ?_⟩
    exact k F1 _ l (g1.trans s.good (g1.good.new hl fun z => z)) (g1.toExt.free s.good.tabs hl) (g1.good.none hl) ⟨_, upd_same, by rw [List.length_reverse]; exact z, r.reverse.new hl⟩
  · cases hf
end
end Vl
end
section
set_option Elab.async false
set_option linter.all false
set_option maxRecDepth 100000
set_option maxHeartbeats 2000000
/-! sorted(xs, key=lambda one: (len(one), one)) -/
namespace Vl
open PySem PySem.Spec PyProof.Rows L2 GxR TupF Dc
/-! ### the order -/
def keyD (k : List Int) : PyData := .tuple [.int (k.length : Int), .tuple (k.map .int)]
theorem leL_lt : ∀ (p q : List Int), leL p q = !decide (q < p)
  | [], q => by simp [leL, List.not_lt_nil]
  | _ :: _, [] => by simp [leL]
  | a :: p, b :: q => by
    simp only [leL, leL_lt p q, List.cons_lt_cons_iff]
    by_cases h1 : a < b
    · have h2 : ¬ b < a := by omega
      have h3 : ¬ b = a := by omega
      simp [h1, h2, h3]
    · by_cases h4 : a = b
      · subst h4
        simp
      · have h5 : b < a := by omega
        simp [h1, h4, h5]
theorem eqv_ints' : ∀ (p q : List Int), PyData.eqv (.tuple (p.map .int)) (.tuple (q.map .int)) = true → p = q
  | [], [], _ => rfl
  | [], _ :: _, h => by simp [PyData.eqv, PyData.eqvAll] at h
  | _ :: _, [], h => by simp [PyData.eqv, PyData.eqvAll] at h
  | a :: p, b :: q, h => by
    simp only [List.map_cons, PyData.eqv, PyData.eqvAll, Bool.and_eq_true, beq_iff_eq] at h
    have := eqv_ints' p q (by simpa [PyData.eqv] using h.2)
    rw [h.1, this]
theorem dataLe_keyD : PySem.W.dataLe false keyD = leK := by
  funext p q
  show (!PySem.W.dataLt (keyD q) (keyD p)) = leK p q
  unfold keyD
  rw [PySem.W.dataLt_pair (by simp [PySem.W.alike]) (by simp only [PySem.W.alike]; exact PySem.W.alike_ints _ _), PySem.W.dataLt_int, PySem.W.dataLt_tuple]
  have hr := PySem.W.dataLt_ints q p
  unfold PySem.W.rowLt at hr
  rw [hr]
  unfold leK
  rw [leL_lt]
  by_cases h1 : q.length = p.length
  · rw [if_pos (by simp [PyData.eqv, h1])]
    have h2 : ¬ p.length < q.length := by omega
    have h3 : p.length = q.length := h1.symm
    rw [decide_eq_false h2, decide_eq_true h3, Bool.false_or, Bool.true_and]
    by_cases h4 : PyData.eqv (.tuple (q.map .int)) (.tuple (p.map .int)) = true
    · rw [if_pos h4]
      have := eqv_ints' q p h4
      subst this
      simp [List.lt_irrefl]
    · rw [if_neg h4]
  · rw [if_neg (by simp [PyData.eqv]; omega)]
    by_cases h2 : p.length < q.length
    · rw [decide_eq_true h2, decide_eq_false (by omega)]; rfl
    · rw [decide_eq_false h2, decide_eq_true (show (q.length : Int) < p.length by omega), decide_eq_false (show ¬ p.length = q.length by omega)]; rfl
/-! ### the lambda called -/
section
variable {prog : Program} {w : World} {A : Around} {s : Shared}
theorem readsAll_ints {h : Heap} : ∀ {its : List Value} {k : List Int}, Vals (k.map V.int) its → ReadsAll h its (k.map .int) []
  | its, [], r => by
    cases r
    exact .nil
  | its, z :: k, r => by
    have r' : Vals (V.int z :: k.map V.int) its := r
    cases r' with
    | cons r1 r2 =>
      obtain ⟨t, rfl⟩ := r1
      have := ReadsAll.cons (Reads.int (h := h) z t) (readsAll_ints (h := h) r2)
      simpa using this
/-- key=lambda x: (len(x), x), called with a tuple of ints -/
theorem lam_turn {qual x : Str} {params : Arguments} {scope : Scope} {pm ctv : Value} {f c' b Pl : Addr} {k : List Int} {its : List Value} {cl : List (Str × Addr)} {mg mb : Str → Option Value} {p1 p2 p3 p4 p5 : Pos} {n : Nat}
    (hroom : A.depth < recursionLimit) (hu : A.units + 100 < cLine)
    (hf : s.heap.get? f = some (PySem.W.kla_obj "<lambda>" qual params (.Tuple [.Call (.Name "len" p1) [.Name x p2] [] p3, .Name x p4] n p5) scope cl pm c' ctv)) (hc : s.heap.CodeRec (.ref c') qual)
    (hbind : ∀ v, bindArgs (PySem.W.kla_fn "<lambda>" qual params (.Tuple [.Call (.Name "len" p1) [.Name x p2] [] p3, .Name x p4] n p5) scope cl pm (.ref c') ctv) ⟨[v], []⟩ = pure [(x, v)])
    (hkind : scope.kind = .function) (hco : scope.isCoroutine = false) (hgen : scope.isGenerator = false) (hcell : ∀ y ∈ scope.names, y.2 ≠ .cell) (hx : scope.names.lookup x = some .local) (hlen : scope.names.lookup ("len" : Str) = some .globalImplicit) (hxd : (x == ("__debug__" : Str)) = false)
    (hg : s.heap.Ns mainGlobals mg) (hml : mg ("len" : Str) = none) (hb : s.heap.Ns builtinsNs mb) (hmb : mb ("len" : Str) = some (.builtin "len")) (hl : s.heap.NoLimit)
    (ht : IsTup s.heap b its.toArray) (hv : Vals (k.map V.int) its) (hz : its.length ≤ sizeLine) :
    wpAny (model prog w) A (call (.ref f) [.ref b]) (PySem.W.KeyPure (keyD k) s) (fun _ _ => False) s := by
  have rc : codeAny (model prog w) A (.call (.ref f) ⟨[.ref b], []⟩) (fun r s' => match r with | .ok (.ret v) => PySem.W.KeyPure (keyD k) s v s' | .ok _ => False | .error e => False) s := by
    refine PySem.W.kla_callFunE hroom hf rfl hco hgen rfl hc ?_
    rw [hbind]
    refine wpAny_pure (wpAny_newFunctionEnv hcell (fun y hy => by rw [List.mem_singleton.mp hy]; exact hx) (fun h₁ hns hsb => ⟨hl.fresh _ hsb, ?_⟩) hkind)
    have kp : ∀ b o, s.heap.get? b = some o → h₁.get? b = some o := fun b o e => hsb.extBut b o (Nat.ne_of_lt (Heap.lt_size e)) (Heap.get?_push_of_some _ e)
    show codeAny _ _ (.expr _ (PySem.W.envX qual scope s.heap.objs.size f (.ref c') cl)) _ _
    generalize he : PySem.W.envX qual scope s.heap.objs.size f (.ref c') cl = env
    have e1 : env.scope.kind = .function := by rw [← he]; exact hkind
    have e2 : env.kindOf x = some .local := by rw [← he]; exact hx
    have e3 : env.kindOf ("len" : Str) = some .globalImplicit := by rw [← he]; exact hlen
    have e4 : env.locals = s.heap.objs.size := by rw [← he]
    have e5 : env.globals = mainGlobals := by rw [← he]
    have e6 : env.builtins = builtinsNs := by rw [← he]
    have hns' : h₁.Ns env.locals (fun y => ([(x, Value.ref b)] : List (Str × Value)).reverse.lookup y) := by rw [e4]; exact hns
    have hlx : (fun y => ([(x, Value.ref b)] : List (Str × Value)).reverse.lookup y) x = some (.ref b) := by simp
    have it : IsTup h₁ b its.toArray := ht.keeps kp
    have hs : sizeLine = 16777216 := sizeLine_eq
    have nm : ∀ {s1 : Shared} {p : Pos} {Q : Value → Shared → Prop} {E : Value → Shared → Prop}, s1.heap = h₁ → Q (.ref b) s1 → wpAny (model prog w) (A.deeper env) (eval (.Name x p) env) Q E s1 := fun {s1 p Q E} hh q => by
      refine wpAny_Name (wpAny_loadName_local e1 e2 (by rw [hh]; exact hns') hlx q) hxd
    refine PySem.W.kla_codeExpr ?_
    refine wpAny_Tuple ?_
    refine wpAny_items_cons ?_
    refine wpAny_Call_Name_kw (Calls.Name_function_global e1 e3 (Calls.loadGlobal_builtin (by rw [e5]; exact hg.keeps kp) hml (by rw [e6]; exact hb.keeps kp) hmb ?_))
    refine PyProof.Rows.callWith_builtin1 ?_
    refine wpAny_items_cons ?_
    refine nm (by rfl) ?_
    refine Calls.spliced_nil ?_
    refine PyProof.Rows.len_tuple it (by simp only [List.size_toArray]; omega) ?_
    refine wpAny_items_cons ?_
    refine nm (by rfl) ?_
    refine Calls.spliced_nil ?_
    refine ⟨by show 2 ≤ sizeLine; omega, ?_⟩
    have klen : k.length = its.length := by
      have := hv.length
      rw [List.length_map] at this
      exact this
    refine ⟨_, _, rfl, fun b o e => Heap.get?_push_of_some _ (kp b o e), ?_⟩
    obtain ⟨ob, eo, co, nn, dd⟩ := it
    have hk : ∀ b o, h₁.get? b = some o → (h₁.push ({ cls := .type "tuple", data := .seq (List.toArray [Value.int its.toArray.size (s.toks + 1 + 1), Value.ref b]) } : Obj)).get? b = some o := fun b o e => Heap.get?_push_of_some _ e
    refine .tuple (as := []) (Heap.get?_push_size _ rfl) rfl rfl ?_
    have hsz : (its.toArray.size : Int) = (k.length : Int) := by rw [List.size_toArray, klen]
    have r2 := ReadsAll.cons (Reads.tuple (as := []) (hk _ _ eo) co dd (readsAll_ints hv)) (.nil (h := _))
    have r1 := ReadsAll.cons (Reads.int (h := (h₁.push ({ cls := .type "tuple", data := .seq (List.toArray [Value.int its.toArray.size (s.toks + 1 + 1), Value.ref b]) } : Obj))) (its.toArray.size : Int) (s.toks + 1 + 1)) r2
    rw [← hsz]
    exact r1
  refine wpAny_call (codeAny_mono rc fun r s' hq => ?_)
  cases r with
  | error e => exact hq
  | ok fl =>
    cases fl with
    | ret u => exact hq
    | next => exact hq
    | brk => exact hq
    | cont => exact hq
end
/-! ### the lambda made -/
section
variable {X : Cx} {pins : List (Addr × Obj)} {σ : L2.St} {H : Hp} {s : Shared}
theorem inv_tableF {P c : Addr} {ps more : Array Value} {h' : Heap} {t' : Nat} {oc : Obj} (I : Inv X pins σ H s) (hP : H P = some (.tbl ps)) (k : ∀ b o, b ≠ P → s.heap.get? b = some o → h'.get? b = some o)
    (hm : h'.get? P = some { cls := .none, data := .fields (ps ++ more) }) (hc : s.heap.objs.size ≤ c) (ho : h'.get? c = some oc) :
    Inv X pins σ (upd (upd H P (.tbl (ps ++ more))) c (.frz oc (.own 0))) { s with heap := h', toks := t' } := by
  have nC : H c = none := I.hok.fresh hc
  have nPc : P ≠ c := ne_of_none hP nC
  have at_ : ∀ b, b ≠ P → b ≠ c → upd (upd H P (.tbl (ps ++ more))) c (.frz oc (.own 0)) b = H b := fun b h1 h2 => by rw [upd_ne h2, upd_ne h1]
  have atP : upd (upd H P (.tbl (ps ++ more))) c (.frz oc (.own 0)) P = some (.tbl (ps ++ more)) := by rw [upd_ne nPc, upd_same]
  have nP : ∀ b u, H b = some u → (∀ q, u ≠ .tbl q) → b ≠ P := fun b u e q z => by
    rw [z, hP] at e
    exact q ps (Option.some.inj e).symm
  have nN : ∀ b, H b = none → b ≠ P := fun b e z => by
    rw [z, hP] at e
    cases e
  have lt' : ∀ b o, s.heap.get? b = some o → b ≠ c := fun b o e z => by
    rw [z] at e
    exact Nat.lt_irrefl _ (Nat.lt_of_lt_of_le (Heap.lt_size e) hc)
  have sm : ∀ b u, H b = some u → b ≠ c := fun b u e => ne_of_none e nC
  refine I.step (g' := s.gens) (d' := s.drawn) (ch := []) (fun b hb => absurd hb (by simp)) (fun b o _ _ _ e n => k b o (nN b n) e) (fun b o _ _ _ e n => ⟨o.slots, k b o (nN b n) e⟩)
    (fun b o _ e n => by rw [at_ b (nN b n) (lt' b o e)]; exact n) (fun b o _ e => ?_) (fun b xs e => by rw [at_ b (nP b _ e (fun q z => by cases z)) (sm b _ e)]; exact e) (fun b o u e => by rw [at_ b (nP b _ e (fun q z => by cases z)) (sm b _ e)]; exact e) (fun b qs e => ?_) (fun m hn => ?_) (fun b u e => ?_) I.bare
  · by_cases hb : b = P
    · rw [hb]
      exact ⟨_, hm⟩
    · exact ⟨o, k b o hb e⟩
  · by_cases hb : b = P
    · rw [hb, hP] at e
      cases e
      rw [hb, atP]
      exact ⟨more, rfl⟩
    · rw [at_ b hb (sm b _ e), e]
      exact ⟨#[], by simp⟩
  · obtain ⟨ob, es, ep, ho, r⟩ := hn
    exact ⟨ob, es, ep, k _ ob (nN _ I.free) ho, r⟩
  · by_cases hb : b = c
    · rw [hb, upd_same] at e
      cases e
      rw [hb]
      exact ⟨ho, oc, ho⟩
    · by_cases hb2 : b = P
      · rw [hb2, atP] at e
        cases e
        rw [hb2]
        exact hm
      · rw [at_ b hb2 hb] at e
        refine (I.hok b u e).stay (fun d v hd q => k d v ?_ q) (fun d q => by rw [at_ d (nP d _ q (fun q z => by cases z)) (sm d _ q)]; exact q) fun d xs q => by rw [at_ d (nP d _ q (fun q z => by cases z)) (sm d _ q)]; exact q
        rcases hd with z | z
        · rw [z]
          exact hb2
        · exact nP d _ z (fun q z => by cases z)
structure LamGo (P : Addr) (q : Str) (H H1 : Hp) : Prop where
  h : ∀ b o, H b = some o → ¬ isTbl o → H1 b = some o
  t : ∀ b ps, b ≠ P → H b = some (.tbl ps) → H1 b = some (.tbl ps)
  l : LamS H1 P q
theorem lam_mk {c P : Addr} {q : Str} {params : Arguments} {body : Expr} {scope : Scope} {lpos : Pos} {E : Value → Shared → Prop} {Q : Value → Shared → Prop} (I : Inv X pins σ H s) (TB : GxR.TabB X.base X.mg c P) (hcode : X.env.code = .ref c) (hS : LamS H P q) (hq : q = X.env.qual ++ "<lambda>")
    (hdef : defaultsOf params X.env = ([], [])) (hfree : ∀ y ∈ scope.names, y.2 ≠ .free)
    (h : ∀ (f c' : Addr) (cl : List (Str × Addr)) (pm ctv : Value) (H1 : Hp) (s' : Shared), Inv X pins σ H1 s' → LamGo P q H H1 → s'.heap.get? f = some (PySem.W.kla_obj "<lambda>" q params body scope cl pm c' ctv) → s'.heap.CodeRec (.ref c') q → Q (.ref f) s') :
    wpAny (model X.prog X.w) X.A (eval (.Lambda params body scope lpos) X.env) Q E s := by
  subst hq
  obtain ⟨ps, hP, ht, ha⟩ := hS
  have hfr : ∀ y ∈ scope.names, y.2 = .free → ∃ c, X.env.cells.lookup y.1 = some c := fun y hy e => absurd e (hfree y hy)
  refine PySem.W.kla_eval hdef ?_
  have bP : s.heap.BuiltinsAt X.mg P := TB.bm.keeps I.bk
  have hP' : s.heap.get? P = some { cls := .none, data := .fields ps } := I.hok P _ hP
  cases hc : codeAmong lpos ps.toList with
  | none =>
    refine PySem.W.kla_makeFunction (mg := X.mg) (c := c) (P := P) (ps := ps) (closure_ok hfr) I.ok.glob (I.mod.glob.keeps I.bk) hcode (TB.code.keeps I.bk) hP' ht hc TB.gP bP fun c' ctv h' tk hx hge hlt hrec htb => ?_
    obtain ⟨c2, oc, vs, t, e2, hoc, hd, hv⟩ := hrec
    cases e2
    have hsz : s.heap.objs.size ≤ h'.objs.size := Nat.le_trans hge (Nat.le_of_lt hlt)
    have nC : H c' = none := I.hok.fresh hge
    have I1 := inv_tableF (t' := tk) (more := #[rawInt lpos.line, rawInt lpos.col, .ref c']) (h' := h'.push (PySem.W.kla_obj "<lambda>" (X.env.qual ++ "<lambda>") params body scope (cloFrom X.env.cells scope.names []) ((X.mg "__name__").getD .none) c' ctv)) I hP
      (fun b o hb e => Heap.get?_push_of_some _ (hx b o hb e)) (Heap.get?_push_of_some _ htb) hge (Heap.get?_push_of_some _ hoc)
    have eL : (ps ++ #[rawInt lpos.line, rawInt lpos.col, .ref c']).toList = ps.toList ++ [rawInt lpos.line, rawInt lpos.col, .ref c'] := by simp
    have hh : ∀ b o, H b = some o → ¬ isTbl o → upd (upd H P (.tbl (ps ++ #[rawInt lpos.line, rawInt lpos.col, .ref c']))) c' (.frz oc (.own 0)) b = some o := fun b o e n => by
      rw [upd_ne (ne_of_none e nC), upd_ne fun z => by subst z; rw [hP] at e; cases e; exact n trivial]
      exact e
    refine h h'.objs.size c' _ _ ctv _ _ I1 ⟨hh, fun b qs hb e => by rw [upd_ne (ne_of_none e nC), upd_ne hb]; exact e, ?_⟩ (Heap.get?_push_size _ rfl) ⟨c', oc, vs, t, rfl, Heap.get?_push_of_some _ hoc, hd, hv⟩
    refine ⟨_, by rw [upd_ne (ne_of_none hP nC), upd_same], by rw [eL]; exact PySem.TriplesOk_snoc _ _ _ _ ht, fun p' cv hcv => ?_⟩
    rw [eL] at hcv
    rcases LamX.among_app _ ht hcv with z | z
    · obtain ⟨c0, oc0, vs0, t0, u0, e1, e2, e3, e4⟩ := ha p' cv z
      exact ⟨c0, oc0, vs0, t0, u0, e1, hh _ _ e2 (fun z => z), e3, e4⟩
    · exact ⟨c', oc, vs, t, _, z, upd_same, hd, hv⟩
  | some cv =>
    obtain ⟨c', oc, vs, t, u, e, hco, hd, hv⟩ := ha lpos cv hc
    subst e
    have hoc : s.heap.get? c' = some oc := (I.hok c' _ hco).1
    refine PySem.W.kla_makeFunctionHit (mg := X.mg) (c := c) (P := P) (ps := ps) (closure_ok hfr) I.ok.glob (I.mod.glob.keeps I.bk) hcode (TB.code.keeps I.bk) hP' ht hc bP fun ctv h' tk hx hsz => ?_
    have I1 : Inv X pins σ H { s with heap := h'.push (PySem.W.kla_obj "<lambda>" (X.env.qual ++ "<lambda>") params body scope (cloFrom X.env.cells scope.names []) ((X.mg "__name__").getD .none) c' ctv), toks := tk } := I.kept fun b o e => Heap.get?_push_of_some _ (hx b o e)
    exact h h'.objs.size c' _ ((X.mg "__name__").getD .none) ctv H _ I1 ⟨fun _ _ e _ => e, fun _ _ _ e => e, ps, hP, ht, ha⟩ (Heap.get?_push_size _ rfl) ⟨c', oc, vs, t, rfl, Heap.get?_push_of_some _ (hx _ _ hoc), hd, hv⟩
end
/-! ### sorted by it -/
abbrev lamBody (x : Str) (p1 p2 p3 p4 p5 : Pos) (n : Nat) : Expr := .Tuple [.Call (.Name "len" p1) [.Name x p2] [] p3, .Name x p4] n p5
/-- tuples of ints, by their numbers -/
def KsR (K : PySem.W.Frag) (H : Hp) (Φ : V → List Int → Prop) (vs : List V) (ks : List (List Int)) : Prop := PySem.W.EachIs (fun v k => (∃ b, v = V.ref b ∧ SqT K H b (k.map V.int)) ∧ Φ v k) vs ks
def tSortK (K : PySem.W.Frag) (P : Addr) (q : Str) (te : TE) : TE := fun σ H Q => te σ H fun v H1 => ∃ (Φ : V → List Int → Prop) (a : Addr) (vs : List V) (ks : List (List Int)), v = .ref a ∧ SqL K H1 a vs ∧ KsR K H1 Φ vs ks ∧ LamS H1 P q ∧ ∀ H2, LamGo P q H1 H2 → ∀ ys D, KsR K H2 Φ ys (ks.mergeSort leK) → H2 D = none → Q (.ref D) (upd H2 D (.lst ys))
theorem sq_go {K : PySem.W.Frag} {P : Addr} {q : Str} {H1 H2 : Hp} (g : LamGo P q H1 H2) {b : Addr} {xs : List V} (h : SqT K H1 b xs) : SqT K H2 b xs := by
  rcases h with h | h
  · refine .inl ?_
    rcases h with h | ⟨o, h⟩
    · exact .inl (g.h _ _ h fun z => z)
    · exact .inr ⟨o, g.h _ _ h fun z => z⟩
  · exact .inr h
theorem ksR_go {K : PySem.W.Frag} {P : Addr} {q : Str} {H1 H2 : Hp} {Φ : V → List Int → Prop} (g : LamGo P q H1 H2) : ∀ {vs : List V} {ks : List (List Int)}, KsR K H1 Φ vs ks → KsR K H2 Φ vs ks
  | _, _, .nil => .nil
  | _, _, .cons ⟨⟨b, e, h⟩, f⟩ t => .cons ⟨⟨b, e, sq_go g h⟩, f⟩ (ksR_go g t)
/-- as values -/
def RV (K : PySem.W.Frag) (H : Hp) (Φ : V → List Int → Prop) (h : Heap) (v : Value) (k : List Int) : Prop := ∃ (b : Addr) (its : List Value), v = .ref b ∧ Φ (V.ref b) k ∧ SqT K H b (k.map V.int) ∧ IsTup h b its.toArray ∧ Vals (k.map V.int) its ∧ its.length ≤ sizeLine
section
variable {X : Cx} {pins : List (Addr × Obj)} {σ : L2.St} {H : Hp} {s : Shared}
theorem rv_of {Φ : V → List Int → Prop} (I : Inv X pins σ H s) : ∀ {vs : List V} {us : List Value} {ks : List (List Int)}, KsR X.K H Φ vs ks → Vals vs us → PySem.W.EachIs (RV X.K H Φ s.heap) us ks
  | _, _, _, .nil, r => by cases r; exact .nil
  | _, _, _, .cons ⟨⟨b, e, h⟩, ph⟩ t, r => by
    cases r with
    | cons r1 r2 =>
      subst e
      obtain rfl := r1
      obtain ⟨its, rv, it, hz⟩ := I.tuple h
      exact .cons ⟨b, its, rfl, ph, h, it, rv, by rw [← rv.length]; exact hz⟩ (rv_of I t r2)
theorem of_rv {K : PySem.W.Frag} {Φ : V → List Int → Prop} {h : Heap} : ∀ {us : List Value} {ks : List (List Int)}, PySem.W.EachIs (RV K H Φ h) us ks → ∃ ys : List V, Vals ys us ∧ KsR K H Φ ys ks
  | _, _, .nil => ⟨[], .nil, .nil⟩
  | _, _, .cons ⟨b, its, e, ph, h1, _⟩ t => by
    obtain ⟨ys, a1, a2⟩ := of_rv t
    exact ⟨V.ref b :: ys, .cons e a1, .cons ⟨⟨b, rfl, h1⟩, ph⟩ a2⟩
end
section
variable {X : Cx} {e : Expr} {te : TE} {k n : Nat} {c P : Addr} {q x : Str} {params : Arguments} {scope : Scope} {p pos lpos kpos p1 p2 p3 p4 p5 : Pos}
theorem pe_sortedK (hr : Room k X.A) (hg : Gl X "sorted") (hm : X.mg "sorted" = none) (hml : X.mg ("len" : Str) = none) (TB : GxR.TabB X.base X.mg c P) (hcode : X.env.code = .ref c) (hq : q = X.env.qual ++ "<lambda>") (he : PE X e te)
    (hdef : defaultsOf params X.env = ([], [])) (hbind : ∀ (cl : List (Str × Addr)) (pm cv ctv v : Value), bindArgs (PySem.W.kla_fn "<lambda>" q params (lamBody x p1 p2 p3 p4 p5 n) scope cl pm cv ctv) ⟨[v], []⟩ = pure [(x, v)])
    (hkind : scope.kind = .function) (hco : scope.isCoroutine = false) (hgen : scope.isGenerator = false) (hcell : ∀ y ∈ scope.names, y.2 ≠ .cell) (hfree : ∀ y ∈ scope.names, y.2 ≠ .free) (hx : scope.names.lookup x = some .local) (hlen : scope.names.lookup ("len" : Str) = some .globalImplicit) (hxd : (x == ("__debug__" : Str)) = false)
    (hst : starEach [e] X.env = (false, eval e X.env) :: starEach [] X.env := by rfl) (hpl : (backTo pos (starEach [e] X.env)).any (·.1) = false := by rfl) :
    PE X (.Call (.Name "sorted" p) [e] [⟨some "key", .Lambda params (lamBody x p1 p2 p3 p4 p5 n) scope lpos, kpos⟩] pos) (tSortK X.K P q te) := by
  refine ⟨fun pins s σ H Q I h => ?_⟩
  refine wpAny_Call_Name_kw (ld_blt I hg hm boot_sorted ?_)
  refine PyProof.Rows.callWith_kw ?_ (by rw [hst]; rfl) hpl (by rfl) (by rfl)
  have h' : tCons te tNil σ H (fun xs H1 => match xs with
    | [v] => ∃ (Φ : V → List Int → Prop) (a : Addr) (vs : List V) (ks : List (List Int)), v = .ref a ∧ SqL X.K H1 a vs ∧ KsR X.K H1 Φ vs ks ∧ LamS H1 P q ∧ ∀ H2, LamGo P q H1 H2 → ∀ ys D, KsR X.K H2 Φ ys (ks.mergeSort leK) → H2 D = none → Q (.ref D) (upd H2 D (.lst ys))
    | _ => False) := h
  refine thn ((pa_cons he pa_nil hst).run pos pins s σ H _ I h') fun us s1 ⟨vs0, H1, I1, r1, q1⟩ => ?_
  obtain ⟨v, rfl⟩ : ∃ v, vs0 = [v] := by
    rcases vs0 with _ | ⟨v, _ | ⟨u, t⟩⟩
    · exact q1.elim
    · exact ⟨v, rfl⟩
    · exact q1.elim
  obtain ⟨Φ, a, vs, ks, rfl, hsq, hks, hS, fin⟩ := q1
  obtain rfl := Vals.ref1 r1
  show wpAny _ _ (evalAll ((do let v ← eval (.Lambda params (lamBody x p1 p2 p3 p4 p5 n) scope lpos) X.env; standAt pos; pure v) :: (backToKw pos (keywordEach [] X.env)).map (·.2))) _ _ s1
  refine wpAny_evalAll_cons (wpAny_bind (lam_mk I1 TB hcode hS hq hdef hfree fun f c' cl pm ctv H2 s2 I2 g hf hcr => ?_))
  refine wpAny_bind (wpAny_standAt (wpAny_pure (wpAny_evalAll_nil ?_)))
  show wpAny _ _ (call (.builtin "sorted") [.ref a] [(Str.ofString "key", .ref f)]) _ _ s2
  have hsq2 : SqL X.K H2 a vs := by
    rcases hsq with z | z
    · refine .inl ?_
      rcases z with z | ⟨o, z⟩
      · exact .inl (g.h _ _ z fun z => z)
      · exact .inr ⟨o, g.h _ _ z fun z => z⟩
    · exact .inr z
  obtain ⟨its, rv, hl, hz⟩ := I2.list hsq2
  have hk2 := ksR_go g hks
  have er := rv_of I2 hk2 rv
  have hlen2 : ks.length = its.length := er.length.symm
  have hun := hr.un
  have hdp := hr.dp
  have dep : ∀ k : List Int, (keyD k).depth ≤ 10 := fun k => by
    simp only [keyD, PyData.depth, PyData.depthAll, PySem.W.depth_ints]
    decide
  refine PySem.W.sorted_key_data (b := false) (R := RV X.K H2 Φ s2.heap) (bs := ks) (vs := its) keyD hl.isList er (PySem.W.AllAlike.of fun b b' => by
    unfold keyD
    simp only [PySem.W.alike, PySem.W.alikeAll, Bool.true_and, Bool.and_true]
    exact PySem.W.alike_ints _ _) (PySem.W.Sortable.tuples fun b => ⟨_, _, rfl⟩) (by rw [hlen2, ← rv.length]; exact hz) (fun x _ => by have := dep x; omega) (PyProof.Rows.ksk_s1 _ _) (fun _ => PyProof.Rows.ksk_l1 _ _) (fun x => PyProof.Rows.ksk_t1 _ _) (fun v k hR _ h tk kp => ?_) fun out c h' tk kp hn hD hlo eo => ?_
  · obtain ⟨b, its', rfl, _, _, it, hv, hz'⟩ := hR
    obtain ⟨mb, hb1, hb2⟩ := I2.mod.blt
    have kb : ∀ b o, X.base.get? b = some o → h.get? b = some o := fun b o e => kp b o (I2.bk b o e)
    exact lam_turn (s := { s2 with heap := h, toks := tk }) (Pl := P) (by show X.A.depth < _; omega) (by show X.A.units + 1 + 1 + 100 < _; omega) (kp _ _ hf) (by
      obtain ⟨c2, oc, vs2, t, e1, e2, e3, e4⟩ := hcr
      exact ⟨c2, oc, vs2, t, e1, kp _ _ e2, e3, e4⟩) (fun v => hbind _ _ _ _ v) hkind hco hgen hcell hx hlen hxd (I2.mod.glob.keeps kb) hml (hb1.keeps kb) ((hb2 _ (by decide)).trans boot_len) (I2.mod.nolimit.keeps kb) (it.keeps kp) hv hz'
  · rw [dataLe_keyD] at eo
    obtain ⟨ys, y1, y2⟩ := of_rv eo
    have nD : H2 (s2.heap.objs.size + 1) = none := I2.hok.fresh (Nat.le_succ _)
    refine ⟨.ref (s2.heap.objs.size + 1), upd H2 (s2.heap.objs.size + 1) (.lst ys), ?_, rfl, fin H2 g ys _ y2 nD⟩
    exact I2.laid (t' := tk) kp (Nat.le_succ _) ⟨by rw [y1.length, hlo, hlen2, ← rv.length]; exact hz, out, c, y1, hD⟩
end
theorem go_lam {κ : Kx} {F H H' : Hp} {P : Addr} {q : Str} (g : Good κ F H) (hP : (P, q) ∈ κ.lams) (l : LamGo P q H H') : Go κ F H F H' := by
  have tb : ∀ b ps, H b = some (.tbl ps) → TabG H b → TabG H' b := fun b ps e t => by
    by_cases hb : b = P
    · subst hb
      obtain ⟨qs, e1, e2, _⟩ := l.l
      exact ⟨qs, e1, e2⟩
    · obtain ⟨qs, e1, e2⟩ := t
      exact ⟨qs, l.t _ _ hb e1, e2⟩
  refine ⟨⟨fun _ _ e => e, l.h, fun b t => ?_, fun b qs e => ?_, fun _ _ e => .inl e⟩, ⟨fun b o e => ?_, fun Q hQ => ?_, fun p hp => ?_⟩⟩
  · obtain ⟨ps, e, _⟩ := id t
    exact tb b ps e t
  · by_cases hb : b = P
    · subst hb
      obtain ⟨rs, e1, _⟩ := l.l
      exact ⟨rs, e1⟩
    · exact ⟨qs, l.t _ _ hb e⟩
  · obtain ⟨h1, h2⟩ := g.sub b o e
    exact ⟨l.h _ _ h1 h2, h2⟩
  · have t := g.tabs.1 Q hQ
    obtain ⟨ps, e, _⟩ := id t
    exact tb Q ps e t
  · obtain ⟨h1, h2, h3⟩ := g.tabs.2 p hp
    refine ⟨?_, h2, h3⟩
    by_cases hb : p.1 = P
    · have := h3 (P, q) hP hb.symm
      have e : p.2 = q := this.symm
      rw [hb, e]
      exact l.l
    · refine h1.ext (fun b ps e1 e2 => l.t b ps (fun z => hb (by rw [← e1]; exact z)) e2) (fun b o u e => l.h _ _ e fun z => z)
theorem ks_reps {κ : Kx} {T F : Hp} : ∀ {vs : List V} {ks : List (List Int)}, Reps κ T F vs (ks.map tupI) → KsR κ.K T (fun v k => Rep κ T F v (tupI k)) vs ks
  | [], [], _ => .nil
  | [], _ :: _, r => by cases r
  | _ :: _, [], r => by cases r
  | v :: vs, k :: ks, r => by
    have r' : Reps κ T F (v :: vs) (tupI k :: ks.map tupI) := r
    cases r' with
    | cons r1 r2 =>
      refine .cons ⟨?_, r1⟩ (ks_reps r2)
      obtain ⟨a, e, h⟩ := rep_tupI r1
      exact ⟨a, e, h⟩
theorem reps_ks {κ : Kx} {T F H : Hp} : ∀ {vs : List V} {ks : List (List Int)}, KsR κ.K H (fun v k => Rep κ T F v (tupI k)) vs ks → Reps κ T F vs (ks.map tupI)
  | _, _, .nil => .nil
  | _, _, .cons ⟨_, r⟩ t => .cons r (reps_ks t)
section
variable {M : Wd} {X : Cx} {e : Expr} {f : FE} {k n : Nat} {c P : Addr} {q x : Str} {params : Arguments} {scope : Scope} {p pos lpos kpos p1 p2 p3 p4 p5 : Pos}
theorem v_sortedK (hr : Room k X.A) (hg : Gl X "sorted") (hm : X.mg "sorted" = none) (hml : X.mg ("len" : Str) = none) (TB : GxR.TabB X.base X.mg c P) (hcode : X.env.code = .ref c) (hP : (P, q) ∈ M.lams) (hq : q = X.env.qual ++ "<lambda>") (h : IE M X e f)
    (hdef : defaultsOf params X.env = ([], []) := by rfl) (hbind : ∀ (cl : List (Str × Addr)) (pm cv ctv v : Value), bindArgs (PySem.W.kla_fn "<lambda>" q params (lamBody x p1 p2 p3 p4 p5 n) scope cl pm cv ctv) ⟨[v], []⟩ = pure [(x, v)] := by intros; rfl)
    (hkind : scope.kind = .function := by rfl) (hco : scope.isCoroutine = false := by rfl) (hgen : scope.isGenerator = false := by rfl) (hcell : ∀ y ∈ scope.names, y.2 ≠ .cell := by decide) (hfree : ∀ y ∈ scope.names, y.2 ≠ .free := by decide) (hx : scope.names.lookup x = some .local := by rfl) (hlen : scope.names.lookup ("len" : Str) = some .globalImplicit := by rfl) (hxd : (x == ("__debug__" : Str)) = false := by decide)
    (hst : starEach [e] X.env = (false, eval e X.env) :: starEach [] X.env := by rfl) (hpl : (backTo pos (starEach [e] X.env)).any (·.1) = false := by rfl) :
    OE M X (.Call (.Name "sorted" p) [e] [⟨some "key", .Lambda params (lamBody x p1 p2 p3 p4 p5 n) scope lpos, kpos⟩] pos) (e1 D.sortK f) := by
  obtain ⟨te, pe, qe⟩ := h
  refine ⟨_, pe_sortedK hr hg hm hml TB hcode hq pe hdef hbind hkind hco hgen hcell hfree hx hlen hxd hst hpl, fun F0 H0 F H σ ρ d Q s hf kk => ?_⟩
  obtain ⟨da, hda, hf⟩ := bsome hf
  unfold D.sortK at hf
  split at hf
  · rename_i ds
    obtain ⟨ks, hks, hf⟩ := bsome hf
    split at hf
    · cases hf
      have e0 := keysI_eq hks
      subst e0
      refine qe F0 H0 F H σ ρ _ _ s hda fun F1 H1 v g1 r1 => ?_
      obtain ⟨a, vs, rfl, h, z, r⟩ := r1.lst g1.good.sub
      have hlen : vs.length = ks.length := by rw [r.length, List.length_map]
      refine ⟨fun v k => Rep (kx X M) H1 F1 v (tupI k), a, vs, ks, rfl, h, ks_reps r, (g1.good.tabs.2 _ hP).1, fun H2 l ys D hy hD => ?_⟩
      have g2 := go_lam g1.good hP l
      have re : Reps (kx X M) H1 F1 ys ((ks.mergeSort leK).map tupI) := reps_ks hy
      have hlen2 : ys.length ≤ sizeLine := by
        rw [re.length, List.length_map, List.length_mergeSort, ← hlen]
        exact z
      have g12 := g1.trans s.good g2
      exact kk F1 _ D (g12.trans s.good (g2.good.new hD fun z => z)) (g12.toExt.free s.good.tabs hD) (g2.good.none hD) ⟨ys, upd_same, hlen2, (re.ext g2.toExt).new hD⟩
    · cases hf
  · cases hf
end
end Vl
end
section
set_option Elab.async false
set_option linter.all false
set_option maxRecDepth 100000
set_option maxHeartbeats 0
/-! the derivations (printed by gen.py) -/
namespace Vl
namespace F15
open PySem PySem.Spec PyProof.Rows L2 GxR TupF Dc
def top (i : Nat) : Stmt := PySem.Challenge.pw_tokenworks_k15_whole_nets_turned_back.main.body.getD i (.Pass ⟨0, 0, 0, 0⟩)
def clsBody (s : Stmt) (j : Nat) : Stmt := match s with
  | .ClassDef _ _ _ b _ _ _ _ _ _ _ => b.getD j (.Pass ⟨0, 0, 0, 0⟩)
  | _ => .Pass ⟨0, 0, 0, 0⟩
abbrev s__law_draws : Stmt := top 62
def d__law_draws : He.DefD := ⟨("_law_draws", none), "_law_draws", "_law_draws", defArgs s__law_draws, defBody s__law_draws, defScope s__law_draws, [], []⟩
abbrev s__law_side : Stmt := top 63
def d__law_side : He.DefD := ⟨("_law_side", none), "_law_side", "_law_side", defArgs s__law_side, defBody s__law_side, defScope s__law_side, [], []⟩
abbrev s__law_shifted : Stmt := top 64
def d__law_shifted : He.DefD := ⟨("_law_shifted", none), "_law_shifted", "_law_shifted", defArgs s__law_shifted, defBody s__law_shifted, defScope s__law_shifted, [], []⟩
abbrev s__law_net : Stmt := top 65
def d__law_net : He.DefD := ⟨("_law_net", none), "_law_net", "_law_net", defArgs s__law_net, defBody s__law_net, defScope s__law_net, [], []⟩
abbrev s__law_cell : Stmt := top 61
def d__law_cell : He.DefD := ⟨("_law_cell", none), "_law_cell", "_law_cell", defArgs s__law_cell, defBody s__law_cell, defScope s__law_cell, [], []⟩
abbrev s__law_mark : Stmt := top 66
def d__law_mark : He.DefD := ⟨("_law_mark", none), "_law_mark", "_law_mark", defArgs s__law_mark, defBody s__law_mark, defScope s__law_mark, [], []⟩
abbrev s__law_enough : Stmt := top 69
def d__law_enough : He.DefD := ⟨("_law_enough", none), "_law_enough", "_law_enough", defArgs s__law_enough, defBody s__law_enough, defScope s__law_enough, [], []⟩
abbrev s__law_behind : Stmt := top 70
def d__law_behind : He.DefD := ⟨("_law_behind", none), "_law_behind", "_law_behind", defArgs s__law_behind, defBody s__law_behind, defScope s__law_behind, [], []⟩
abbrev s__law_reached : Stmt := top 71
def d__law_reached : He.DefD := ⟨("_law_reached", none), "_law_reached", "_law_reached", defArgs s__law_reached, defBody s__law_reached, defScope s__law_reached, [], []⟩
abbrev s__law_row : Stmt := top 67
def d__law_row : He.DefD := ⟨("_law_row", none), "_law_row", "_law_row", defArgs s__law_row, defBody s__law_row, defScope s__law_row, [], []⟩
abbrev s__law_rows : Stmt := top 68
def d__law_rows : He.DefD := ⟨("_law_rows", none), "_law_rows", "_law_rows", defArgs s__law_rows, defBody s__law_rows, defScope s__law_rows, [], []⟩
abbrev s_is_name : Stmt := top 14
def d_is_name : He.DefD := ⟨("is_name", none), "is_name", "is_name", defArgs s_is_name, defBody s_is_name, defScope s_is_name, [], []⟩
abbrev s_is_number : Stmt := top 13
def d_is_number : He.DefD := ⟨("is_number", none), "is_number", "is_number", defArgs s_is_number, defBody s_is_number, defScope s_is_number, [], []⟩
abbrev s_is_side : Stmt := top 15
def d_is_side : He.DefD := ⟨("is_side", none), "is_side", "is_side", defArgs s_is_side, defBody s_is_side, defScope s_is_side, [], []⟩
abbrev s_is_move : Stmt := top 16
def d_is_move : He.DefD := ⟨("is_move", none), "is_move", "is_move", defArgs s_is_move, defBody s_is_move, defScope s_is_move, [], []⟩
abbrev s_Net_init : Stmt := clsBody (top 17) 0
def d_Net_init : He.DefD := ⟨("Net", some "__init__"), "__init__", "Net.__init__", defArgs s_Net_init, defBody s_Net_init, defScope s_Net_init, [], []⟩
abbrev s_turned_back : Stmt := top 26
def d_turned_back : He.DefD := ⟨("turned_back", none), "turned_back", "turned_back", defArgs s_turned_back, defBody s_turned_back, defScope s_turned_back, [], []⟩
abbrev s_check_some : Stmt := top 28
def d_check_some : He.DefD := ⟨("check_some", none), "check_some", "check_some", defArgs s_check_some, defBody s_check_some, defScope s_check_some, [], []⟩
abbrev s_touches : Stmt := top 29
def d_touches : He.DefD := ⟨("touches", none), "touches", "touches", defArgs s_touches, defBody s_touches, defScope s_touches, [], []⟩
abbrev s_is_siphon_at : Stmt := top 32
def d_is_siphon_at : He.DefD := ⟨("is_siphon_at", none), "is_siphon_at", "is_siphon_at", defArgs s_is_siphon_at, defBody s_is_siphon_at, defScope s_is_siphon_at, [], []⟩
abbrev s_row_of : Stmt := top 19
def d_row_of : He.DefD := ⟨("row_of", none), "row_of", "row_of", defArgs s_row_of, defBody s_row_of, defScope s_row_of, [], []⟩
abbrev s_rows_of : Stmt := top 20
def d_rows_of : He.DefD := ⟨("rows_of", none), "rows_of", "rows_of", defArgs s_rows_of, defBody s_rows_of, defScope s_rows_of, [], []⟩
abbrev s_indices : Stmt := top 31
def d_indices : He.DefD := ⟨("indices", none), "indices", "indices", defArgs s_indices, defBody s_indices, defScope s_indices, [], []⟩
abbrev s_is_siphon : Stmt := top 33
def d_is_siphon : He.DefD := ⟨("is_siphon", none), "is_siphon", "is_siphon", defArgs s_is_siphon, defBody s_is_siphon, defScope s_is_siphon, [], []⟩
abbrev s_is_trap : Stmt := top 34
def d_is_trap : He.DefD := ⟨("is_trap", none), "is_trap", "is_trap", defArgs s_is_trap, defBody s_is_trap, defScope s_is_trap, [], []⟩
abbrev s_places_at : Stmt := top 30
def d_places_at : He.DefD := ⟨("places_at", none), "places_at", "places_at", defArgs s_places_at, defBody s_places_at, defScope s_places_at, [], []⟩
abbrev s_greatest_at : Stmt := top 35
def d_greatest_at : He.DefD := ⟨("greatest_at", none), "greatest_at", "greatest_at", defArgs s_greatest_at, defBody s_greatest_at, defScope s_greatest_at, [], []⟩
abbrev s_greatest_siphon : Stmt := top 36
def d_greatest_siphon : He.DefD := ⟨("greatest_siphon", none), "greatest_siphon", "greatest_siphon", defArgs s_greatest_siphon, defBody s_greatest_siphon, defScope s_greatest_siphon, [], []⟩
abbrev s_greatest_trap : Stmt := top 37
def d_greatest_trap : He.DefD := ⟨("greatest_trap", none), "greatest_trap", "greatest_trap", defArgs s_greatest_trap, defBody s_greatest_trap, defScope s_greatest_trap, [], []⟩
abbrev s_changes_of : Stmt := top 39
def d_changes_of : He.DefD := ⟨("changes_of", none), "changes_of", "changes_of", defArgs s_changes_of, defBody s_changes_of, defScope s_changes_of, [], []⟩
abbrev s_common : Stmt := top 40
def d_common : He.DefD := ⟨("common", none), "common", "common", defArgs s_common, defBody s_common, defScope s_common, [], []⟩
abbrev s_joined : Stmt := top 41
def d_joined : He.DefD := ⟨("joined", none), "joined", "joined", defArgs s_joined, defBody s_joined, defScope s_joined, [], []⟩
abbrev s_holds_within : Stmt := top 42
def d_holds_within : He.DefD := ⟨("holds_within", none), "holds_within", "holds_within", defArgs s_holds_within, defBody s_holds_within, defScope s_holds_within, [], []⟩
abbrev s_least_rows : Stmt := top 43
def d_least_rows : He.DefD := ⟨("least_rows", none), "least_rows", "least_rows", defArgs s_least_rows, defBody s_least_rows, defScope s_least_rows, [], []⟩
abbrev s_least_solutions : Stmt := top 44
def d_least_solutions : He.DefD := ⟨("least_solutions", none), "least_solutions", "least_solutions", defArgs s_least_solutions, defBody s_least_solutions, defScope s_least_solutions, [], []⟩
abbrev s_place_laws : Stmt := top 45
def d_place_laws : He.DefD := ⟨("place_laws", none), "place_laws", "place_laws", defArgs s_place_laws, defBody s_place_laws, defScope s_place_laws, [], []⟩
abbrev s_move_laws : Stmt := top 46
def d_move_laws : He.DefD := ⟨("move_laws", none), "move_laws", "move_laws", defArgs s_move_laws, defBody s_move_laws, defScope s_move_laws, [], []⟩
abbrev s_subsets : Stmt := top 48
def d_subsets : He.DefD := ⟨("subsets", none), "subsets", "subsets", defArgs s_subsets, defBody s_subsets, defScope s_subsets, [], []⟩
abbrev s_moves_at : Stmt := top 49
def d_moves_at : He.DefD := ⟨("moves_at", none), "moves_at", "moves_at", defArgs s_moves_at, defBody s_moves_at, defScope s_moves_at, [], []⟩
abbrev s_come_from : Stmt := top 51
def d_come_from : He.DefD := ⟨("come_from", none), "come_from", "come_from", defArgs s_come_from, defBody s_come_from, defScope s_come_from, [], []⟩
abbrev s_is_machine_part : Stmt := top 50
def d_is_machine_part : He.DefD := ⟨("is_machine_part", none), "is_machine_part", "is_machine_part", defArgs s_is_machine_part, defBody s_is_machine_part, defScope s_is_machine_part, [], []⟩
abbrev s_named : Stmt := top 53
def d_named : He.DefD := ⟨("named", none), "named", "named", defArgs s_named, defBody s_named, defScope s_named, [], []⟩
abbrev s_machine_parts : Stmt := top 52
def d_machine_parts : He.DefD := ⟨("machine_parts", none), "machine_parts", "machine_parts", defArgs s_machine_parts, defBody s_machine_parts, defScope s_machine_parts, [], []⟩
abbrev s_rank_of : Stmt := top 54
def d_rank_of : He.DefD := ⟨("rank_of", none), "rank_of", "rank_of", defArgs s_rank_of, defBody s_rank_of, defScope s_rank_of, [], []⟩
abbrev s_check_mark : Stmt := top 18
def d_check_mark : He.DefD := ⟨("check_mark", none), "check_mark", "check_mark", defArgs s_check_mark, defBody s_check_mark, defScope s_check_mark, [], []⟩
abbrev s_is_enough : Stmt := top 22
def d_is_enough : He.DefD := ⟨("is_enough", none), "is_enough", "is_enough", defArgs s_is_enough, defBody s_is_enough, defScope s_is_enough, [], []⟩
abbrev s_moved : Stmt := top 23
def d_moved : He.DefD := ⟨("moved", none), "moved", "moved", defArgs s_moved, defBody s_moved, defScope s_moved, [], []⟩
abbrev s_explored : Stmt := top 56
def d_explored : He.DefD := ⟨("explored", none), "explored", "explored", defArgs s_explored, defBody s_explored, defScope s_explored, [], []⟩
abbrev s_reached : Stmt := top 58
def d_reached : He.DefD := ⟨("reached", none), "reached", "reached", defArgs s_reached, defBody s_reached, defScope s_reached, [], [("most", .int 500)]⟩
abbrev s_word_to : Stmt := top 57
def d_word_to : He.DefD := ⟨("word_to", none), "word_to", "word_to", defArgs s_word_to, defBody s_word_to, defScope s_word_to, [], []⟩
abbrev s_way : Stmt := top 59
def d_way : He.DefD := ⟨("way", none), "way", "way", defArgs s_way, defBody s_way, defScope s_way, [], [("most", .int 500)]⟩
abbrev s_found_move : Stmt := top 21
def d_found_move : He.DefD := ⟨("found_move", none), "found_move", "found_move", defArgs s_found_move, defBody s_found_move, defScope s_found_move, [], []⟩
abbrev s_run : Stmt := top 24
def d_run : He.DefD := ⟨("run", none), "run", "run", defArgs s_run, defBody s_run, defScope s_run, [], []⟩
abbrev s_law : Stmt := top 72
def d_law : He.DefD := ⟨("law", none), "law", "law", defArgs s_law, defBody s_law, defScope s_law, [], []⟩
def fa : List He.Fa := [.glo "_law_draws", .glo "_law_side", .glo "_law_shifted", .glo "_law_net", .glo "_law_cell", .glo "_law_mark", .glo "_law_enough", .glo "_law_behind", .glo "_law_reached", .glo "_law_row", .glo "_law_rows", .glo "is_name", .glo "is_number", .glo "is_side", .glo "is_move", .glo "turned_back", .glo "check_some", .glo "touches", .glo "is_siphon_at", .glo "row_of", .glo "rows_of", .glo "indices", .glo "is_siphon", .glo "is_trap", .glo "places_at", .glo "greatest_at", .glo "greatest_siphon", .glo "greatest_trap", .glo "changes_of", .glo "common", .glo "joined", .glo "holds_within", .glo "least_rows", .glo "least_solutions", .glo "place_laws", .glo "move_laws", .glo "subsets", .glo "moves_at", .glo "come_from", .glo "is_machine_part", .glo "named", .glo "machine_parts", .glo "rank_of", .glo "check_mark", .glo "is_enough", .glo "moved", .glo "explored", .glo "reached", .glo "word_to", .glo "way", .glo "found_move", .glo "run", .glo "law", .free "all", .free "any", .free "int", .free "isinstance", .free "len", .free "list", .free "range", .free "reversed", .free "sorted", .free "str", .free "sum", .free "tuple", .str "LETTERS" "abcdefghijklmnopqrstuvwxyz", .int "MOST_MOVES" 9, .int "MOST_PLACES" 8, .int "MOST_WEIGHT" 9, .str "SIGNS" "abcdefghijklmnopqrstuvwxyz0123456789", .glo "Net", .cls "Net", .noat "Net" "places", .noat "Net" "moves", .mkr "Net"]
def fn : List He.DefD := [d__law_draws, d__law_side, d__law_shifted, d__law_net, d__law_cell, d__law_mark, d__law_enough, d__law_behind, d__law_reached, d__law_row, d__law_rows, d_is_name, d_is_number, d_is_side, d_is_move, d_Net_init, d_turned_back, d_check_some, d_touches, d_is_siphon_at, d_row_of, d_rows_of, d_indices, d_is_siphon, d_is_trap, d_places_at, d_greatest_at, d_greatest_siphon, d_greatest_trap, d_changes_of, d_common, d_joined, d_holds_within, d_least_rows, d_least_solutions, d_place_laws, d_move_laws, d_subsets, d_moves_at, d_come_from, d_is_machine_part, d_named, d_machine_parts, d_rank_of, d_check_mark, d_is_enough, d_moved, d_explored, d_reached, d_word_to, d_way, d_found_move, d_run, d_law]
abbrev lq_subsets : Str := d_subsets.qual ++ ".<locals>." ++ "<lambda>"
def tg : List He.Defn := [d_is_name.at_, d_touches.at_, d_is_siphon_at.at_, d_holds_within.at_, d_moves_at.at_, d_is_machine_part.at_, d_is_enough.at_]
def tl : List (He.Defn × Str) := [(d_subsets.at_, lq_subsets)]
def tf : List He.Defn := tg ++ tl.map (·.1)
def cl (K : PySem.W.Frag) : ClsTab := ⟨fun c => match c with | 0 => He.ga K "Net" | _ => 0, fun c => match c with | 0 => ["places", "moves"] | _ => []⟩
abbrev WM (K : PySem.W.Frag) (o : Option Addr) : Wd := ⟨cl K, tg.map (fun p => (He.cT K p).2), o, tl.map (fun p => ((He.cT K p.1).2, p.2))⟩
structure FC (P : Program) (w : World) (K : PySem.W.Frag) (mg : Str → Option Value) (base : Heap) : Prop where
  g__law_draws : mg "_law_draws" = some (.ref (He.ga K "_law_draws"))
  g__law_side : mg "_law_side" = some (.ref (He.ga K "_law_side"))
  g__law_shifted : mg "_law_shifted" = some (.ref (He.ga K "_law_shifted"))
  g__law_net : mg "_law_net" = some (.ref (He.ga K "_law_net"))
  g__law_cell : mg "_law_cell" = some (.ref (He.ga K "_law_cell"))
  g__law_mark : mg "_law_mark" = some (.ref (He.ga K "_law_mark"))
  g__law_enough : mg "_law_enough" = some (.ref (He.ga K "_law_enough"))
  g__law_behind : mg "_law_behind" = some (.ref (He.ga K "_law_behind"))
  g__law_reached : mg "_law_reached" = some (.ref (He.ga K "_law_reached"))
  g__law_row : mg "_law_row" = some (.ref (He.ga K "_law_row"))
  g__law_rows : mg "_law_rows" = some (.ref (He.ga K "_law_rows"))
  g_is_name : mg "is_name" = some (.ref (He.ga K "is_name"))
  g_is_number : mg "is_number" = some (.ref (He.ga K "is_number"))
  g_is_side : mg "is_side" = some (.ref (He.ga K "is_side"))
  g_is_move : mg "is_move" = some (.ref (He.ga K "is_move"))
  g_turned_back : mg "turned_back" = some (.ref (He.ga K "turned_back"))
  g_check_some : mg "check_some" = some (.ref (He.ga K "check_some"))
  g_touches : mg "touches" = some (.ref (He.ga K "touches"))
  g_is_siphon_at : mg "is_siphon_at" = some (.ref (He.ga K "is_siphon_at"))
  g_row_of : mg "row_of" = some (.ref (He.ga K "row_of"))
  g_rows_of : mg "rows_of" = some (.ref (He.ga K "rows_of"))
  g_indices : mg "indices" = some (.ref (He.ga K "indices"))
  g_is_siphon : mg "is_siphon" = some (.ref (He.ga K "is_siphon"))
  g_is_trap : mg "is_trap" = some (.ref (He.ga K "is_trap"))
  g_places_at : mg "places_at" = some (.ref (He.ga K "places_at"))
  g_greatest_at : mg "greatest_at" = some (.ref (He.ga K "greatest_at"))
  g_greatest_siphon : mg "greatest_siphon" = some (.ref (He.ga K "greatest_siphon"))
  g_greatest_trap : mg "greatest_trap" = some (.ref (He.ga K "greatest_trap"))
  g_changes_of : mg "changes_of" = some (.ref (He.ga K "changes_of"))
  g_common : mg "common" = some (.ref (He.ga K "common"))
  g_joined : mg "joined" = some (.ref (He.ga K "joined"))
  g_holds_within : mg "holds_within" = some (.ref (He.ga K "holds_within"))
  g_least_rows : mg "least_rows" = some (.ref (He.ga K "least_rows"))
  g_least_solutions : mg "least_solutions" = some (.ref (He.ga K "least_solutions"))
  g_place_laws : mg "place_laws" = some (.ref (He.ga K "place_laws"))
  g_move_laws : mg "move_laws" = some (.ref (He.ga K "move_laws"))
  g_subsets : mg "subsets" = some (.ref (He.ga K "subsets"))
  g_moves_at : mg "moves_at" = some (.ref (He.ga K "moves_at"))
  g_come_from : mg "come_from" = some (.ref (He.ga K "come_from"))
  g_is_machine_part : mg "is_machine_part" = some (.ref (He.ga K "is_machine_part"))
  g_named : mg "named" = some (.ref (He.ga K "named"))
  g_machine_parts : mg "machine_parts" = some (.ref (He.ga K "machine_parts"))
  g_rank_of : mg "rank_of" = some (.ref (He.ga K "rank_of"))
  g_check_mark : mg "check_mark" = some (.ref (He.ga K "check_mark"))
  g_is_enough : mg "is_enough" = some (.ref (He.ga K "is_enough"))
  g_moved : mg "moved" = some (.ref (He.ga K "moved"))
  g_explored : mg "explored" = some (.ref (He.ga K "explored"))
  g_reached : mg "reached" = some (.ref (He.ga K "reached"))
  g_word_to : mg "word_to" = some (.ref (He.ga K "word_to"))
  g_way : mg "way" = some (.ref (He.ga K "way"))
  g_found_move : mg "found_move" = some (.ref (He.ga K "found_move"))
  g_run : mg "run" = some (.ref (He.ga K "run"))
  g_law : mg "law" = some (.ref (He.ga K "law"))
  f_all : mg "all" = none
  f_any : mg "any" = none
  f_int : mg "int" = none
  f_isinstance : mg "isinstance" = none
  f_len : mg "len" = none
  f_list : mg "list" = none
  f_range : mg "range" = none
  f_reversed : mg "reversed" = none
  f_sorted : mg "sorted" = none
  f_str : mg "str" = none
  f_sum : mg "sum" = none
  f_tuple : mg "tuple" = none
  s_LETTERS : ∃ t, mg "LETTERS" = some (.str "abcdefghijklmnopqrstuvwxyz" t)
  i_MOST_MOVES : ∃ t, mg "MOST_MOVES" = some (.int 9 t)
  i_MOST_PLACES : ∃ t, mg "MOST_PLACES" = some (.int 8 t)
  i_MOST_WEIGHT : ∃ t, mg "MOST_WEIGHT" = some (.int 9 t)
  s_SIGNS : ∃ t, mg "SIGNS" = some (.str "abcdefghijklmnopqrstuvwxyz0123456789" t)
  gc_Net : mg "Net" = some (.ref (He.ga K "Net"))
  c_Net : Cls K (He.ga K "Net")
  n_Net_places : NoAttr K (He.ga K "Net") "places"
  n_Net_moves : NoAttr K (He.ga K "Net") "moves"
  m_Net : Mk K (He.ga K "Net") (He.ma K (He.ga K "Net") "__init__")
  e__law_draws : ∃ fd, FunD K d__law_draws.name d__law_draws.qual d__law_draws.params d__law_draws.body d__law_draws.scope (d__law_draws.dvs K) (d__law_draws.kws K) (He.fAd K d__law_draws.at_) fd
  e__law_side : ∃ fd, FunD K d__law_side.name d__law_side.qual d__law_side.params d__law_side.body d__law_side.scope (d__law_side.dvs K) (d__law_side.kws K) (He.fAd K d__law_side.at_) fd
  e__law_shifted : ∃ fd, FunD K d__law_shifted.name d__law_shifted.qual d__law_shifted.params d__law_shifted.body d__law_shifted.scope (d__law_shifted.dvs K) (d__law_shifted.kws K) (He.fAd K d__law_shifted.at_) fd
  e__law_net : ∃ fd, FunD K d__law_net.name d__law_net.qual d__law_net.params d__law_net.body d__law_net.scope (d__law_net.dvs K) (d__law_net.kws K) (He.fAd K d__law_net.at_) fd
  e__law_cell : ∃ fd, FunD K d__law_cell.name d__law_cell.qual d__law_cell.params d__law_cell.body d__law_cell.scope (d__law_cell.dvs K) (d__law_cell.kws K) (He.fAd K d__law_cell.at_) fd
  e__law_mark : ∃ fd, FunD K d__law_mark.name d__law_mark.qual d__law_mark.params d__law_mark.body d__law_mark.scope (d__law_mark.dvs K) (d__law_mark.kws K) (He.fAd K d__law_mark.at_) fd
  e__law_enough : ∃ fd, FunD K d__law_enough.name d__law_enough.qual d__law_enough.params d__law_enough.body d__law_enough.scope (d__law_enough.dvs K) (d__law_enough.kws K) (He.fAd K d__law_enough.at_) fd
  e__law_behind : ∃ fd, FunD K d__law_behind.name d__law_behind.qual d__law_behind.params d__law_behind.body d__law_behind.scope (d__law_behind.dvs K) (d__law_behind.kws K) (He.fAd K d__law_behind.at_) fd
  e__law_reached : ∃ fd, FunD K d__law_reached.name d__law_reached.qual d__law_reached.params d__law_reached.body d__law_reached.scope (d__law_reached.dvs K) (d__law_reached.kws K) (He.fAd K d__law_reached.at_) fd
  e__law_row : ∃ fd, FunD K d__law_row.name d__law_row.qual d__law_row.params d__law_row.body d__law_row.scope (d__law_row.dvs K) (d__law_row.kws K) (He.fAd K d__law_row.at_) fd
  e__law_rows : ∃ fd, FunD K d__law_rows.name d__law_rows.qual d__law_rows.params d__law_rows.body d__law_rows.scope (d__law_rows.dvs K) (d__law_rows.kws K) (He.fAd K d__law_rows.at_) fd
  e_is_name : ∃ fd, FunD K d_is_name.name d_is_name.qual d_is_name.params d_is_name.body d_is_name.scope (d_is_name.dvs K) (d_is_name.kws K) (He.fAd K d_is_name.at_) fd
  e_is_number : ∃ fd, FunD K d_is_number.name d_is_number.qual d_is_number.params d_is_number.body d_is_number.scope (d_is_number.dvs K) (d_is_number.kws K) (He.fAd K d_is_number.at_) fd
  e_is_side : ∃ fd, FunD K d_is_side.name d_is_side.qual d_is_side.params d_is_side.body d_is_side.scope (d_is_side.dvs K) (d_is_side.kws K) (He.fAd K d_is_side.at_) fd
  e_is_move : ∃ fd, FunD K d_is_move.name d_is_move.qual d_is_move.params d_is_move.body d_is_move.scope (d_is_move.dvs K) (d_is_move.kws K) (He.fAd K d_is_move.at_) fd
  e_Net_init : ∃ fd, FunD K d_Net_init.name d_Net_init.qual d_Net_init.params d_Net_init.body d_Net_init.scope (d_Net_init.dvs K) (d_Net_init.kws K) (He.fAd K d_Net_init.at_) fd
  e_turned_back : ∃ fd, FunD K d_turned_back.name d_turned_back.qual d_turned_back.params d_turned_back.body d_turned_back.scope (d_turned_back.dvs K) (d_turned_back.kws K) (He.fAd K d_turned_back.at_) fd
  e_check_some : ∃ fd, FunD K d_check_some.name d_check_some.qual d_check_some.params d_check_some.body d_check_some.scope (d_check_some.dvs K) (d_check_some.kws K) (He.fAd K d_check_some.at_) fd
  e_touches : ∃ fd, FunD K d_touches.name d_touches.qual d_touches.params d_touches.body d_touches.scope (d_touches.dvs K) (d_touches.kws K) (He.fAd K d_touches.at_) fd
  e_is_siphon_at : ∃ fd, FunD K d_is_siphon_at.name d_is_siphon_at.qual d_is_siphon_at.params d_is_siphon_at.body d_is_siphon_at.scope (d_is_siphon_at.dvs K) (d_is_siphon_at.kws K) (He.fAd K d_is_siphon_at.at_) fd
  e_row_of : ∃ fd, FunD K d_row_of.name d_row_of.qual d_row_of.params d_row_of.body d_row_of.scope (d_row_of.dvs K) (d_row_of.kws K) (He.fAd K d_row_of.at_) fd
  e_rows_of : ∃ fd, FunD K d_rows_of.name d_rows_of.qual d_rows_of.params d_rows_of.body d_rows_of.scope (d_rows_of.dvs K) (d_rows_of.kws K) (He.fAd K d_rows_of.at_) fd
  e_indices : ∃ fd, FunD K d_indices.name d_indices.qual d_indices.params d_indices.body d_indices.scope (d_indices.dvs K) (d_indices.kws K) (He.fAd K d_indices.at_) fd
  e_is_siphon : ∃ fd, FunD K d_is_siphon.name d_is_siphon.qual d_is_siphon.params d_is_siphon.body d_is_siphon.scope (d_is_siphon.dvs K) (d_is_siphon.kws K) (He.fAd K d_is_siphon.at_) fd
  e_is_trap : ∃ fd, FunD K d_is_trap.name d_is_trap.qual d_is_trap.params d_is_trap.body d_is_trap.scope (d_is_trap.dvs K) (d_is_trap.kws K) (He.fAd K d_is_trap.at_) fd
  e_places_at : ∃ fd, FunD K d_places_at.name d_places_at.qual d_places_at.params d_places_at.body d_places_at.scope (d_places_at.dvs K) (d_places_at.kws K) (He.fAd K d_places_at.at_) fd
  e_greatest_at : ∃ fd, FunD K d_greatest_at.name d_greatest_at.qual d_greatest_at.params d_greatest_at.body d_greatest_at.scope (d_greatest_at.dvs K) (d_greatest_at.kws K) (He.fAd K d_greatest_at.at_) fd
  e_greatest_siphon : ∃ fd, FunD K d_greatest_siphon.name d_greatest_siphon.qual d_greatest_siphon.params d_greatest_siphon.body d_greatest_siphon.scope (d_greatest_siphon.dvs K) (d_greatest_siphon.kws K) (He.fAd K d_greatest_siphon.at_) fd
  e_greatest_trap : ∃ fd, FunD K d_greatest_trap.name d_greatest_trap.qual d_greatest_trap.params d_greatest_trap.body d_greatest_trap.scope (d_greatest_trap.dvs K) (d_greatest_trap.kws K) (He.fAd K d_greatest_trap.at_) fd
  e_changes_of : ∃ fd, FunD K d_changes_of.name d_changes_of.qual d_changes_of.params d_changes_of.body d_changes_of.scope (d_changes_of.dvs K) (d_changes_of.kws K) (He.fAd K d_changes_of.at_) fd
  e_common : ∃ fd, FunD K d_common.name d_common.qual d_common.params d_common.body d_common.scope (d_common.dvs K) (d_common.kws K) (He.fAd K d_common.at_) fd
  e_joined : ∃ fd, FunD K d_joined.name d_joined.qual d_joined.params d_joined.body d_joined.scope (d_joined.dvs K) (d_joined.kws K) (He.fAd K d_joined.at_) fd
  e_holds_within : ∃ fd, FunD K d_holds_within.name d_holds_within.qual d_holds_within.params d_holds_within.body d_holds_within.scope (d_holds_within.dvs K) (d_holds_within.kws K) (He.fAd K d_holds_within.at_) fd
  e_least_rows : ∃ fd, FunD K d_least_rows.name d_least_rows.qual d_least_rows.params d_least_rows.body d_least_rows.scope (d_least_rows.dvs K) (d_least_rows.kws K) (He.fAd K d_least_rows.at_) fd
  e_least_solutions : ∃ fd, FunD K d_least_solutions.name d_least_solutions.qual d_least_solutions.params d_least_solutions.body d_least_solutions.scope (d_least_solutions.dvs K) (d_least_solutions.kws K) (He.fAd K d_least_solutions.at_) fd
  e_place_laws : ∃ fd, FunD K d_place_laws.name d_place_laws.qual d_place_laws.params d_place_laws.body d_place_laws.scope (d_place_laws.dvs K) (d_place_laws.kws K) (He.fAd K d_place_laws.at_) fd
  e_move_laws : ∃ fd, FunD K d_move_laws.name d_move_laws.qual d_move_laws.params d_move_laws.body d_move_laws.scope (d_move_laws.dvs K) (d_move_laws.kws K) (He.fAd K d_move_laws.at_) fd
  e_subsets : ∃ fd, FunD K d_subsets.name d_subsets.qual d_subsets.params d_subsets.body d_subsets.scope (d_subsets.dvs K) (d_subsets.kws K) (He.fAd K d_subsets.at_) fd
  e_moves_at : ∃ fd, FunD K d_moves_at.name d_moves_at.qual d_moves_at.params d_moves_at.body d_moves_at.scope (d_moves_at.dvs K) (d_moves_at.kws K) (He.fAd K d_moves_at.at_) fd
  e_come_from : ∃ fd, FunD K d_come_from.name d_come_from.qual d_come_from.params d_come_from.body d_come_from.scope (d_come_from.dvs K) (d_come_from.kws K) (He.fAd K d_come_from.at_) fd
  e_is_machine_part : ∃ fd, FunD K d_is_machine_part.name d_is_machine_part.qual d_is_machine_part.params d_is_machine_part.body d_is_machine_part.scope (d_is_machine_part.dvs K) (d_is_machine_part.kws K) (He.fAd K d_is_machine_part.at_) fd
  e_named : ∃ fd, FunD K d_named.name d_named.qual d_named.params d_named.body d_named.scope (d_named.dvs K) (d_named.kws K) (He.fAd K d_named.at_) fd
  e_machine_parts : ∃ fd, FunD K d_machine_parts.name d_machine_parts.qual d_machine_parts.params d_machine_parts.body d_machine_parts.scope (d_machine_parts.dvs K) (d_machine_parts.kws K) (He.fAd K d_machine_parts.at_) fd
  e_rank_of : ∃ fd, FunD K d_rank_of.name d_rank_of.qual d_rank_of.params d_rank_of.body d_rank_of.scope (d_rank_of.dvs K) (d_rank_of.kws K) (He.fAd K d_rank_of.at_) fd
  e_check_mark : ∃ fd, FunD K d_check_mark.name d_check_mark.qual d_check_mark.params d_check_mark.body d_check_mark.scope (d_check_mark.dvs K) (d_check_mark.kws K) (He.fAd K d_check_mark.at_) fd
  e_is_enough : ∃ fd, FunD K d_is_enough.name d_is_enough.qual d_is_enough.params d_is_enough.body d_is_enough.scope (d_is_enough.dvs K) (d_is_enough.kws K) (He.fAd K d_is_enough.at_) fd
  e_moved : ∃ fd, FunD K d_moved.name d_moved.qual d_moved.params d_moved.body d_moved.scope (d_moved.dvs K) (d_moved.kws K) (He.fAd K d_moved.at_) fd
  e_explored : ∃ fd, FunD K d_explored.name d_explored.qual d_explored.params d_explored.body d_explored.scope (d_explored.dvs K) (d_explored.kws K) (He.fAd K d_explored.at_) fd
  e_reached : ∃ fd, FunD K d_reached.name d_reached.qual d_reached.params d_reached.body d_reached.scope (d_reached.dvs K) (d_reached.kws K) (He.fAd K d_reached.at_) fd
  e_word_to : ∃ fd, FunD K d_word_to.name d_word_to.qual d_word_to.params d_word_to.body d_word_to.scope (d_word_to.dvs K) (d_word_to.kws K) (He.fAd K d_word_to.at_) fd
  e_way : ∃ fd, FunD K d_way.name d_way.qual d_way.params d_way.body d_way.scope (d_way.dvs K) (d_way.kws K) (He.fAd K d_way.at_) fd
  e_found_move : ∃ fd, FunD K d_found_move.name d_found_move.qual d_found_move.params d_found_move.body d_found_move.scope (d_found_move.dvs K) (d_found_move.kws K) (He.fAd K d_found_move.at_) fd
  e_run : ∃ fd, FunD K d_run.name d_run.qual d_run.params d_run.body d_run.scope (d_run.dvs K) (d_run.kws K) (He.fAd K d_run.at_) fd
  e_law : ∃ fd, FunD K d_law.name d_law.qual d_law.params d_law.body d_law.scope (d_law.dvs K) (d_law.kws K) (He.fAd K d_law.at_) fd
  t_is_name : TabB base mg (He.codeOf K d_is_name.at_) (He.cT K d_is_name.at_).2
  t_touches : TabB base mg (He.codeOf K d_touches.at_) (He.cT K d_touches.at_).2
  t_is_siphon_at : TabB base mg (He.codeOf K d_is_siphon_at.at_) (He.cT K d_is_siphon_at.at_).2
  t_holds_within : TabB base mg (He.codeOf K d_holds_within.at_) (He.cT K d_holds_within.at_).2
  t_moves_at : TabB base mg (He.codeOf K d_moves_at.at_) (He.cT K d_moves_at.at_).2
  t_is_machine_part : TabB base mg (He.codeOf K d_is_machine_part.at_) (He.cT K d_is_machine_part.at_).2
  t_is_enough : TabB base mg (He.codeOf K d_is_enough.at_) (He.cT K d_is_enough.at_).2
  t_subsets : TabB base mg (He.codeOf K d_subsets.at_) (He.cT K d_subsets.at_).2
abbrev T_is_name : Nat := 0
abbrev T_touches : Nat := 1
abbrev T_is_siphon_at : Nat := 2
abbrev T_holds_within : Nat := 3
abbrev T_moves_at : Nat := 4
abbrev T_is_machine_part : Nat := 5
abbrev T_is_enough : Nat := 6
abbrev L_subsets : Nat := 0
theorem tab_mem {K : PySem.W.Frag} {o : Option Addr} (i : Nat) {p : He.Defn} (h : tg[i]? = some p) : (He.cT K p).2 ∈ (WM K o).tabs := List.mem_map.mpr ⟨p, List.mem_of_getElem? h, rfl⟩
theorem lam_mem {K : PySem.W.Frag} {o : Option Addr} (i : Nat) {p : He.Defn × Str} (h : tl[i]? = some p) : ((He.cT K p.1).2, p.2) ∈ (WM K o).lams := List.mem_map.mpr ⟨p, List.mem_of_getElem? h, rfl⟩
section
variable {P : Program} {w : World} {K : PySem.W.Frag} {mg : Str → Option Value} {base : Heap}
theorem sc__law_draws : FnScope ["cell", "count", "result", "rest", "k", "mixed"] ["cell", "count"] (defScope s__law_draws) := ⟨rfl, rfl, rfl, by decide, rfl, by decide, by decide⟩
theorem V__law_draws (C : FC P w K mg base) (o : Option Addr) : DefV P w K mg base (WM K o) "_law_draws" 1 g__law_draws := by
  obtain ⟨fd, F⟩ := C.e__law_draws
  exact ⟨⟨_, fd, _, fnV (M := WM K o) F sc__law_draws (fun A outer s H E hr =>
  (css_cons (s_own 2 sc__law_draws.nd (oe_lst (va_nil)))
  (css_cons (s_set 3 sc__law_draws.nd (v_int C.f_int (re_var (pvv 0))))
  (css_cons (s_for PassesOwn.never rfl (w_r1 C.f_range (re_var (pvv 1))) (g_name 4 sc__law_draws.nd) (css_cons (s_set 5 sc__law_draws.nd (ve_op op_mod od_mod (VE.re (v_int C.f_int (VE.re (ve_opS op_addV os_add (ve_opS op_addV os_add (ve_op op_mul od_mul (re_var (pvv 0)) (VE.re (ve_int))) (ve_op op_mul od_mul (re_var (pvv 4)) (VE.re (ve_int)))) (ve_int))))) (VE.re (ve_int))))
  (css_one (cs_if (ct_two op_ge od_ge rfl (re_var (pvv 0)) (VE.re (ve_op op_pow od_pow (VE.re (ve_int)) (VE.re (ve_int))))) (css_cons (cs_app (pvv 2) (ve_op op_mod od_mod (re_var (pvv 3)) (VE.re (ve_int))))
  (css_one (s_set 3 sc__law_draws.nd (ve_op op_fdiv od_fdiv (re_var (pvv 3)) (VE.re (ve_int)))))) (css_one (cs_app (pvv 2) (ve_op op_fdiv od_fdiv (VE.re (ve_op op_mod od_mod (VE.re (v_int C.f_int (VE.re (ve_opS op_addV os_add (ve_op op_mul od_mul (re_var (pvv 5)) (re_var (pvv 5))) (ve_op op_mul od_mul (re_var (pvv 5)) (VE.re (ve_int))))))) (VE.re (ve_int)))) (VE.re (ve_int)))))))))
  (css_one (cs_frz [2] (cs_ret (v_var 2 (pvv 2))))))))), C.g__law_draws, F.kp, F.bindsN fun _ _ _ _ _ _ us hl => match us, hl with | [_, _], _ => rfl⟩⟩
theorem sc__law_side : FnScope ["n", "at", "places", "side", "k", "drawn"] ["n", "at", "places"] (defScope s__law_side) := ⟨rfl, rfl, rfl, by decide, rfl, by decide, by decide⟩
theorem V__law_side (C : FC P w K mg base) (o : Option Addr) : DefV P w K mg base (WM K o) "_law_side" 1 g__law_side := by
  obtain ⟨fd, F⟩ := C.e__law_side
  exact ⟨⟨_, fd, _, fnV (M := WM K o) F sc__law_side (fun A outer s H E hr =>
  (css_cons (s_own 3 sc__law_side.nd (oe_lst (va_nil)))
  (css_cons (s_for PassesOwn.never rfl (w_r1 C.f_range (VE.re (v_len C.f_len (re_var (pvv 2))))) (g_name 4 sc__law_side.nd) (css_cons (s_set 5 sc__law_side.nd (ve_op op_mod od_mod (VE.re (v_get (room1 hr) (ie_var (pvv 0)) (VE.re (ve_op op_mod od_mod (VE.re (ve_opS op_addV os_add (v_var 1 (pvv 1)) (v_var 4 (pvv 4)))) (VE.re (v_len C.f_len (re_var (pvv 0)))))))) (VE.re (ve_int))))
  (css_one (cs_if (ct_two op_gt od_gt rfl (re_var (pvv 5)) (VE.re (ve_int))) (css_one (cs_app (pvv 3) (ve_tup (va_cons (v_get (room1 hr) (ie_var (pvv 2)) (re_var (pvv 4))) (va_cons (ve_if (CW.ct (cw_and (ct_two (op_eqV (room64 hr)) od_eq rfl (re_var (pvv 5)) (VE.re (ve_int))) (cw_and1 (ct_two op_lt od_lt rfl (VE.re (v_len C.f_len (re_var (pvv 2)))) (VE.re (ve_int)))))) (ve_int) (ve_int)) (va_nil)))))) (css_nil)))))
  (css_one (cs_ret (v_tuple C.f_tuple (ie_var (pvv 3)))))))), C.g__law_side, F.kp, F.bindsN fun _ _ _ _ _ _ us hl => match us, hl with | [_, _, _], _ => rfl⟩⟩
theorem sc__law_shifted : FnScope ["side", "places", "by", "moved_v", "result", "place", "weight", "pair"] ["side", "places", "by"] (defScope s__law_shifted) := ⟨rfl, rfl, rfl, by decide, rfl, by decide, by decide⟩
theorem V__law_shifted (C : FC P w K mg base) (o : Option Addr) : DefV P w K mg base (WM K o) "_law_shifted" 1 g__law_shifted := by
  obtain ⟨fd, F⟩ := C.e__law_shifted
  exact ⟨⟨_, fd, _, fnV (M := WM K o) F sc__law_shifted (fun A outer s H E hr =>
  (css_cons (cs_setLc (i := 3) rfl sc__law_shifted.nd rfl rfl rfl (by exact w_g (v_var 0 (pvv 0))) (blkOk_by (own := [("place", 5), ("weight", 6)]) rfl) (fun i => by exact cg_tup rfl (g_cons (g_name 5 sc__law_shifted.nd) (g_cons (g_name 6 sc__law_shifted.nd) (cgs_nil)))) (fun i => by exact cts_nil) (fun i => by exact ve_tup (va_cons (v_get (room1 hr) (ie_var (pvv 1)) (VE.re (ve_op op_mod od_mod (VE.re (ve_opS op_addV os_add (v_index (room65 hr) (re_var (pvv 1)) (re_var (pvv 5))) (v_var 2 (pvv 2)))) (VE.re (v_len C.f_len (re_var (pvv 1))))))) (va_cons (v_var 6 (pvv 6)) (va_nil)))) (by decide))
  (css_cons (s_set 4 sc__law_shifted.nd (OE.ve (oe_lst (va_nil))))
  (css_cons (s_for PassesOwn.never rfl (w_s (v_var 1 (pvv 1))) (g_name 5 sc__law_shifted.nd) (css_one (s_set 4 sc__law_shifted.nd (ve_opS op_addV os_add (v_var 4 (pvv 4)) (OE.ve (oe_lc rfl sc__law_shifted.nd (by exact w_g (v_var 3 (pvv 3))) (blkOk_by (own := [("pair", 7)]) rfl) (fun i => by exact g_name 7 sc__law_shifted.nd) (fun i => by exact cts_one (ct_two (op_eqV (room64 hr)) od_eq rfl (VE.re (v_get (room1 hr) (ie_var (pvv 7)) (VE.re (ve_int)))) (re_var (pvv 5)))) (fun i => by exact v_var 7 (pvv 7)) (by decide)))))))
  (css_one (cs_ret (v_tuple C.f_tuple (ie_var (pvv 4))))))))), C.g__law_shifted, F.kp, F.bindsN fun _ _ _ _ _ _ us hl => match us, hl with | [_, _, _], _ => rfl⟩⟩
theorem sc__law_net : FnScope ["cell", "n", "places", "moves", "k", "takes", "gives"] ["cell"] (defScope s__law_net) := ⟨rfl, rfl, rfl, by decide, rfl, by decide, by decide⟩
theorem V__law_net (C : FC P w K mg base) (o : Option Addr) : DefV P w K mg base (WM K o) "_law_net" 2 g__law_net := by
  obtain ⟨fd, F⟩ := C.e__law_net
  exact ⟨⟨_, fd, _, fnV (M := WM K o) F sc__law_net (fun A outer s H E hr =>
  (css_cons (s_set 1 sc__law_net.nd (v_cal (V__law_draws C o) hr (va_cons (v_var 0 (pvv 0)) (va_cons (ve_int) (va_nil)))))
  (css_cons (s_set 2 sc__law_net.nd (ve_take (v_get (room1 hr) (VE.ie (ve_tup (va_cons (ve_tup (va_cons (ve_str (by rfl)) (va_cons (ve_str (by rfl)) (va_cons (ve_str (by rfl)) (va_cons (ve_str (by rfl)) (va_nil)))))) (va_cons (ve_tup (va_cons (ve_str (by rfl)) (va_cons (ve_str (by rfl)) (va_cons (ve_str (by rfl)) (va_cons (ve_str (by rfl)) (va_nil)))))) (va_nil))))) (VE.re (ve_op op_mod od_mod (VE.re (v_get (room1 hr) (ie_var (pvv 1)) (VE.re (ve_int)))) (VE.re (ve_int))))) (VE.re (ve_opS op_addV os_add (ve_op op_mod od_mod (VE.re (v_get (room1 hr) (ie_var (pvv 1)) (VE.re (ve_int)))) (VE.re (ve_int))) (ve_int)))))
  (css_cons (s_own 3 sc__law_net.nd (oe_lst (va_nil)))
  (css_cons (s_for PassesOwn.never rfl (w_r1 C.f_range (VE.re (ve_opS op_addV os_add (ve_op op_mod od_mod (VE.re (v_get (room1 hr) (ie_var (pvv 1)) (VE.re (ve_int)))) (VE.re (ve_int))) (ve_int)))) (g_name 4 sc__law_net.nd) (css_cons (s_set 5 sc__law_net.nd (v_cal (V__law_side C o) hr (va_cons (v_var 1 (pvv 1)) (va_cons (ve_opS op_addV os_add (ve_int) (ve_op op_mul od_mul (VE.re (ve_int)) (re_var (pvv 4)))) (va_cons (v_var 2 (pvv 2)) (va_nil))))))
  (css_cons (s_set 6 sc__law_net.nd (v_cal (V__law_side C o) hr (va_cons (v_var 1 (pvv 1)) (va_cons (ve_opS op_addV os_add (ve_int) (ve_op op_mul od_mul (VE.re (ve_int)) (re_var (pvv 4)))) (va_cons (v_var 2 (pvv 2)) (va_nil))))))
  (css_cons (cs_if (ct_two (op_eqV (room64 hr)) od_eq rfl (VE.re (ve_op op_mod od_mod (VE.re (v_get (room1 hr) (ie_var (pvv 1)) (VE.re (ve_int)))) (VE.re (ve_int)))) (VE.re (ve_int))) (css_one (s_set 6 sc__law_net.nd (v_cal (V__law_shifted C o) hr (va_cons (v_var 5 (pvv 5)) (va_cons (v_var 2 (pvv 2)) (va_cons (ve_op op_mod od_mod (VE.re (v_get (room1 hr) (ie_var (pvv 1)) (VE.re (ve_op op_mod od_mod (VE.re (ve_opS op_addV os_add (ve_int) (v_var 4 (pvv 4)))) (VE.re (ve_int)))))) (VE.re (v_len C.f_len (re_var (pvv 2))))) (va_nil))))))) (css_nil))
  (css_one (cs_app (pvv 3) (ve_tup (va_cons (v_get (room1 hr) (VE.ie (v_get (room1 hr) (VE.ie (ve_tup (va_cons (ve_tup (va_cons (ve_str (by rfl)) (va_cons (ve_str (by rfl)) (va_cons (ve_str (by rfl)) (va_cons (ve_str (by rfl)) (va_nil)))))) (va_cons (ve_tup (va_cons (ve_str (by rfl)) (va_cons (ve_str (by rfl)) (va_cons (ve_str (by rfl)) (va_cons (ve_str (by rfl)) (va_nil)))))) (va_nil))))) (VE.re (ve_op op_mod od_mod (VE.re (v_get (room1 hr) (ie_var (pvv 1)) (VE.re (ve_int)))) (VE.re (ve_int)))))) (re_var (pvv 4))) (va_cons (v_var 5 (pvv 5)) (va_cons (v_var 6 (pvv 6)) (va_nil)))))))))))
  (css_one (cs_ret (ve_tup (va_cons (v_var 2 (pvv 2)) (va_cons (v_tuple C.f_tuple (ie_var (pvv 3))) (va_nil))))))))))), C.g__law_net, F.kp, F.bindsN fun _ _ _ _ _ _ us hl => match us, hl with | [_], _ => rfl⟩⟩
theorem sc__law_cell : FnScope ["script", "k"] ["script", "k"] (defScope s__law_cell) := ⟨rfl, rfl, rfl, by decide, rfl, by decide, by decide⟩
theorem V__law_cell (C : FC P w K mg base) (o : Option Addr) : DefV P w K mg base (WM K o) "_law_cell" 1 g__law_cell := by
  obtain ⟨fd, F⟩ := C.e__law_cell
  exact ⟨⟨_, fd, _, fnV (M := WM K o) F sc__law_cell (fun A outer s H E hr =>
  (css_cons (cs_if (ct_two op_lt od_lt rfl (re_var (pvv 1)) (VE.re (v_len C.f_len (re_var (pvv 0))))) (css_one (cs_ret (v_get (room1 hr) (ie_var (pvv 0)) (re_var (pvv 1))))) (css_nil))
  (css_one (cs_ret (ve_int))))), C.g__law_cell, F.kp, F.bindsN fun _ _ _ _ _ _ us hl => match us, hl with | [_, _], _ => rfl⟩⟩
theorem sc__law_mark : FnScope ["cell", "many", "n", "k"] ["cell", "many"] (defScope s__law_mark) := ⟨rfl, rfl, rfl, by decide, rfl, by decide, by decide⟩
theorem V__law_mark (C : FC P w K mg base) (o : Option Addr) : DefV P w K mg base (WM K o) "_law_mark" 2 g__law_mark := by
  obtain ⟨fd, F⟩ := C.e__law_mark
  exact ⟨⟨_, fd, _, fnV (M := WM K o) F sc__law_mark (fun A outer s H E hr =>
  (css_cons (s_set 2 sc__law_mark.nd (v_cal (V__law_draws C o) hr (va_cons (v_var 0 (pvv 0)) (va_cons (ve_int) (va_nil)))))
  (css_one (cs_ret (v_tuple C.f_tuple (VE.ie (OE.ve (oe_lc rfl sc__law_mark.nd (by exact CWs.g (w_r1 C.f_range (re_var (pvv 1)))) (blkOk_by (own := [("k", 3)]) rfl) (fun i => by exact g_name 3 sc__law_mark.nd) (fun i => by exact cts_nil) (fun i => by exact ve_op op_mod od_mod (VE.re (v_get (room1 hr) (ie_var (pvv 2)) (re_var (pvv 3)))) (VE.re (ve_if (ct_two op_lt od_lt rfl (re_var (pvv 1)) (VE.re (ve_int))) (ve_int) (ve_int)))) (by decide))))))))), C.g__law_mark, F.kp, F.bindsN fun _ _ _ _ _ _ us hl => match us, hl with | [_, _], _ => rfl⟩⟩
theorem sc__law_enough : FnScope ["mark", "takes", "k"] ["mark", "takes"] (defScope s__law_enough) := ⟨rfl, rfl, rfl, by decide, rfl, by decide, by decide⟩
theorem V__law_enough (C : FC P w K mg base) (o : Option Addr) : DefV P w K mg base (WM K o) "_law_enough" 1 g__law_enough := by
  obtain ⟨fd, F⟩ := C.e__law_enough
  exact ⟨⟨_, fd, _, fnV (M := WM K o) F sc__law_enough (fun A outer s H E hr =>
  (css_one (cs_ret (ve_cmp (op_eqV (room64 hr)) od_eq rfl (VE.re (v_len C.f_len (VE.re (OE.ve (oe_lc rfl sc__law_enough.nd (by exact CWs.g (w_r1 C.f_range (VE.re (v_len C.f_len (re_var (pvv 0)))))) (blkOk_by (own := [("k", 2)]) rfl) (fun i => by exact g_name 2 sc__law_enough.nd) (fun i => by exact cts_one (ct_two op_lt od_lt rfl (VE.re (v_get (room1 hr) (ie_var (pvv 0)) (re_var (pvv 2)))) (VE.re (v_get (room1 hr) (ie_var (pvv 1)) (re_var (pvv 2)))))) (fun i => by exact v_var 2 (pvv 2)) (by decide)))))) (VE.re (ve_int)))))), C.g__law_enough, F.kp, F.bindsN fun _ _ _ _ _ _ us hl => match us, hl with | [_, _], _ => rfl⟩⟩
theorem sc__law_behind : FnScope ["mark", "takes", "gives", "k"] ["mark", "takes", "gives"] (defScope s__law_behind) := ⟨rfl, rfl, rfl, by decide, rfl, by decide, by decide⟩
theorem V__law_behind (C : FC P w K mg base) (o : Option Addr) : DefV P w K mg base (WM K o) "_law_behind" 1 g__law_behind := by
  obtain ⟨fd, F⟩ := C.e__law_behind
  exact ⟨⟨_, fd, _, fnV (M := WM K o) F sc__law_behind (fun A outer s H E hr =>
  (css_one (cs_ret (v_tuple C.f_tuple (VE.ie (OE.ve (oe_lc rfl sc__law_behind.nd (by exact CWs.g (w_r1 C.f_range (VE.re (v_len C.f_len (re_var (pvv 0)))))) (blkOk_by (own := [("k", 3)]) rfl) (fun i => by exact g_name 3 sc__law_behind.nd) (fun i => by exact cts_nil) (fun i => by exact ve_opS op_addV os_add (ve_op op_sub od_sub (VE.re (v_get (room1 hr) (ie_var (pvv 0)) (re_var (pvv 3)))) (VE.re (v_get (room1 hr) (ie_var (pvv 1)) (re_var (pvv 3))))) (v_get (room1 hr) (ie_var (pvv 2)) (re_var (pvv 3)))) (by decide)))))))), C.g__law_behind, F.kp, F.bindsN fun _ _ _ _ _ _ us hl => match us, hl with | [_, _, _], _ => rfl⟩⟩
theorem sc__law_reached : FnScope ["rows", "mark", "most", "marks", "steps", "at", "name", "takes", "gives", "behind"] ["rows", "mark", "most"] (defScope s__law_reached) := ⟨rfl, rfl, rfl, by decide, rfl, by decide, by decide⟩
theorem V__law_reached (C : FC P w K mg base) (o : Option Addr) : DefV P w K mg base (WM K o) "_law_reached" 2 g__law_reached := by
  obtain ⟨fd, F⟩ := C.e__law_reached
  exact ⟨⟨_, fd, _, fnV (M := WM K o) F sc__law_reached (fun A outer s H E hr =>
  (css_cons (s_own 3 sc__law_reached.nd (oe_lst (va_cons (v_var 1 (pvv 1)) (va_nil))))
  (css_cons (s_own 4 sc__law_reached.nd (oe_lst (va_nil)))
  (css_cons (s_set 5 sc__law_reached.nd (ve_int))
  (css_cons (cs_while PassesOwn.never (ct_two op_lt od_lt rfl (re_var (pvv 5)) (VE.re (v_len C.f_len (re_var (pvv 3))))) (css_cons (s_for PassesOwn.never rfl (w_s (v_var 0 (pvv 0))) (cg_tup rfl (g_cons (g_name 6 sc__law_reached.nd) (g_cons (g_name 7 sc__law_reached.nd) (g_cons (g_name 8 sc__law_reached.nd) (cgs_nil))))) (css_one (cs_if (ct_val (VE.re (v_cal (V__law_enough C o) hr (va_cons (v_get (room1 hr) (ie_var (pvv 3)) (re_var (pvv 5))) (va_cons (v_var 7 (pvv 7)) (va_nil)))))) (css_cons (s_set 9 sc__law_reached.nd (v_cal (V__law_behind C o) hr (va_cons (v_get (room1 hr) (ie_var (pvv 3)) (re_var (pvv 5))) (va_cons (v_var 7 (pvv 7)) (va_cons (v_var 8 (pvv 8)) (va_nil))))))
  (css_cons (cs_if (ct_two (op_hasnt (room65 hr)) od_has rfl (re_var (pvv 9)) (re_var (pvv 3))) (css_cons (cs_if (ct_two op_ge od_ge rfl (VE.re (v_len C.f_len (re_var (pvv 3)))) (re_var (pvv 2))) (css_one (cs_ret (ve_non))) (css_nil))
  (css_one (cs_app (pvv 3) (v_var 9 (pvv 9))))) (css_nil))
  (css_one (cs_app (pvv 4) (ve_tup (va_cons (v_var 5 (pvv 5)) (va_cons (v_var 6 (pvv 6)) (va_cons (v_index (room65 hr) (re_var (pvv 3)) (re_var (pvv 9))) (va_nil))))))))) (css_nil))))
  (css_one (s_set 5 sc__law_reached.nd (ve_opS op_addV os_add (v_var 5 (pvv 5)) (ve_int))))))
  (css_one (cs_frz [3, 4] (cs_ret (ve_tup (va_cons (v_var 3 (pvv 3)) (va_cons (v_var 4 (pvv 4)) (va_nil)))))))))))), C.g__law_reached, F.kp, F.bindsN fun _ _ _ _ _ _ us hl => match us, hl with | [_, _, _], _ => rfl⟩⟩
theorem sc__law_row : FnScope ["places", "side", "row", "place", "weight"] ["places", "side"] (defScope s__law_row) := ⟨rfl, rfl, rfl, by decide, rfl, by decide, by decide⟩
theorem V__law_row (C : FC P w K mg base) (o : Option Addr) : DefV P w K mg base (WM K o) "_law_row" 1 g__law_row := by
  obtain ⟨fd, F⟩ := C.e__law_row
  exact ⟨⟨_, fd, _, fnV (M := WM K o) F sc__law_row (fun A outer s H E hr =>
  (css_cons (cs_ownLc (i := 2) rfl sc__law_row.nd rfl rfl rfl (by exact w_g (v_var 0 (pvv 0))) (blkOk_by (own := [("place", 3)]) rfl) (fun i => by exact g_name 3 sc__law_row.nd) (fun i => by exact cts_nil) (fun i => by exact ve_int) (by decide))
  (css_cons (s_for PassesOwn.never rfl (w_s (v_var 1 (pvv 1))) (cg_tup rfl (g_cons (g_name 3 sc__law_row.nd) (g_cons (g_name 4 sc__law_row.nd) (cgs_nil)))) (css_one (cs_put (pvv 2) (VE.re (v_index (room65 hr) (re_var (pvv 0)) (re_var (pvv 3)))) (v_var 4 (pvv 4)))))
  (css_one (cs_ret (v_tuple C.f_tuple (ie_var (pvv 2)))))))), C.g__law_row, F.kp, F.bindsN fun _ _ _ _ _ _ us hl => match us, hl with | [_, _], _ => rfl⟩⟩
theorem sc__law_rows : FnScope ["places", "moves", "name", "takes", "gives"] ["places", "moves"] (defScope s__law_rows) := ⟨rfl, rfl, rfl, by decide, rfl, by decide, by decide⟩
theorem V__law_rows (C : FC P w K mg base) (o : Option Addr) : DefV P w K mg base (WM K o) "_law_rows" 2 g__law_rows := by
  obtain ⟨fd, F⟩ := C.e__law_rows
  exact ⟨⟨_, fd, _, fnV (M := WM K o) F sc__law_rows (fun A outer s H E hr =>
  (css_one (cs_ret (OE.ve (oe_lc rfl sc__law_rows.nd (by exact w_g (v_var 1 (pvv 1))) (blkOk_by (own := [("name", 2), ("takes", 3), ("gives", 4)]) rfl) (fun i => by exact cg_tup rfl (g_cons (g_name 2 sc__law_rows.nd) (g_cons (g_name 3 sc__law_rows.nd) (g_cons (g_name 4 sc__law_rows.nd) (cgs_nil))))) (fun i => by exact cts_nil) (fun i => by exact ve_tup (va_cons (v_var 2 (pvv 2)) (va_cons (v_cal (V__law_row C o) hr (va_cons (v_var 0 (pvv 0)) (va_cons (v_var 3 (pvv 3)) (va_nil)))) (va_cons (v_cal (V__law_row C o) hr (va_cons (v_var 0 (pvv 0)) (va_cons (v_var 4 (pvv 4)) (va_nil)))) (va_nil))))) (by decide)))))), C.g__law_rows, F.kp, F.bindsN fun _ _ _ _ _ _ us hl => match us, hl with | [_, _], _ => rfl⟩⟩
theorem sc_is_name : FnScope ["value", "sign"] ["value"] (defScope s_is_name) := ⟨rfl, rfl, rfl, by decide, rfl, by decide, by decide⟩
theorem V_is_name (C : FC P w K mg base) (o : Option Addr) : DefV P w K mg base (WM K o) "is_name" 2 g_is_name := by
  obtain ⟨fd, F⟩ := C.e_is_name
  exact ⟨⟨_, fd, _, fnV (M := WM K o) F sc_is_name (fun A outer s H E hr =>
  (css_cons (cs_if (CW.ct (cw_or (ct_not (ct_val (VE.re (v_isT (T := "str") (by decide) C.f_isinstance C.f_str PyProof.Rows.boot_str (re_var (pvv 0)))))) (cw_or (ct_two op_lt od_lt rfl (VE.re (v_len C.f_len (re_var (pvv 0)))) (VE.re (ve_int))) (cw_or (ct_two op_gt od_gt rfl (VE.re (v_len C.f_len (re_var (pvv 0)))) (VE.re (ve_int))) (cw_or1 (ct_two (op_hasnt (room65 hr)) od_has rfl (VE.re (v_get (room1 hr) (ie_var (pvv 0)) (VE.re (ve_int)))) (VE.re (v_gstr C.s_LETTERS (by rfl))))))))) (css_one (cs_ret (ve_bl))) (css_nil))
  (css_one (cs_ret (ve_all (k := 0) (hr.mono (by decide)) rfl C.f_all C.t_is_name rfl rfl sc_is_name.nd (tab_mem T_is_name rfl) (by exact w_g (v_var 0 (pvv 0))) ⟨blkOk_by (own := [("sign", 1)]) rfl, rfl, by decide, rfl⟩ (fun i => by exact g_name 1 sc_is_name.nd) (fun i => by exact ve_cmp (op_has (room65 i.2)) od_has rfl (re_var (pvv 1)) (VE.re (v_gstr C.s_SIGNS (by rfl)))) (by decide)))))), C.g_is_name, F.kp, F.bindsN fun _ _ _ _ _ _ us hl => match us, hl with | [_], _ => rfl⟩⟩
theorem sc_is_number : FnScope ["value", "low"] ["value", "low"] (defScope s_is_number) := ⟨rfl, rfl, rfl, by decide, rfl, by decide, by decide⟩
theorem V_is_number (C : FC P w K mg base) (o : Option Addr) : DefV P w K mg base (WM K o) "is_number" 1 g_is_number := by
  obtain ⟨fd, F⟩ := C.e_is_number
  exact ⟨⟨_, fd, _, fnV (M := WM K o) F sc_is_number (fun A outer s H E hr =>
  (css_one (cs_ret (ve_and (VE.re (v_isT (T := "int") (by decide) C.f_isinstance C.f_int PyProof.Rows.boot_int (re_var (pvv 0)))) (ve_and (VE.re (ve_isntB (re_var (pvv 0)))) (ve_and (VE.re (ve_isntB (re_var (pvv 0)))) (ve_one (ve_cmp op_ge od_ge rfl (re_var (pvv 0)) (re_var (pvv 1)))))))))), C.g_is_number, F.kp, F.bindsN fun _ _ _ _ _ _ us hl => match us, hl with | [_, _], _ => rfl⟩⟩
theorem sc_is_side : FnScope ["places", "side", "last", "pair", "at"] ["places", "side"] (defScope s_is_side) := ⟨rfl, rfl, rfl, by decide, rfl, by decide, by decide⟩
theorem V_is_side (C : FC P w K mg base) (o : Option Addr) : DefV P w K mg base (WM K o) "is_side" 3 g_is_side := by
  obtain ⟨fd, F⟩ := C.e_is_side
  exact ⟨⟨_, fd, _, fnV (M := WM K o) F sc_is_side (fun A outer s H E hr =>
  (css_cons (cs_if (ct_not (ct_val (VE.re (v_isT (T := "tuple") (by decide) C.f_isinstance C.f_tuple PyProof.Rows.boot_tuple (re_var (pvv 1)))))) (css_one (cs_ret (ve_bl))) (css_nil))
  (css_cons (s_set 2 sc_is_side.nd (ve_un un_neg ud_neg (VE.re (ve_int))))
  (css_cons (s_for PassesOwn.never rfl (w_s (v_var 1 (pvv 1))) (g_name 3 sc_is_side.nd) (css_cons (cs_if (CW.ct (cw_or (ct_not (ct_val (VE.re (v_isT (T := "tuple") (by decide) C.f_isinstance C.f_tuple PyProof.Rows.boot_tuple (re_var (pvv 3)))))) (cw_or (ct_two (op_neV (room64 hr)) od_ne rfl (VE.re (v_len C.f_len (re_var (pvv 3)))) (VE.re (ve_int))) (cw_or (ct_not (ct_val (VE.re (v_cal (V_is_name C o) hr (va_cons (v_get (room1 hr) (ie_var (pvv 3)) (VE.re (ve_int))) (va_nil)))))) (cw_or1 (ct_two (op_hasnt (room65 hr)) od_has rfl (VE.re (v_get (room1 hr) (ie_var (pvv 3)) (VE.re (ve_int)))) (re_var (pvv 0)))))))) (css_one (cs_ret (ve_bl))) (css_nil))
  (css_cons (s_set 4 sc_is_side.nd (v_index (room65 hr) (re_var (pvv 0)) (VE.re (v_get (room1 hr) (ie_var (pvv 3)) (VE.re (ve_int))))))
  (css_cons (cs_if (CW.ct (cw_or (ct_two op_le od_le rfl (re_var (pvv 4)) (re_var (pvv 2))) (cw_or (ct_not (ct_val (VE.re (v_cal (V_is_number C o) hr (va_cons (v_get (room1 hr) (ie_var (pvv 3)) (VE.re (ve_int))) (va_cons (ve_int) (va_nil))))))) (cw_or1 (ct_two op_gt od_gt rfl (VE.re (v_get (room1 hr) (ie_var (pvv 3)) (VE.re (ve_int)))) (VE.re (v_gint C.i_MOST_WEIGHT))))))) (css_one (cs_ret (ve_bl))) (css_nil))
  (css_one (s_set 2 sc_is_side.nd (v_var 4 (pvv 4))))))))
  (css_one (cs_ret (ve_bl))))))), C.g_is_side, F.kp, F.bindsN fun _ _ _ _ _ _ us hl => match us, hl with | [_, _], _ => rfl⟩⟩
theorem sc_is_move : FnScope ["places", "move"] ["places", "move"] (defScope s_is_move) := ⟨rfl, rfl, rfl, by decide, rfl, by decide, by decide⟩
theorem V_is_move (C : FC P w K mg base) (o : Option Addr) : DefV P w K mg base (WM K o) "is_move" 4 g_is_move := by
  obtain ⟨fd, F⟩ := C.e_is_move
  exact ⟨⟨_, fd, _, fnV (M := WM K o) F sc_is_move (fun A outer s H E hr =>
  (css_cons (cs_if (CW.ct (cw_or (ct_not (ct_val (VE.re (v_isT (T := "tuple") (by decide) C.f_isinstance C.f_tuple PyProof.Rows.boot_tuple (re_var (pvv 1)))))) (cw_or (ct_two (op_neV (room64 hr)) od_ne rfl (VE.re (v_len C.f_len (re_var (pvv 1)))) (VE.re (ve_int))) (cw_or1 (ct_not (ct_val (VE.re (v_cal (V_is_name C o) hr (va_cons (v_get (room1 hr) (ie_var (pvv 1)) (VE.re (ve_int))) (va_nil)))))))))) (css_one (cs_ret (ve_bl))) (css_nil))
  (css_one (cs_ret (ve_and (VE.re (v_cal (V_is_side C o) hr (va_cons (v_var 0 (pvv 0)) (va_cons (v_get (room1 hr) (ie_var (pvv 1)) (VE.re (ve_int))) (va_nil))))) (ve_one (v_cal (V_is_side C o) hr (va_cons (v_var 0 (pvv 0)) (va_cons (v_get (room1 hr) (ie_var (pvv 1)) (VE.re (ve_int))) (va_nil)))))))))), C.g_is_move, F.kp, F.bindsN fun _ _ _ _ _ _ us hl => match us, hl with | [_, _], _ => rfl⟩⟩
theorem sc_Net_init : FnScope ["self", "places", "moves", "names", "place", "move"] ["self", "places", "moves"] (defScope s_Net_init) := ⟨rfl, rfl, rfl, by decide, rfl, by decide, by decide⟩
theorem V_Net_init (C : FC P w K mg base) (o : Option Addr) : ClsV P w K mg base (WM K o) "Net" 5 0 g_Net_init := by
  obtain ⟨fd, F⟩ := C.e_Net_init
  exact ⟨⟨_, fd, _, fnVI (M := WM K o) (c := 0) F sc_Net_init (fun x A outer s H E hr =>
  have o : Option Addr := some x
  (css_cons (cs_if (CW.ct (cw_or (ct_not (ct_val (VE.re (v_isT (T := "tuple") (by decide) C.f_isinstance C.f_tuple PyProof.Rows.boot_tuple (re_var (pvv 1)))))) (cw_or (ct_two op_lt od_lt rfl (VE.re (v_len C.f_len (re_var (pvv 1)))) (VE.re (ve_int))) (cw_or1 (ct_two op_gt od_gt rfl (VE.re (v_len C.f_len (re_var (pvv 1)))) (VE.re (v_gint C.i_MOST_PLACES))))))) (css_never) (css_nil))
  (css_cons (s_own 3 sc_Net_init.nd (oe_lst (va_nil)))
  (css_cons (s_for PassesOwn.never rfl (w_s (v_var 1 (pvv 1))) (g_name 4 sc_Net_init.nd) (css_cons (cs_if (CW.ct (cw_or (ct_not (ct_val (VE.re (v_cal (V_is_name C (some x)) hr (va_cons (v_var 4 (pvv 4)) (va_nil)))))) (cw_or1 (ct_two (op_has (room65 hr)) od_has rfl (re_var (pvv 4)) (re_var (pvv 3)))))) (css_never) (css_nil))
  (css_one (cs_app (pvv 3) (v_var 4 (pvv 4))))))
  (css_cons (cs_if (CW.ct (cw_or (ct_not (ct_val (VE.re (v_isT (T := "tuple") (by decide) C.f_isinstance C.f_tuple PyProof.Rows.boot_tuple (re_var (pvv 2)))))) (cw_or1 (ct_two op_gt od_gt rfl (VE.re (v_len C.f_len (re_var (pvv 2)))) (VE.re (v_gint C.i_MOST_MOVES)))))) (css_never) (css_nil))
  (css_cons (s_for PassesOwn.never rfl (w_s (v_var 2 (pvv 2))) (g_name 5 sc_Net_init.nd) (css_cons (cs_if (CW.ct (cw_or (ct_not (ct_val (VE.re (v_cal (V_is_move C (some x)) hr (va_cons (v_var 1 (pvv 1)) (va_cons (v_var 5 (pvv 5)) (va_nil))))))) (cw_or1 (ct_two (op_has (room65 hr)) od_has rfl (VE.re (v_get (room1 hr) (ie_var (pvv 5)) (VE.re (ve_int)))) (re_var (pvv 3)))))) (css_never) (css_nil))
  (css_one (cs_app (pvv 3) (v_get (room1 hr) (ie_var (pvv 5)) (VE.re (ve_int)))))))
  (css_cons (cs_fld (c := 0) (j := 0) (pvv 0) (v_var 1 (pvv 1)) C.c_Net C.n_Net_places rfl (show (["places", "moves"] : List Str).Nodup by decide) (show (["places", "moves"] : List Str).length ≤ 1000 by decide))
  (css_one (cs_fld (c := 0) (j := 1) (pvv 0) (v_var 2 (pvv 2)) C.c_Net C.n_Net_moves rfl (show (["places", "moves"] : List Str).Nodup by decide) (show (["places", "moves"] : List Str).length ≤ 1000 by decide)))))))))), C.m_Net, C.gc_Net, F.bindsN fun _ _ _ _ _ _ us hl => match us, hl with | [_, _, _], _ => rfl⟩⟩
theorem sc_turned_back : FnScope ["net", "name", "takes", "gives"] ["net"] (defScope s_turned_back) := ⟨rfl, rfl, rfl, by decide, rfl, by decide, by decide⟩
theorem V_turned_back (C : FC P w K mg base) (o : Option Addr) : DefV P w K mg base (WM K o) "turned_back" 7 g_turned_back := by
  obtain ⟨fd, F⟩ := C.e_turned_back
  exact ⟨⟨_, fd, _, fnV (M := WM K o) F sc_turned_back (fun A outer s H E hr =>
  (css_one (cs_ret (v_make (V_Net_init C o) hr (va_cons (ve_fld (c := 0) (j := 0) (v_var 0 (pvv 0)) C.c_Net C.n_Net_places rfl (show (["places", "moves"] : List Str).Nodup by decide)) (va_cons (v_tuple C.f_tuple (VE.ie (OE.ve (oe_lc rfl sc_turned_back.nd (by exact w_g (ve_fld (c := 0) (j := 1) (v_var 0 (pvv 0)) C.c_Net C.n_Net_moves rfl (show (["places", "moves"] : List Str).Nodup by decide))) (blkOk_by (own := [("name", 1), ("takes", 2), ("gives", 3)]) rfl) (fun i => by exact cg_tup rfl (g_cons (g_name 1 sc_turned_back.nd) (g_cons (g_name 2 sc_turned_back.nd) (g_cons (g_name 3 sc_turned_back.nd) (cgs_nil))))) (fun i => by exact cts_nil) (fun i => by exact ve_tup (va_cons (v_var 1 (pvv 1)) (va_cons (v_var 3 (pvv 3)) (va_cons (v_var 2 (pvv 2)) (va_nil))))) (by decide))))) (va_nil))))))), C.g_turned_back, F.kp, F.bindsN fun _ _ _ _ _ _ us hl => match us, hl with | [_], _ => rfl⟩⟩
theorem sc_check_some : FnScope ["net", "some", "last", "place"] ["net", "some"] (defScope s_check_some) := ⟨rfl, rfl, rfl, by decide, rfl, by decide, by decide⟩
theorem V_check_some (C : FC P w K mg base) (o : Option Addr) : DefV P w K mg base (WM K o) "check_some" 1 g_check_some := by
  obtain ⟨fd, F⟩ := C.e_check_some
  exact ⟨⟨_, fd, _, fnV (M := WM K o) F sc_check_some (fun A outer s H E hr =>
  (css_cons (cs_if (ct_not (ct_val (VE.re (v_isT (T := "tuple") (by decide) C.f_isinstance C.f_tuple PyProof.Rows.boot_tuple (re_var (pvv 1)))))) (css_never) (css_nil))
  (css_cons (s_set 2 sc_check_some.nd (ve_un un_neg ud_neg (VE.re (ve_int))))
  (css_one (s_for PassesOwn.never rfl (w_s (v_var 1 (pvv 1))) (g_name 3 sc_check_some.nd) (css_cons (cs_if (CW.ct (cw_or (ct_two (op_hasnt (room65 hr)) od_has rfl (re_var (pvv 3)) (VE.re (ve_fld (c := 0) (j := 0) (v_var 0 (pvv 0)) C.c_Net C.n_Net_places rfl (show (["places", "moves"] : List Str).Nodup by decide)))) (cw_or1 (ct_two op_le od_le rfl (VE.re (v_index (room65 hr) (VE.re (ve_fld (c := 0) (j := 0) (v_var 0 (pvv 0)) C.c_Net C.n_Net_places rfl (show (["places", "moves"] : List Str).Nodup by decide))) (re_var (pvv 3)))) (re_var (pvv 2)))))) (css_never) (css_nil))
  (css_one (s_set 2 sc_check_some.nd (v_index (room65 hr) (VE.re (ve_fld (c := 0) (j := 0) (v_var 0 (pvv 0)) C.c_Net C.n_Net_places rfl (show (["places", "moves"] : List Str).Nodup by decide))) (re_var (pvv 3))))))))))), C.g_check_some, F.kp, F.bindsN fun _ _ _ _ _ _ us hl => match us, hl with | [_, _], _ => rfl⟩⟩
theorem sc_touches : FnScope ["row", "chosen", "at"] ["row", "chosen"] (defScope s_touches) := ⟨rfl, rfl, rfl, by decide, rfl, by decide, by decide⟩
theorem V_touches (C : FC P w K mg base) (o : Option Addr) : DefV P w K mg base (WM K o) "touches" 2 g_touches := by
  obtain ⟨fd, F⟩ := C.e_touches
  exact ⟨⟨_, fd, _, fnV (M := WM K o) F sc_touches (fun A outer s H E hr =>
  (css_one (cs_ret (ve_any (k := 0) (hr.mono (by decide)) rfl C.f_any C.t_touches rfl rfl sc_touches.nd (tab_mem T_touches rfl) (by exact w_g (v_var 1 (pvv 1))) ⟨blkOk_by (own := [("at", 2)]) rfl, rfl, by decide, rfl⟩ (fun i => by exact g_name 2 sc_touches.nd) (fun i => by exact ve_cmp op_gt od_gt rfl (VE.re (v_get (room1 i.2) (ie_var (pvv 0)) (re_var (pvv 2)))) (VE.re (ve_int))) (by decide))))), C.g_touches, F.kp, F.bindsN fun _ _ _ _ _ _ us hl => match us, hl with | [_, _], _ => rfl⟩⟩
theorem sc_is_siphon_at : FnScope ["rows", "chosen", "name", "takes", "gives"] ["rows", "chosen"] (defScope s_is_siphon_at) := ⟨rfl, rfl, rfl, by decide, rfl, by decide, by decide⟩
theorem V_is_siphon_at (C : FC P w K mg base) (o : Option Addr) : DefV P w K mg base (WM K o) "is_siphon_at" 4 g_is_siphon_at := by
  obtain ⟨fd, F⟩ := C.e_is_siphon_at
  exact ⟨⟨_, fd, _, fnV (M := WM K o) F sc_is_siphon_at (fun A outer s H E hr =>
  (css_one (cs_ret (ve_all (k := 2) (hr.mono (by decide)) rfl C.f_all C.t_is_siphon_at rfl rfl sc_is_siphon_at.nd (tab_mem T_is_siphon_at rfl) (by exact w_g (v_var 0 (pvv 0))) ⟨blkOk_by (own := [("name", 2), ("takes", 3), ("gives", 4)]) rfl, rfl, by decide, rfl⟩ (fun i => by exact cg_tup rfl (g_cons (g_name 2 sc_is_siphon_at.nd) (g_cons (g_name 3 sc_is_siphon_at.nd) (g_cons (g_name 4 sc_is_siphon_at.nd) (cgs_nil))))) (fun i => by exact ve_or (VE.re (v_cal (V_touches C o) i.2 (va_cons (v_var 3 (pvv 3)) (va_cons (v_var 1 (pvv 1)) (va_nil))))) (ve_one (ve_not (VE.re (v_cal (V_touches C o) i.2 (va_cons (v_var 4 (pvv 4)) (va_cons (v_var 1 (pvv 1)) (va_nil)))))))) (by decide))))), C.g_is_siphon_at, F.kp, F.bindsN fun _ _ _ _ _ _ us hl => match us, hl with | [_, _], _ => rfl⟩⟩
theorem sc_row_of : FnScope ["net", "side", "row", "place", "weight"] ["net", "side"] (defScope s_row_of) := ⟨rfl, rfl, rfl, by decide, rfl, by decide, by decide⟩
theorem V_row_of (C : FC P w K mg base) (o : Option Addr) : DefV P w K mg base (WM K o) "row_of" 1 g_row_of := by
  obtain ⟨fd, F⟩ := C.e_row_of
  exact ⟨⟨_, fd, _, fnV (M := WM K o) F sc_row_of (fun A outer s H E hr =>
  (css_cons (cs_ownLc (i := 2) rfl sc_row_of.nd rfl rfl rfl (by exact w_g (ve_fld (c := 0) (j := 0) (v_var 0 (pvv 0)) C.c_Net C.n_Net_places rfl (show (["places", "moves"] : List Str).Nodup by decide))) (blkOk_by (own := [("place", 3)]) rfl) (fun i => by exact g_name 3 sc_row_of.nd) (fun i => by exact cts_nil) (fun i => by exact ve_int) (by decide))
  (css_cons (s_for PassesOwn.never rfl (w_s (v_var 1 (pvv 1))) (cg_tup rfl (g_cons (g_name 3 sc_row_of.nd) (g_cons (g_name 4 sc_row_of.nd) (cgs_nil)))) (css_one (cs_put (pvv 2) (VE.re (v_index (room65 hr) (VE.re (ve_fld (c := 0) (j := 0) (v_var 0 (pvv 0)) C.c_Net C.n_Net_places rfl (show (["places", "moves"] : List Str).Nodup by decide))) (re_var (pvv 3)))) (v_var 4 (pvv 4)))))
  (css_one (cs_ret (v_tuple C.f_tuple (ie_var (pvv 2)))))))), C.g_row_of, F.kp, F.bindsN fun _ _ _ _ _ _ us hl => match us, hl with | [_, _], _ => rfl⟩⟩
theorem sc_rows_of : FnScope ["net", "name", "takes", "gives"] ["net"] (defScope s_rows_of) := ⟨rfl, rfl, rfl, by decide, rfl, by decide, by decide⟩
theorem V_rows_of (C : FC P w K mg base) (o : Option Addr) : DefV P w K mg base (WM K o) "rows_of" 2 g_rows_of := by
  obtain ⟨fd, F⟩ := C.e_rows_of
  exact ⟨⟨_, fd, _, fnV (M := WM K o) F sc_rows_of (fun A outer s H E hr =>
  (css_one (cs_ret (OE.ve (oe_lc rfl sc_rows_of.nd (by exact w_g (ve_fld (c := 0) (j := 1) (v_var 0 (pvv 0)) C.c_Net C.n_Net_moves rfl (show (["places", "moves"] : List Str).Nodup by decide))) (blkOk_by (own := [("name", 1), ("takes", 2), ("gives", 3)]) rfl) (fun i => by exact cg_tup rfl (g_cons (g_name 1 sc_rows_of.nd) (g_cons (g_name 2 sc_rows_of.nd) (g_cons (g_name 3 sc_rows_of.nd) (cgs_nil))))) (fun i => by exact cts_nil) (fun i => by exact ve_tup (va_cons (v_var 1 (pvv 1)) (va_cons (v_cal (V_row_of C o) hr (va_cons (v_var 0 (pvv 0)) (va_cons (v_var 2 (pvv 2)) (va_nil)))) (va_cons (v_cal (V_row_of C o) hr (va_cons (v_var 0 (pvv 0)) (va_cons (v_var 3 (pvv 3)) (va_nil)))) (va_nil))))) (by decide)))))), C.g_rows_of, F.kp, F.bindsN fun _ _ _ _ _ _ us hl => match us, hl with | [_], _ => rfl⟩⟩
theorem sc_indices : FnScope ["net", "some", "place"] ["net", "some"] (defScope s_indices) := ⟨rfl, rfl, rfl, by decide, rfl, by decide, by decide⟩
theorem V_indices (C : FC P w K mg base) (o : Option Addr) : DefV P w K mg base (WM K o) "indices" 1 g_indices := by
  obtain ⟨fd, F⟩ := C.e_indices
  exact ⟨⟨_, fd, _, fnV (M := WM K o) F sc_indices (fun A outer s H E hr =>
  (css_one (cs_ret (OE.ve (oe_lc rfl sc_indices.nd (by exact w_g (v_var 1 (pvv 1))) (blkOk_by (own := [("place", 2)]) rfl) (fun i => by exact g_name 2 sc_indices.nd) (fun i => by exact cts_nil) (fun i => by exact v_index (room65 hr) (VE.re (ve_fld (c := 0) (j := 0) (v_var 0 (pvv 0)) C.c_Net C.n_Net_places rfl (show (["places", "moves"] : List Str).Nodup by decide))) (re_var (pvv 2))) (by decide)))))), C.g_indices, F.kp, F.bindsN fun _ _ _ _ _ _ us hl => match us, hl with | [_, _], _ => rfl⟩⟩
theorem sc_is_siphon : FnScope ["net", "some"] ["net", "some"] (defScope s_is_siphon) := ⟨rfl, rfl, rfl, by decide, rfl, by decide, by decide⟩
theorem V_is_siphon (C : FC P w K mg base) (o : Option Addr) : DefV P w K mg base (WM K o) "is_siphon" 5 g_is_siphon := by
  obtain ⟨fd, F⟩ := C.e_is_siphon
  exact ⟨⟨_, fd, _, fnV (M := WM K o) F sc_is_siphon (fun A outer s H E hr =>
  (css_cons (cs_drop (VE.re (v_cal (V_check_some C o) hr (va_cons (v_var 0 (pvv 0)) (va_cons (v_var 1 (pvv 1)) (va_nil))))))
  (css_one (cs_ret (v_cal (V_is_siphon_at C o) hr (va_cons (v_cal (V_rows_of C o) hr (va_cons (v_var 0 (pvv 0)) (va_nil))) (va_cons (v_cal (V_indices C o) hr (va_cons (v_var 0 (pvv 0)) (va_cons (v_var 1 (pvv 1)) (va_nil)))) (va_nil)))))))), C.g_is_siphon, F.kp, F.bindsN fun _ _ _ _ _ _ us hl => match us, hl with | [_, _], _ => rfl⟩⟩
theorem sc_is_trap : FnScope ["net", "some", "name", "takes", "gives"] ["net", "some"] (defScope s_is_trap) := ⟨rfl, rfl, rfl, by decide, rfl, by decide, by decide⟩
theorem V_is_trap (C : FC P w K mg base) (o : Option Addr) : DefV P w K mg base (WM K o) "is_trap" 5 g_is_trap := by
  obtain ⟨fd, F⟩ := C.e_is_trap
  exact ⟨⟨_, fd, _, fnV (M := WM K o) F sc_is_trap (fun A outer s H E hr =>
  (css_cons (cs_drop (VE.re (v_cal (V_check_some C o) hr (va_cons (v_var 0 (pvv 0)) (va_cons (v_var 1 (pvv 1)) (va_nil))))))
  (css_one (cs_ret (v_cal (V_is_siphon_at C o) hr (va_cons (OE.ve (oe_lc rfl sc_is_trap.nd (by exact w_g (v_cal (V_rows_of C o) hr (va_cons (v_var 0 (pvv 0)) (va_nil)))) (blkOk_by (own := [("name", 2), ("takes", 3), ("gives", 4)]) rfl) (fun i => by exact cg_tup rfl (g_cons (g_name 2 sc_is_trap.nd) (g_cons (g_name 3 sc_is_trap.nd) (g_cons (g_name 4 sc_is_trap.nd) (cgs_nil))))) (fun i => by exact cts_nil) (fun i => by exact ve_tup (va_cons (v_var 2 (pvv 2)) (va_cons (v_var 4 (pvv 4)) (va_cons (v_var 3 (pvv 3)) (va_nil))))) (by decide))) (va_cons (v_cal (V_indices C o) hr (va_cons (v_var 0 (pvv 0)) (va_cons (v_var 1 (pvv 1)) (va_nil)))) (va_nil)))))))), C.g_is_trap, F.kp, F.bindsN fun _ _ _ _ _ _ us hl => match us, hl with | [_, _], _ => rfl⟩⟩
theorem sc_places_at : FnScope ["net", "chosen", "at"] ["net", "chosen"] (defScope s_places_at) := ⟨rfl, rfl, rfl, by decide, rfl, by decide, by decide⟩
theorem V_places_at (C : FC P w K mg base) (o : Option Addr) : DefV P w K mg base (WM K o) "places_at" 1 g_places_at := by
  obtain ⟨fd, F⟩ := C.e_places_at
  exact ⟨⟨_, fd, _, fnV (M := WM K o) F sc_places_at (fun A outer s H E hr =>
  (css_one (cs_ret (v_tuple C.f_tuple (VE.ie (OE.ve (oe_lc rfl sc_places_at.nd (by exact w_g (v_var 1 (pvv 1))) (blkOk_by (own := [("at", 2)]) rfl) (fun i => by exact g_name 2 sc_places_at.nd) (fun i => by exact cts_nil) (fun i => by exact v_get (room1 hr) (VE.ie (ve_fld (c := 0) (j := 0) (v_var 0 (pvv 0)) C.c_Net C.n_Net_places rfl (show (["places", "moves"] : List Str).Nodup by decide))) (re_var (pvv 2))) (by decide)))))))), C.g_places_at, F.kp, F.bindsN fun _ _ _ _ _ _ us hl => match us, hl with | [_, _], _ => rfl⟩⟩
theorem sc_greatest_at : FnScope ["rows", "chosen", "kept", "changed", "name", "takes", "gives", "at"] ["rows", "chosen"] (defScope s_greatest_at) := ⟨rfl, rfl, rfl, by decide, rfl, by decide, by decide⟩
theorem V_greatest_at (C : FC P w K mg base) (o : Option Addr) : DefV P w K mg base (WM K o) "greatest_at" 3 g_greatest_at := by
  obtain ⟨fd, F⟩ := C.e_greatest_at
  exact ⟨⟨_, fd, _, fnV (M := WM K o) F sc_greatest_at (fun A outer s H E hr =>
  (css_cons (s_set 2 sc_greatest_at.nd (OE.ve (v_list C.f_list (ie_var (pvv 1)))))
  (css_cons (s_set 3 sc_greatest_at.nd (ve_bl))
  (css_cons (cs_while PassesOwn.never (ct_val (re_var (pvv 3))) (css_cons (s_set 3 sc_greatest_at.nd (ve_bl))
  (css_one (s_for PassesOwn.never rfl (w_s (v_var 0 (pvv 0))) (cg_tup rfl (g_cons (g_name 4 sc_greatest_at.nd) (g_cons (g_name 5 sc_greatest_at.nd) (g_cons (g_name 6 sc_greatest_at.nd) (cgs_nil))))) (css_one (cs_if (CW.ct (cw_and (ct_val (VE.re (v_cal (V_touches C o) hr (va_cons (v_var 6 (pvv 6)) (va_cons (v_var 2 (pvv 2)) (va_nil)))))) (cw_and1 (ct_not (ct_val (VE.re (v_cal (V_touches C o) hr (va_cons (v_var 5 (pvv 5)) (va_cons (v_var 2 (pvv 2)) (va_nil)))))))))) (css_cons (cs_setLc (i := 2) rfl sc_greatest_at.nd rfl rfl rfl (by exact w_g (v_var 2 (pvv 2))) (blkOk_by (own := [("at", 7)]) rfl) (fun i => by exact g_name 7 sc_greatest_at.nd) (fun i => by exact cts_one (ct_two (op_eqV (room64 hr)) od_eq rfl (VE.re (v_get (room1 hr) (ie_var (pvv 6)) (re_var (pvv 7)))) (VE.re (ve_int)))) (fun i => by exact v_var 7 (pvv 7)) (by decide))
  (css_one (s_set 3 sc_greatest_at.nd (ve_bl)))) (css_nil)))))))
  (css_one (cs_ret (v_var 2 (pvv 2)))))))), C.g_greatest_at, F.kp, F.bindsN fun _ _ _ _ _ _ us hl => match us, hl with | [_, _], _ => rfl⟩⟩
theorem sc_greatest_siphon : FnScope ["net", "some"] ["net", "some"] (defScope s_greatest_siphon) := ⟨rfl, rfl, rfl, by decide, rfl, by decide, by decide⟩
theorem V_greatest_siphon (C : FC P w K mg base) (o : Option Addr) : DefV P w K mg base (WM K o) "greatest_siphon" 4 g_greatest_siphon := by
  obtain ⟨fd, F⟩ := C.e_greatest_siphon
  exact ⟨⟨_, fd, _, fnV (M := WM K o) F sc_greatest_siphon (fun A outer s H E hr =>
  (css_cons (cs_drop (VE.re (v_cal (V_check_some C o) hr (va_cons (v_var 0 (pvv 0)) (va_cons (v_var 1 (pvv 1)) (va_nil))))))
  (css_one (cs_ret (v_cal (V_places_at C o) hr (va_cons (v_var 0 (pvv 0)) (va_cons (v_cal (V_greatest_at C o) hr (va_cons (v_cal (V_rows_of C o) hr (va_cons (v_var 0 (pvv 0)) (va_nil))) (va_cons (v_cal (V_indices C o) hr (va_cons (v_var 0 (pvv 0)) (va_cons (v_var 1 (pvv 1)) (va_nil)))) (va_nil)))) (va_nil)))))))), C.g_greatest_siphon, F.kp, F.bindsN fun _ _ _ _ _ _ us hl => match us, hl with | [_, _], _ => rfl⟩⟩
theorem sc_greatest_trap : FnScope ["net", "some", "turned", "name", "takes", "gives"] ["net", "some"] (defScope s_greatest_trap) := ⟨rfl, rfl, rfl, by decide, rfl, by decide, by decide⟩
theorem V_greatest_trap (C : FC P w K mg base) (o : Option Addr) : DefV P w K mg base (WM K o) "greatest_trap" 4 g_greatest_trap := by
  obtain ⟨fd, F⟩ := C.e_greatest_trap
  exact ⟨⟨_, fd, _, fnV (M := WM K o) F sc_greatest_trap (fun A outer s H E hr =>
  (css_cons (cs_drop (VE.re (v_cal (V_check_some C o) hr (va_cons (v_var 0 (pvv 0)) (va_cons (v_var 1 (pvv 1)) (va_nil))))))
  (css_cons (cs_setLc (i := 2) rfl sc_greatest_trap.nd rfl rfl rfl (by exact w_g (v_cal (V_rows_of C o) hr (va_cons (v_var 0 (pvv 0)) (va_nil)))) (blkOk_by (own := [("name", 3), ("takes", 4), ("gives", 5)]) rfl) (fun i => by exact cg_tup rfl (g_cons (g_name 3 sc_greatest_trap.nd) (g_cons (g_name 4 sc_greatest_trap.nd) (g_cons (g_name 5 sc_greatest_trap.nd) (cgs_nil))))) (fun i => by exact cts_nil) (fun i => by exact ve_tup (va_cons (v_var 3 (pvv 3)) (va_cons (v_var 5 (pvv 5)) (va_cons (v_var 4 (pvv 4)) (va_nil))))) (by decide))
  (css_one (cs_ret (v_cal (V_places_at C o) hr (va_cons (v_var 0 (pvv 0)) (va_cons (v_cal (V_greatest_at C o) hr (va_cons (v_var 2 (pvv 2)) (va_cons (v_cal (V_indices C o) hr (va_cons (v_var 0 (pvv 0)) (va_cons (v_var 1 (pvv 1)) (va_nil)))) (va_nil)))) (va_nil))))))))), C.g_greatest_trap, F.kp, F.bindsN fun _ _ _ _ _ _ us hl => match us, hl with | [_, _], _ => rfl⟩⟩
theorem sc_changes_of : FnScope ["net", "name", "takes", "gives", "at"] ["net"] (defScope s_changes_of) := ⟨rfl, rfl, rfl, by decide, rfl, by decide, by decide⟩
theorem V_changes_of (C : FC P w K mg base) (o : Option Addr) : DefV P w K mg base (WM K o) "changes_of" 3 g_changes_of := by
  obtain ⟨fd, F⟩ := C.e_changes_of
  exact ⟨⟨_, fd, _, fnV (M := WM K o) F sc_changes_of (fun A outer s H E hr =>
  (css_one (cs_ret (OE.ve (oe_lc rfl sc_changes_of.nd (by exact w_g (v_cal (V_rows_of C o) hr (va_cons (v_var 0 (pvv 0)) (va_nil)))) (blkOk_by (own := [("name", 1), ("takes", 2), ("gives", 3)]) rfl) (fun i => by exact cg_tup rfl (g_cons (g_name 1 sc_changes_of.nd) (g_cons (g_name 2 sc_changes_of.nd) (g_cons (g_name 3 sc_changes_of.nd) (cgs_nil))))) (fun i => by exact cts_nil) (fun i => by exact v_tuple C.f_tuple (VE.ie (OE.ve (oe_lc rfl sc_changes_of.nd (by exact CWs.g (w_r1 C.f_range (VE.re (v_len C.f_len (re_var (pvv 2)))))) (blkOk_by (own := [("at", 4)]) rfl) (fun i => by exact g_name 4 sc_changes_of.nd) (fun i => by exact cts_nil) (fun i => by exact ve_op op_sub od_sub (VE.re (v_get (room1 hr) (ie_var (pvv 3)) (re_var (pvv 4)))) (VE.re (v_get (room1 hr) (ie_var (pvv 2)) (re_var (pvv 4))))) (by decide))))) (by decide)))))), C.g_changes_of, F.kp, F.bindsN fun _ _ _ _ _ _ us hl => match us, hl with | [_], _ => rfl⟩⟩
theorem sc_common : FnScope ["first", "second"] ["first", "second"] (defScope s_common) := ⟨rfl, rfl, rfl, by decide, rfl, by decide, by decide⟩
theorem V_common (C : FC P w K mg base) (o : Option Addr) : DefV P w K mg base (WM K o) "common" 1 g_common := by
  obtain ⟨fd, F⟩ := C.e_common
  exact ⟨⟨_, fd, _, fnV (M := WM K o) F sc_common (fun A outer s H E hr =>
  (css_cons (cs_while PassesOwn.never (ct_two op_gt od_gt rfl (re_var (pvv 1)) (VE.re (ve_int))) (css_one (cs_par (i := 0) (j := 1) rfl sc_common.nd rfl rfl (by decide) rfl rfl (v_var 1 (pvv 1)) (ve_op op_mod od_mod (re_var (pvv 0)) (re_var (pvv 1))) rfl)))
  (css_one (cs_ret (v_var 0 (pvv 0)))))), C.g_common, F.kp, F.bindsN fun _ _ _ _ _ _ us hl => match us, hl with | [_, _], _ => rfl⟩⟩
theorem sc_joined : FnScope ["first", "second", "at", "left", "right", "row", "sums", "divisor", "number", "k"] ["first", "second", "at"] (defScope s_joined) := ⟨rfl, rfl, rfl, by decide, rfl, by decide, by decide⟩
theorem V_joined (C : FC P w K mg base) (o : Option Addr) : DefV P w K mg base (WM K o) "joined" 2 g_joined := by
  obtain ⟨fd, F⟩ := C.e_joined
  exact ⟨⟨_, fd, _, fnV (M := WM K o) F sc_joined (fun A outer s H E hr =>
  (css_cons (s_set 3 sc_joined.nd (ve_un un_neg ud_neg (VE.re (v_get (room1 hr) (VE.ie (v_get (room1 hr) (ie_var (pvv 1)) (VE.re (ve_int)))) (re_var (pvv 2))))))
  (css_cons (s_set 4 sc_joined.nd (v_get (room1 hr) (VE.ie (v_get (room1 hr) (ie_var (pvv 0)) (VE.re (ve_int)))) (re_var (pvv 2))))
  (css_cons (cs_setLc (i := 5) rfl sc_joined.nd rfl rfl rfl (by exact CWs.g (w_r1 C.f_range (VE.re (v_len C.f_len (VE.re (v_get (room1 hr) (ie_var (pvv 0)) (VE.re (ve_int)))))))) (blkOk_by (own := [("k", 9)]) rfl) (fun i => by exact g_name 9 sc_joined.nd) (fun i => by exact cts_nil) (fun i => by exact ve_opS op_addV os_add (ve_op op_mul od_mul (re_var (pvv 3)) (VE.re (v_get (room1 hr) (VE.ie (v_get (room1 hr) (ie_var (pvv 0)) (VE.re (ve_int)))) (re_var (pvv 9))))) (ve_op op_mul od_mul (re_var (pvv 4)) (VE.re (v_get (room1 hr) (VE.ie (v_get (room1 hr) (ie_var (pvv 1)) (VE.re (ve_int)))) (re_var (pvv 9)))))) (by decide))
  (css_cons (cs_setLc (i := 6) rfl sc_joined.nd rfl rfl rfl (by exact CWs.g (w_r1 C.f_range (VE.re (v_len C.f_len (VE.re (v_get (room1 hr) (ie_var (pvv 0)) (VE.re (ve_int)))))))) (blkOk_by (own := [("k", 9)]) rfl) (fun i => by exact g_name 9 sc_joined.nd) (fun i => by exact cts_nil) (fun i => by exact ve_opS op_addV os_add (ve_op op_mul od_mul (re_var (pvv 3)) (VE.re (v_get (room1 hr) (VE.ie (v_get (room1 hr) (ie_var (pvv 0)) (VE.re (ve_int)))) (re_var (pvv 9))))) (ve_op op_mul od_mul (re_var (pvv 4)) (VE.re (v_get (room1 hr) (VE.ie (v_get (room1 hr) (ie_var (pvv 1)) (VE.re (ve_int)))) (re_var (pvv 9)))))) (by decide))
  (css_cons (s_set 7 sc_joined.nd (ve_int))
  (css_cons (s_for PassesOwn.never rfl (w_s (v_var 5 (pvv 5))) (g_name 8 sc_joined.nd) (css_one (s_set 7 sc_joined.nd (ve_if (ct_two op_gt od_gt rfl (re_var (pvv 7)) (re_var (pvv 8))) (v_cal (V_common C o) hr (va_cons (v_var 7 (pvv 7)) (va_cons (v_var 8 (pvv 8)) (va_nil)))) (v_cal (V_common C o) hr (va_cons (v_var 8 (pvv 8)) (va_cons (v_var 7 (pvv 7)) (va_nil))))))))
  (css_one (cs_ret (ve_tup (va_cons (v_tuple C.f_tuple (VE.ie (OE.ve (oe_lc rfl sc_joined.nd (by exact w_g (v_var 5 (pvv 5))) (blkOk_by (own := [("number", 8)]) rfl) (fun i => by exact g_name 8 sc_joined.nd) (fun i => by exact cts_nil) (fun i => by exact ve_op op_fdiv od_fdiv (re_var (pvv 8)) (re_var (pvv 7))) (by decide))))) (va_cons (v_tuple C.f_tuple (VE.ie (OE.ve (oe_lc rfl sc_joined.nd (by exact w_g (v_var 6 (pvv 6))) (blkOk_by (own := [("number", 8)]) rfl) (fun i => by exact g_name 8 sc_joined.nd) (fun i => by exact cts_nil) (fun i => by exact ve_op op_fdiv od_fdiv (re_var (pvv 8)) (re_var (pvv 7))) (by decide))))) (va_nil))))))))))))), C.g_joined, F.kp, F.bindsN fun _ _ _ _ _ _ us hl => match us, hl with | [_, _, _], _ => rfl⟩⟩
theorem sc_holds_within : FnScope ["first", "second", "at"] ["first", "second"] (defScope s_holds_within) := ⟨rfl, rfl, rfl, by decide, rfl, by decide, by decide⟩
theorem V_holds_within (C : FC P w K mg base) (o : Option Addr) : DefV P w K mg base (WM K o) "holds_within" 2 g_holds_within := by
  obtain ⟨fd, F⟩ := C.e_holds_within
  exact ⟨⟨_, fd, _, fnV (M := WM K o) F sc_holds_within (fun A outer s H E hr =>
  (css_one (cs_ret (ve_all (k := 0) (hr.mono (by decide)) rfl C.f_all C.t_holds_within rfl rfl sc_holds_within.nd (tab_mem T_holds_within rfl) (by exact CWs.g (w_r1 C.f_range (VE.re (v_len C.f_len (re_var (pvv 0)))))) ⟨blkOk_by (own := [("at", 2)]) rfl, rfl, by decide, rfl⟩ (fun i => by exact g_name 2 sc_holds_within.nd) (fun i => by exact ve_or (VE.re (ve_cmp (op_eqV (room64 i.2)) od_eq rfl (VE.re (v_get (room1 i.2) (ie_var (pvv 0)) (re_var (pvv 2)))) (VE.re (ve_int)))) (ve_one (ve_cmp op_gt od_gt rfl (VE.re (v_get (room1 i.2) (ie_var (pvv 1)) (re_var (pvv 2)))) (VE.re (ve_int))))) (by decide))))), C.g_holds_within, F.kp, F.bindsN fun _ _ _ _ _ _ us hl => match us, hl with | [_, _], _ => rfl⟩⟩
theorem sc_least_rows : FnScope ["rows", "result", "at", "row", "keep", "other"] ["rows"] (defScope s_least_rows) := ⟨rfl, rfl, rfl, by decide, rfl, by decide, by decide⟩
theorem V_least_rows (C : FC P w K mg base) (o : Option Addr) : DefV P w K mg base (WM K o) "least_rows" 3 g_least_rows := by
  obtain ⟨fd, F⟩ := C.e_least_rows
  exact ⟨⟨_, fd, _, fnV (M := WM K o) F sc_least_rows (fun A outer s H E hr =>
  (css_cons (s_own 1 sc_least_rows.nd (oe_lst (va_nil)))
  (css_cons (s_for PassesOwn.never rfl (w_r1 C.f_range (VE.re (v_len C.f_len (re_var (pvv 0))))) (g_name 2 sc_least_rows.nd) (css_cons (s_set 3 sc_least_rows.nd (v_get (room1 hr) (VE.ie (v_get (room1 hr) (ie_var (pvv 0)) (re_var (pvv 2)))) (VE.re (ve_int))))
  (css_cons (s_set 4 sc_least_rows.nd (ve_bl))
  (css_cons (s_for PassesOwn.never rfl (w_r1 C.f_range (VE.re (v_len C.f_len (re_var (pvv 0))))) (g_name 5 sc_least_rows.nd) (css_one (cs_if (CW.ct (cw_and (ct_two (op_neV (room64 hr)) od_ne rfl (re_var (pvv 5)) (re_var (pvv 2))) (cw_and1 (ct_val (VE.re (v_cal (V_holds_within C o) hr (va_cons (v_get (room1 hr) (VE.ie (v_get (room1 hr) (ie_var (pvv 0)) (re_var (pvv 5)))) (VE.re (ve_int))) (va_cons (v_var 3 (pvv 3)) (va_nil))))))))) (css_one (cs_if (CW.ct (cw_or (ct_not (ct_val (VE.re (v_cal (V_holds_within C o) hr (va_cons (v_var 3 (pvv 3)) (va_cons (v_get (room1 hr) (VE.ie (v_get (room1 hr) (ie_var (pvv 0)) (re_var (pvv 5)))) (VE.re (ve_int))) (va_nil))))))) (cw_or1 (ct_two op_lt od_lt rfl (re_var (pvv 5)) (re_var (pvv 2)))))) (css_one (s_set 4 sc_least_rows.nd (ve_bl))) (css_nil))) (css_nil))))
  (css_one (cs_if (ct_val (re_var (pvv 4))) (css_one (cs_app (pvv 1) (v_get (room1 hr) (ie_var (pvv 0)) (re_var (pvv 2))))) (css_nil)))))))
  (css_one (cs_frz [1] (cs_ret (v_var 1 (pvv 1)))))))), C.g_least_rows, F.kp, F.bindsN fun _ _ _ _ _ _ us hl => match us, hl with | [_], _ => rfl⟩⟩
theorem sc_least_solutions : FnScope ["vectors", "size", "rows", "at", "kept", "first", "second", "row", "sums", "k"] ["vectors", "size"] (defScope s_least_solutions) := ⟨rfl, rfl, rfl, by decide, rfl, by decide, by decide⟩
theorem V_least_solutions (C : FC P w K mg base) (o : Option Addr) : DefV P w K mg base (WM K o) "least_solutions" 4 g_least_solutions := by
  obtain ⟨fd, F⟩ := C.e_least_solutions
  exact ⟨⟨_, fd, _, fnV (M := WM K o) F sc_least_solutions (fun A outer s H E hr =>
  (css_cons (s_own 2 sc_least_solutions.nd (oe_lst (va_nil)))
  (css_cons (s_for PassesOwn.never rfl (w_r1 C.f_range (VE.re (v_len C.f_len (re_var (pvv 0))))) (g_name 3 sc_least_solutions.nd) (css_one (cs_app (pvv 2) (ve_tup (va_cons (v_tuple C.f_tuple (VE.ie (OE.ve (oe_lc rfl sc_least_solutions.nd (by exact CWs.g (w_r1 C.f_range (VE.re (v_len C.f_len (re_var (pvv 0)))))) (blkOk_by (own := [("k", 9)]) rfl) (fun i => by exact g_name 9 sc_least_solutions.nd) (fun i => by exact cts_nil) (fun i => by exact ve_if (ct_two (op_eqV (room64 hr)) od_eq rfl (re_var (pvv 9)) (re_var (pvv 3))) (ve_int) (ve_int)) (by decide))))) (va_cons (v_get (room1 hr) (ie_var (pvv 0)) (re_var (pvv 3))) (va_nil)))))))
  (css_cons (s_for PassesOwn.never rfl (w_r1 C.f_range (re_var (pvv 1))) (g_name 3 sc_least_solutions.nd) (css_cons (cs_ownLc (i := 4) rfl sc_least_solutions.nd rfl rfl rfl (by exact w_gv 2 (pvv 2)) (blkOk_by (own := [("row", 7)]) rfl) (fun i => by exact g_name 7 sc_least_solutions.nd) (fun i => by exact cts_one (ct_two (op_eqV (room64 hr)) od_eq rfl (VE.re (v_get (room1 hr) (VE.ie (v_get (room1 hr) (ie_var (pvv 7)) (VE.re (ve_int)))) (re_var (pvv 3)))) (VE.re (ve_int)))) (fun i => by exact v_var 7 (pvv 7)) (by decide))
  (css_cons (cs_frz [2] (s_for PassesOwn.never rfl (w_s (v_var 2 (pvv 2))) (g_name 5 sc_least_solutions.nd) (css_one (cs_frz [2] (s_for PassesOwn.never rfl (w_s (v_var 2 (pvv 2))) (g_name 6 sc_least_solutions.nd) (css_one (cs_if (CW.ct (cw_and (ct_two op_gt od_gt rfl (VE.re (v_get (room1 hr) (VE.ie (v_get (room1 hr) (ie_var (pvv 5)) (VE.re (ve_int)))) (re_var (pvv 3)))) (VE.re (ve_int))) (cw_and1 (ct_two op_lt od_lt rfl (VE.re (v_get (room1 hr) (VE.ie (v_get (room1 hr) (ie_var (pvv 6)) (VE.re (ve_int)))) (re_var (pvv 3)))) (VE.re (ve_int)))))) (css_one (cs_app (pvv 4) (v_cal (V_joined C o) hr (va_cons (v_var 5 (pvv 5)) (va_cons (v_var 6 (pvv 6)) (va_cons (v_var 3 (pvv 3)) (va_nil))))))) (css_nil))))))))
  (css_one (cs_frz [4] (s_set 2 sc_least_solutions.nd (v_cal (V_least_rows C o) hr (va_cons (v_var 4 (pvv 4)) (va_nil)))))))))
  (css_one (cs_ret (OE.ve (v_sorted rfl (room64 hr) C.f_sorted (VE.ie (OE.ve (oe_lc rfl sc_least_solutions.nd (by exact w_gv 2 (pvv 2)) (blkOk_by (own := [("row", 7), ("sums", 8)]) rfl) (fun i => by exact cg_tup rfl (g_cons (g_name 7 sc_least_solutions.nd) (g_cons (g_name 8 sc_least_solutions.nd) (cgs_nil)))) (fun i => by exact cts_nil) (fun i => by exact v_var 7 (pvv 7)) (by decide)))))))))))), C.g_least_solutions, F.kp, F.bindsN fun _ _ _ _ _ _ us hl => match us, hl with | [_, _], _ => rfl⟩⟩
theorem sc_place_laws : FnScope ["net", "changes", "vectors", "at", "change"] ["net"] (defScope s_place_laws) := ⟨rfl, rfl, rfl, by decide, rfl, by decide, by decide⟩
theorem V_place_laws (C : FC P w K mg base) (o : Option Addr) : DefV P w K mg base (WM K o) "place_laws" 5 g_place_laws := by
  obtain ⟨fd, F⟩ := C.e_place_laws
  exact ⟨⟨_, fd, _, fnV (M := WM K o) F sc_place_laws (fun A outer s H E hr =>
  (css_cons (s_set 1 sc_place_laws.nd (v_cal (V_changes_of C o) hr (va_cons (v_var 0 (pvv 0)) (va_nil))))
  (css_cons (cs_setLc (i := 2) rfl sc_place_laws.nd rfl rfl rfl (by exact CWs.g (w_r1 C.f_range (VE.re (v_len C.f_len (VE.re (ve_fld (c := 0) (j := 0) (v_var 0 (pvv 0)) C.c_Net C.n_Net_places rfl (show (["places", "moves"] : List Str).Nodup by decide))))))) (blkOk_by (own := [("at", 3)]) rfl) (fun i => by exact g_name 3 sc_place_laws.nd) (fun i => by exact cts_nil) (fun i => by exact v_tuple C.f_tuple (VE.ie (OE.ve (oe_lc rfl sc_place_laws.nd (by exact w_g (v_var 1 (pvv 1))) (blkOk_by (own := [("change", 4)]) rfl) (fun i => by exact g_name 4 sc_place_laws.nd) (fun i => by exact cts_nil) (fun i => by exact v_get (room1 hr) (ie_var (pvv 4)) (re_var (pvv 3))) (by decide))))) (by decide))
  (css_one (cs_ret (v_tuple C.f_tuple (VE.ie (v_cal (V_least_solutions C o) hr (va_cons (v_var 2 (pvv 2)) (va_cons (v_len C.f_len (re_var (pvv 1))) (va_nil))))))))))), C.g_place_laws, F.kp, F.bindsN fun _ _ _ _ _ _ us hl => match us, hl with | [_], _ => rfl⟩⟩
theorem sc_move_laws : FnScope ["net"] ["net"] (defScope s_move_laws) := ⟨rfl, rfl, rfl, by decide, rfl, by decide, by decide⟩
theorem V_move_laws (C : FC P w K mg base) (o : Option Addr) : DefV P w K mg base (WM K o) "move_laws" 5 g_move_laws := by
  obtain ⟨fd, F⟩ := C.e_move_laws
  exact ⟨⟨_, fd, _, fnV (M := WM K o) F sc_move_laws (fun A outer s H E hr =>
  (css_one (cs_ret (v_tuple C.f_tuple (VE.ie (v_cal (V_least_solutions C o) hr (va_cons (v_cal (V_changes_of C o) hr (va_cons (v_var 0 (pvv 0)) (va_nil))) (va_cons (v_len C.f_len (VE.re (ve_fld (c := 0) (j := 0) (v_var 0 (pvv 0)) C.c_Net C.n_Net_places rfl (show (["places", "moves"] : List Str).Nodup by decide)))) (va_nil))))))))), C.g_move_laws, F.kp, F.bindsN fun _ _ _ _ _ _ us hl => match us, hl with | [_], _ => rfl⟩⟩
theorem sc_subsets : FnScope ["many", "found", "at", "one"] ["many"] (defScope s_subsets) := ⟨rfl, rfl, rfl, by decide, rfl, by decide, by decide⟩
theorem V_subsets (C : FC P w K mg base) (o : Option Addr) : DefV P w K mg base (WM K o) "subsets" 1 g_subsets := by
  obtain ⟨fd, F⟩ := C.e_subsets
  exact ⟨⟨_, fd, _, fnV (M := WM K o) F sc_subsets (fun A outer s H E hr =>
  (css_cons (s_set 1 sc_subsets.nd (OE.ve (oe_lst (va_cons (ve_tup (va_nil)) (va_nil)))))
  (css_cons (s_for PassesOwn.never rfl (w_r1 C.f_range (re_var (pvv 0))) (g_name 2 sc_subsets.nd) (css_one (s_set 1 sc_subsets.nd (ve_opS op_addV os_add (v_var 1 (pvv 1)) (OE.ve (oe_lc rfl sc_subsets.nd (by exact w_g (v_var 1 (pvv 1))) (blkOk_by (own := [("one", 3)]) rfl) (fun i => by exact g_name 3 sc_subsets.nd) (fun i => by exact cts_nil) (fun i => by exact ve_opS op_addV os_add (v_var 3 (pvv 3)) (ve_tup (va_cons (v_var 2 (pvv 2)) (va_nil)))) (by decide)))))))
  (css_one (cs_ret (OE.ve (v_sortedK (c := He.codeOf K d_subsets.at_) (P := (He.cT K d_subsets.at_).2) (q := lq_subsets) hr rfl C.f_sorted C.f_len C.t_subsets rfl (lam_mem L_subsets rfl) rfl (ie_var (pvv 1))))))))), C.g_subsets, F.kp, F.bindsN fun _ _ _ _ _ _ us hl => match us, hl with | [_], _ => rfl⟩⟩
theorem sc_moves_at : FnScope ["rows", "own", "row", "at"] ["rows", "own"] (defScope s_moves_at) := ⟨rfl, rfl, rfl, by decide, rfl, by decide, by decide⟩
theorem V_moves_at (C : FC P w K mg base) (o : Option Addr) : DefV P w K mg base (WM K o) "moves_at" 2 g_moves_at := by
  obtain ⟨fd, F⟩ := C.e_moves_at
  exact ⟨⟨_, fd, _, fnV (M := WM K o) F sc_moves_at (fun A outer s H E hr =>
  (css_one (cs_ret (OE.ve (oe_lc rfl sc_moves_at.nd (by exact w_g (v_var 0 (pvv 0))) (blkOk_by (own := [("row", 2)]) rfl) (fun i => by exact g_name 2 sc_moves_at.nd) (fun i => by exact cts_one (by (refine ct_val (VE.re ?_)); exact (by (refine ve_any (own := [("at", 3)]) (is := [3]) (c := He.codeOf K d_moves_at.at_) (P := (He.cT K d_moves_at.at_).2) (k := 0) ?_ ?_ ?_ ?_ ?_ ?_ ?_ ?_ ?_ ?_ ?_ ?_ ?_); (exact hr.mono (by decide)); rfl; (exact C.f_any); (exact C.t_moves_at); rfl; rfl; (exact sc_moves_at.nd); (exact tab_mem T_moves_at rfl); (exact w_g (v_var 1 (pvv 1))); (exact ⟨blkOk_by (own := [("at", 3)]) rfl, rfl, by decide, rfl⟩); (exact fun i => by exact g_name 3 sc_moves_at.nd); (exact fun i => by exact ve_or (VE.re (ve_cmp op_gt od_gt rfl (VE.re (v_get (room1 i.2) (VE.ie (v_get (room1 i.2) (ie_var (pvv 2)) (VE.re (ve_int)))) (re_var (pvv 3)))) (VE.re (ve_int)))) (ve_one (ve_cmp op_gt od_gt rfl (VE.re (v_get (room1 i.2) (VE.ie (v_get (room1 i.2) (ie_var (pvv 2)) (VE.re (ve_int)))) (re_var (pvv 3)))) (VE.re (ve_int))))); decide))) (fun i => by exact v_var 2 (pvv 2)) (by decide)))))), C.g_moves_at, F.kp, F.bindsN fun _ _ _ _ _ _ us hl => match us, hl with | [_, _], _ => rfl⟩⟩
theorem sc_come_from : FnScope ["rows", "own", "start", "found", "at", "name", "takes", "gives", "k"] ["rows", "own", "start"] (defScope s_come_from) := ⟨rfl, rfl, rfl, by decide, rfl, by decide, by decide⟩
theorem V_come_from (C : FC P w K mg base) (o : Option Addr) : DefV P w K mg base (WM K o) "come_from" 1 g_come_from := by
  obtain ⟨fd, F⟩ := C.e_come_from
  exact ⟨⟨_, fd, _, fnV (M := WM K o) F sc_come_from (fun A outer s H E hr =>
  (css_cons (s_set 3 sc_come_from.nd (OE.ve (oe_lst (va_cons (v_var 2 (pvv 2)) (va_nil)))))
  (css_cons (s_set 4 sc_come_from.nd (ve_int))
  (css_cons (cs_while PassesOwn.never (ct_two op_lt od_lt rfl (re_var (pvv 4)) (VE.re (v_len C.f_len (re_var (pvv 3))))) (css_cons (s_for PassesOwn.never rfl (w_s (v_var 0 (pvv 0))) (cg_tup rfl (g_cons (g_name 5 sc_come_from.nd) (g_cons (g_name 6 sc_come_from.nd) (g_cons (g_name 7 sc_come_from.nd) (cgs_nil))))) (css_one (cs_if (ct_two op_gt od_gt rfl (VE.re (v_get (room1 hr) (ie_var (pvv 6)) (VE.re (v_get (room1 hr) (ie_var (pvv 3)) (re_var (pvv 4)))))) (VE.re (ve_int))) (css_one (s_set 3 sc_come_from.nd (ve_opS op_addV os_add (v_var 3 (pvv 3)) (OE.ve (oe_lc rfl sc_come_from.nd (by exact w_g (v_var 1 (pvv 1))) (blkOk_by (own := [("k", 8)]) rfl) (fun i => by exact g_name 8 sc_come_from.nd) (fun i => by exact cts_one (CW.ct (cw_and (ct_two op_gt od_gt rfl (VE.re (v_get (room1 hr) (ie_var (pvv 7)) (re_var (pvv 8)))) (VE.re (ve_int))) (cw_and1 (ct_two (op_hasnt (room65 hr)) od_has rfl (re_var (pvv 8)) (re_var (pvv 3))))))) (fun i => by exact v_var 8 (pvv 8)) (by decide)))))) (css_nil))))
  (css_one (s_aug 4 sc_come_from.nd (VE.re (ve_int))))))
  (css_one (cs_ret (v_var 3 (pvv 3)))))))), C.g_come_from, F.kp, F.bindsN fun _ _ _ _ _ _ us hl => match us, hl with | [_, _, _], _ => rfl⟩⟩
theorem sc_is_machine_part : FnScope ["net", "own", "rows", "name", "takes", "gives", "at"] ["net", "own"] (defScope s_is_machine_part) := ⟨rfl, rfl, rfl, by decide, rfl, by decide, by decide⟩
theorem V_is_machine_part (C : FC P w K mg base) (o : Option Addr) : DefV P w K mg base (WM K o) "is_machine_part" 3 g_is_machine_part := by
  obtain ⟨fd, F⟩ := C.e_is_machine_part
  exact ⟨⟨_, fd, _, fnV (M := WM K o) F sc_is_machine_part (fun A outer s H E hr =>
  (css_cons (s_set 2 sc_is_machine_part.nd (v_cal (V_moves_at C o) hr (va_cons (v_cal (V_rows_of C o) hr (va_cons (v_var 0 (pvv 0)) (va_nil))) (va_cons (v_var 1 (pvv 1)) (va_nil)))))
  (css_cons (s_for PassesOwn.never rfl (w_s (v_var 2 (pvv 2))) (cg_tup rfl (g_cons (g_name 3 sc_is_machine_part.nd) (g_cons (g_name 4 sc_is_machine_part.nd) (g_cons (g_name 5 sc_is_machine_part.nd) (cgs_nil))))) (css_one (cs_if (CW.ct (cw_or (ct_two (op_neV (room64 hr)) od_ne rfl (VE.re (v_sum rfl C.f_sum (VE.re (OE.ve (oe_lc rfl sc_is_machine_part.nd (by exact w_g (v_var 1 (pvv 1))) (blkOk_by (own := [("at", 6)]) rfl) (fun i => by exact g_name 6 sc_is_machine_part.nd) (fun i => by exact cts_nil) (fun i => by exact v_get (room1 hr) (ie_var (pvv 4)) (re_var (pvv 6))) (by decide)))))) (VE.re (ve_int))) (cw_or1 (ct_two (op_neV (room64 hr)) od_ne rfl (VE.re (v_sum rfl C.f_sum (VE.re (OE.ve (oe_lc rfl sc_is_machine_part.nd (by exact w_g (v_var 1 (pvv 1))) (blkOk_by (own := [("at", 6)]) rfl) (fun i => by exact g_name 6 sc_is_machine_part.nd) (fun i => by exact cts_nil) (fun i => by exact v_get (room1 hr) (ie_var (pvv 5)) (re_var (pvv 6))) (by decide)))))) (VE.re (ve_int)))))) (css_one (cs_ret (ve_bl))) (css_nil))))
  (css_one (cs_ret (ve_and (VE.re (ve_cmp op_gt od_gt rfl (VE.re (v_len C.f_len (re_var (pvv 1)))) (VE.re (ve_int)))) (ve_one (ve_all (k := 1) (hr.mono (by decide)) rfl C.f_all C.t_is_machine_part rfl rfl sc_is_machine_part.nd (tab_mem T_is_machine_part rfl) (by exact w_g (v_var 1 (pvv 1))) ⟨blkOk_by (own := [("at", 6)]) rfl, rfl, by decide, rfl⟩ (fun i => by exact g_name 6 sc_is_machine_part.nd) (fun i => by exact ve_cmp (op_eqV (room64 i.2)) od_eq rfl (VE.re (v_len C.f_len (VE.re (v_cal (V_come_from C o) i.2 (va_cons (v_var 2 (pvv 2)) (va_cons (v_var 1 (pvv 1)) (va_cons (v_var 6 (pvv 6)) (va_nil)))))))) (VE.re (v_len C.f_len (re_var (pvv 1))))) (by decide))))))))), C.g_is_machine_part, F.kp, F.bindsN fun _ _ _ _ _ _ us hl => match us, hl with | [_, _], _ => rfl⟩⟩
theorem sc_named : FnScope ["net", "own", "at"] ["net", "own"] (defScope s_named) := ⟨rfl, rfl, rfl, by decide, rfl, by decide, by decide⟩
theorem V_named (C : FC P w K mg base) (o : Option Addr) : DefV P w K mg base (WM K o) "named" 1 g_named := by
  obtain ⟨fd, F⟩ := C.e_named
  exact ⟨⟨_, fd, _, fnV (M := WM K o) F sc_named (fun A outer s H E hr =>
  (css_one (cs_ret (v_tuple C.f_tuple (VE.ie (OE.ve (oe_lc rfl sc_named.nd (by exact w_g (v_var 1 (pvv 1))) (blkOk_by (own := [("at", 2)]) rfl) (fun i => by exact g_name 2 sc_named.nd) (fun i => by exact cts_nil) (fun i => by exact v_get (room1 hr) (VE.ie (ve_fld (c := 0) (j := 0) (v_var 0 (pvv 0)) C.c_Net C.n_Net_places rfl (show (["places", "moves"] : List Str).Nodup by decide))) (re_var (pvv 2))) (by decide)))))))), C.g_named, F.kp, F.bindsN fun _ _ _ _ _ _ us hl => match us, hl with | [_, _], _ => rfl⟩⟩
theorem sc_machine_parts : FnScope ["net", "own"] ["net"] (defScope s_machine_parts) := ⟨rfl, rfl, rfl, by decide, rfl, by decide, by decide⟩
theorem V_machine_parts (C : FC P w K mg base) (o : Option Addr) : DefV P w K mg base (WM K o) "machine_parts" 4 g_machine_parts := by
  obtain ⟨fd, F⟩ := C.e_machine_parts
  exact ⟨⟨_, fd, _, fnV (M := WM K o) F sc_machine_parts (fun A outer s H E hr =>
  (css_one (cs_ret (v_tuple C.f_tuple (VE.ie (OE.ve (oe_lc rfl sc_machine_parts.nd (by exact w_g (v_cal (V_subsets C o) hr (va_cons (v_len C.f_len (VE.re (ve_fld (c := 0) (j := 0) (v_var 0 (pvv 0)) C.c_Net C.n_Net_places rfl (show (["places", "moves"] : List Str).Nodup by decide)))) (va_nil)))) (blkOk_by (own := [("own", 1)]) rfl) (fun i => by exact g_name 1 sc_machine_parts.nd) (fun i => by exact cts_one (ct_val (VE.re (v_cal (V_is_machine_part C o) hr (va_cons (v_var 0 (pvv 0)) (va_cons (v_var 1 (pvv 1)) (va_nil))))))) (fun i => by exact v_cal (V_named C o) hr (va_cons (v_var 0 (pvv 0)) (va_cons (v_var 1 (pvv 1)) (va_nil)))) (by decide)))))))), C.g_machine_parts, F.kp, F.bindsN fun _ _ _ _ _ _ us hl => match us, hl with | [_], _ => rfl⟩⟩
theorem sc_rank_of : FnScope ["net", "rows", "rank", "at", "found", "change", "first", "k", "times", "j"] ["net"] (defScope s_rank_of) := ⟨rfl, rfl, rfl, by decide, rfl, by decide, by decide⟩
theorem V_rank_of (C : FC P w K mg base) (o : Option Addr) : DefV P w K mg base (WM K o) "rank_of" 4 g_rank_of := by
  obtain ⟨fd, F⟩ := C.e_rank_of
  exact ⟨⟨_, fd, _, fnV (M := WM K o) F sc_rank_of (fun A outer s H E hr =>
  (css_cons (s_own 1 sc_rank_of.nd (oe_lc rfl sc_rank_of.nd (by exact w_g (v_cal (V_changes_of C o) hr (va_cons (v_var 0 (pvv 0)) (va_nil)))) (blkOk_by (own := [("change", 5)]) rfl) (fun i => by exact g_name 5 sc_rank_of.nd) (fun i => by exact cts_nil) (fun i => by exact OE.ve (v_list C.f_list (ie_var (pvv 5)))) (by decide)))
  (css_cons (s_set 2 sc_rank_of.nd (ve_int))
  (css_cons (s_for PassesOwn.never rfl (w_r1 C.f_range (VE.re (v_len C.f_len (VE.re (ve_fld (c := 0) (j := 0) (v_var 0 (pvv 0)) C.c_Net C.n_Net_places rfl (show (["places", "moves"] : List Str).Nodup by decide)))))) (g_name 3 sc_rank_of.nd) (css_cons (cs_setLc (i := 4) rfl sc_rank_of.nd rfl rfl rfl (by exact CWs.g (w_r2 C.f_range (re_var (pvv 2)) (VE.re (v_len C.f_len (re_var (pvv 1)))))) (blkOk_by (own := [("k", 7)]) rfl) (fun i => by exact g_name 7 sc_rank_of.nd) (fun i => by exact cts_one (ct_two (op_neV (room64 hr)) od_ne rfl (VE.re (v_get (room1 hr) (VE.ie (v_get (room1 hr) (ie_var (pvv 1)) (re_var (pvv 7)))) (re_var (pvv 3)))) (VE.re (ve_int)))) (fun i => by exact v_var 7 (pvv 7)) (by decide))
  (css_one (cs_if (ct_two op_gt od_gt rfl (VE.re (v_len C.f_len (re_var (pvv 4)))) (VE.re (ve_int))) (css_cons (cs_put2 rfl (pvv 1) (re_var (pvv 2)) (VE.re (v_get (room1 hr) (ie_var (pvv 4)) (VE.re (ve_int)))) (v_get (room1 hr) (ie_var (pvv 1)) (VE.re (v_get (room1 hr) (ie_var (pvv 4)) (VE.re (ve_int))))) (v_get (room1 hr) (ie_var (pvv 1)) (re_var (pvv 2))))
  (css_cons (s_set 6 sc_rank_of.nd (v_get (room1 hr) (ie_var (pvv 1)) (re_var (pvv 2))))
  (css_cons (s_for PassesOwn.never rfl (w_r2 C.f_range (VE.re (ve_opS op_addV os_add (v_var 2 (pvv 2)) (ve_int))) (VE.re (v_len C.f_len (re_var (pvv 1))))) (g_name 7 sc_rank_of.nd) (css_cons (s_set 8 sc_rank_of.nd (v_get (room1 hr) (VE.ie (v_get (room1 hr) (ie_var (pvv 1)) (re_var (pvv 7)))) (re_var (pvv 3))))
  (css_one (cs_put (pvv 1) (re_var (pvv 7)) (OE.ve (oe_lc rfl sc_rank_of.nd (by exact CWs.g (w_r1 C.f_range (VE.re (v_len C.f_len (re_var (pvv 6)))))) (blkOk_by (own := [("j", 9)]) rfl) (fun i => by exact g_name 9 sc_rank_of.nd) (fun i => by exact cts_nil) (fun i => by exact ve_op op_sub od_sub (VE.re (ve_op op_mul od_mul (VE.re (v_get (room1 hr) (ie_var (pvv 6)) (re_var (pvv 3)))) (VE.re (v_get (room1 hr) (VE.ie (v_get (room1 hr) (ie_var (pvv 1)) (re_var (pvv 7)))) (re_var (pvv 9)))))) (VE.re (ve_op op_mul od_mul (re_var (pvv 8)) (VE.re (v_get (room1 hr) (ie_var (pvv 6)) (re_var (pvv 9))))))) (by decide)))))))
  (css_one (s_aug 2 sc_rank_of.nd (VE.re (ve_int))))))) (css_nil)))))
  (css_one (cs_ret (v_var 2 (pvv 2)))))))), C.g_rank_of, F.kp, F.bindsN fun _ _ _ _ _ _ us hl => match us, hl with | [_], _ => rfl⟩⟩
theorem sc_check_mark : FnScope ["net", "mark", "number"] ["net", "mark"] (defScope s_check_mark) := ⟨rfl, rfl, rfl, by decide, rfl, by decide, by decide⟩
theorem V_check_mark (C : FC P w K mg base) (o : Option Addr) : DefV P w K mg base (WM K o) "check_mark" 2 g_check_mark := by
  obtain ⟨fd, F⟩ := C.e_check_mark
  exact ⟨⟨_, fd, _, fnV (M := WM K o) F sc_check_mark (fun A outer s H E hr =>
  (css_cons (cs_if (CW.ct (cw_or (ct_not (ct_val (VE.re (v_isT (T := "tuple") (by decide) C.f_isinstance C.f_tuple PyProof.Rows.boot_tuple (re_var (pvv 1)))))) (cw_or1 (ct_two (op_neV (room64 hr)) od_ne rfl (VE.re (v_len C.f_len (re_var (pvv 1)))) (VE.re (v_len C.f_len (VE.re (ve_fld (c := 0) (j := 0) (v_var 0 (pvv 0)) C.c_Net C.n_Net_places rfl (show (["places", "moves"] : List Str).Nodup by decide))))))))) (css_never) (css_nil))
  (css_one (s_for PassesOwn.never rfl (w_s (v_var 1 (pvv 1))) (g_name 2 sc_check_mark.nd) (css_one (cs_if (ct_not (ct_val (VE.re (v_cal (V_is_number C o) hr (va_cons (v_var 2 (pvv 2)) (va_cons (ve_int) (va_nil))))))) (css_never) (css_nil))))))), C.g_check_mark, F.kp, F.bindsN fun _ _ _ _ _ _ us hl => match us, hl with | [_, _], _ => rfl⟩⟩
theorem sc_is_enough : FnScope ["mark", "takes", "at"] ["mark", "takes"] (defScope s_is_enough) := ⟨rfl, rfl, rfl, by decide, rfl, by decide, by decide⟩
theorem V_is_enough (C : FC P w K mg base) (o : Option Addr) : DefV P w K mg base (WM K o) "is_enough" 2 g_is_enough := by
  obtain ⟨fd, F⟩ := C.e_is_enough
  exact ⟨⟨_, fd, _, fnV (M := WM K o) F sc_is_enough (fun A outer s H E hr =>
  (css_one (cs_ret (ve_all (k := 0) (hr.mono (by decide)) rfl C.f_all C.t_is_enough rfl rfl sc_is_enough.nd (tab_mem T_is_enough rfl) (by exact CWs.g (w_r1 C.f_range (VE.re (v_len C.f_len (re_var (pvv 0)))))) ⟨blkOk_by (own := [("at", 2)]) rfl, rfl, by decide, rfl⟩ (fun i => by exact g_name 2 sc_is_enough.nd) (fun i => by exact ve_cmp op_ge od_ge rfl (VE.re (v_get (room1 i.2) (ie_var (pvv 0)) (re_var (pvv 2)))) (VE.re (v_get (room1 i.2) (ie_var (pvv 1)) (re_var (pvv 2))))) (by decide))))), C.g_is_enough, F.kp, F.bindsN fun _ _ _ _ _ _ us hl => match us, hl with | [_, _], _ => rfl⟩⟩
theorem sc_moved : FnScope ["mark", "takes", "gives", "at"] ["mark", "takes", "gives"] (defScope s_moved) := ⟨rfl, rfl, rfl, by decide, rfl, by decide, by decide⟩
theorem V_moved (C : FC P w K mg base) (o : Option Addr) : DefV P w K mg base (WM K o) "moved" 1 g_moved := by
  obtain ⟨fd, F⟩ := C.e_moved
  exact ⟨⟨_, fd, _, fnV (M := WM K o) F sc_moved (fun A outer s H E hr =>
  (css_one (cs_ret (v_tuple C.f_tuple (VE.ie (OE.ve (oe_lc rfl sc_moved.nd (by exact CWs.g (w_r1 C.f_range (VE.re (v_len C.f_len (re_var (pvv 0)))))) (blkOk_by (own := [("at", 3)]) rfl) (fun i => by exact g_name 3 sc_moved.nd) (fun i => by exact cts_nil) (fun i => by exact ve_opS op_addV os_add (ve_op op_sub od_sub (VE.re (v_get (room1 hr) (ie_var (pvv 0)) (re_var (pvv 3)))) (VE.re (v_get (room1 hr) (ie_var (pvv 1)) (re_var (pvv 3))))) (v_get (room1 hr) (ie_var (pvv 2)) (re_var (pvv 3)))) (by decide)))))))), C.g_moved, F.kp, F.bindsN fun _ _ _ _ _ _ us hl => match us, hl with | [_, _, _], _ => rfl⟩⟩
theorem sc_explored : FnScope ["net", "mark", "most", "rows", "marks", "before", "found", "steps", "at", "name", "takes", "gives", "behind"] ["net", "mark", "most"] (defScope s_explored) := ⟨rfl, rfl, rfl, by decide, rfl, by decide, by decide⟩
theorem V_explored (C : FC P w K mg base) (o : Option Addr) : DefV P w K mg base (WM K o) "explored" 3 g_explored := by
  obtain ⟨fd, F⟩ := C.e_explored
  exact ⟨⟨_, fd, _, fnV (M := WM K o) F sc_explored (fun A outer s H E hr =>
  (css_cons (s_set 3 sc_explored.nd (v_cal (V_rows_of C o) hr (va_cons (v_var 0 (pvv 0)) (va_nil))))
  (css_cons (s_own 4 sc_explored.nd (oe_lst (va_cons (v_var 1 (pvv 1)) (va_nil))))
  (css_cons (s_own 5 sc_explored.nd (oe_lst (va_cons (ve_non) (va_nil))))
  (css_cons (s_own 6 sc_explored.nd (oe_dic1 (room0 hr) (v_var 1 (pvv 1)) (ve_int)))
  (css_cons (s_own 7 sc_explored.nd (oe_lst (va_nil)))
  (css_cons (s_set 8 sc_explored.nd (ve_int))
  (css_cons (cs_while PassesOwn.never (ct_two op_lt od_lt rfl (re_var (pvv 8)) (VE.re (v_len C.f_len (re_var (pvv 4))))) (css_cons (s_for PassesOwn.never rfl (w_s (v_var 3 (pvv 3))) (cg_tup rfl (g_cons (g_name 9 sc_explored.nd) (g_cons (g_name 10 sc_explored.nd) (g_cons (g_name 11 sc_explored.nd) (cgs_nil))))) (css_one (cs_if (ct_val (VE.re (v_cal (V_is_enough C o) hr (va_cons (v_get (room1 hr) (ie_var (pvv 4)) (re_var (pvv 8))) (va_cons (v_var 10 (pvv 10)) (va_nil)))))) (css_cons (s_set 12 sc_explored.nd (v_cal (V_moved C o) hr (va_cons (v_get (room1 hr) (ie_var (pvv 4)) (re_var (pvv 8))) (va_cons (v_var 10 (pvv 10)) (va_cons (v_var 11 (pvv 11)) (va_nil))))))
  (css_cons (cs_if (ct_two (op_hasnt (room65 hr)) od_has rfl (re_var (pvv 12)) (re_var (pvv 6))) (css_cons (cs_if (ct_two op_ge od_ge rfl (VE.re (v_len C.f_len (re_var (pvv 4)))) (re_var (pvv 2))) (css_never) (css_nil))
  (css_cons (cs_dput (room1 hr) (pvv 6) (v_var 12 (pvv 12)) (v_len C.f_len (re_var (pvv 4))))
  (css_cons (cs_app (pvv 4) (v_var 12 (pvv 12)))
  (css_one (cs_app (pvv 5) (ve_tup (va_cons (v_var 8 (pvv 8)) (va_cons (v_var 9 (pvv 9)) (va_nil))))))))) (css_nil))
  (css_one (cs_app (pvv 7) (ve_tup (va_cons (v_var 8 (pvv 8)) (va_cons (v_var 9 (pvv 9)) (va_cons (v_get (room1 hr) (ie_var (pvv 6)) (re_var (pvv 12))) (va_nil))))))))) (css_nil))))
  (css_one (s_aug 8 sc_explored.nd (VE.re (ve_int))))))
  (css_one (cs_frz [4, 5, 7] (cs_ret (ve_tup (va_cons (v_var 4 (pvv 4)) (va_cons (v_var 5 (pvv 5)) (va_cons (v_var 7 (pvv 7)) (va_nil)))))))))))))))), C.g_explored, F.kp, F.bindsN fun _ _ _ _ _ _ us hl => match us, hl with | [_, _, _], _ => rfl⟩⟩
theorem sc_reached : FnScope ["net", "mark", "most", "marks", "before", "steps"] ["net", "mark", "most"] (defScope s_reached) := ⟨rfl, rfl, rfl, by decide, rfl, by decide, by decide⟩
theorem V_reached (C : FC P w K mg base) (o : Option Addr) : DefVD P w K mg base (WM K o) "reached" 4 g_reached [.int 500] := by
  obtain ⟨fd, F⟩ := C.e_reached
  exact DefVD.of_kw F (fnV (M := WM K o) F sc_reached (fun A outer s H E hr =>
  (css_cons (cs_drop (VE.re (v_cal (V_check_mark C o) hr (va_cons (v_var 0 (pvv 0)) (va_cons (v_var 1 (pvv 1)) (va_nil))))))
  (css_cons (cs_asg (v_cal (V_explored C o) hr (va_cons (v_var 0 (pvv 0)) (va_cons (v_var 1 (pvv 1)) (va_cons (v_var 2 (pvv 2)) (va_nil))))) (cg_tup rfl (g_cons (g_name 3 sc_reached.nd) (g_cons (g_name 4 sc_reached.nd) (g_cons (g_name 5 sc_reached.nd) (cgs_nil))))))
  (css_one (cs_ret (v_tuple C.f_tuple (ie_var (pvv 3))))))))) C.g_reached 2 rfl (fun z => nomatch z) rfl (fun _ _ => .cons (.int _) .nil) (fun _ _ _ _ _ _ us ks hl hk => match us, hl, ks, hk with | [_, _], _, [_], _ => ⟨_, _, _, _, _, _, rfl, rfl, rfl⟩)
theorem sc_word_to : FnScope ["before", "at", "word", "name"] ["before", "at"] (defScope s_word_to) := ⟨rfl, rfl, rfl, by decide, rfl, by decide, by decide⟩
theorem V_word_to (C : FC P w K mg base) (o : Option Addr) : DefV P w K mg base (WM K o) "word_to" 1 g_word_to := by
  obtain ⟨fd, F⟩ := C.e_word_to
  exact ⟨⟨_, fd, _, fnV (M := WM K o) F sc_word_to (fun A outer s H E hr =>
  (css_cons (s_own 2 sc_word_to.nd (oe_lst (va_nil)))
  (css_cons (cs_while PassesOwn.never (ct_isntN (VE.re (v_get (room1 hr) (ie_var (pvv 0)) (re_var (pvv 1))))) (css_cons (cs_asg (v_get (room1 hr) (ie_var (pvv 0)) (re_var (pvv 1))) (cg_tup rfl (g_cons (g_name 1 sc_word_to.nd) (g_cons (g_name 3 sc_word_to.nd) (cgs_nil)))))
  (css_one (cs_app (pvv 2) (v_var 3 (pvv 3))))))
  (css_one (cs_ret (ve_tupRev rfl rfl C.f_tuple rfl C.f_reversed (ie_var (pvv 2)))))))), C.g_word_to, F.kp, F.bindsN fun _ _ _ _ _ _ us hl => match us, hl with | [_, _], _ => rfl⟩⟩
theorem sc_way : FnScope ["net", "mark", "goal", "most", "rows", "marks", "before", "found", "at", "name", "takes", "gives", "behind"] ["net", "mark", "goal", "most"] (defScope s_way) := ⟨rfl, rfl, rfl, by decide, rfl, by decide, by decide⟩
theorem V_way (C : FC P w K mg base) (o : Option Addr) : DefVD P w K mg base (WM K o) "way" 3 g_way [.int 500] := by
  obtain ⟨fd, F⟩ := C.e_way
  exact DefVD.of_kw F (fnV (M := WM K o) F sc_way (fun A outer s H E hr =>
  (css_cons (cs_drop (VE.re (v_cal (V_check_mark C o) hr (va_cons (v_var 0 (pvv 0)) (va_cons (v_var 1 (pvv 1)) (va_nil))))))
  (css_cons (cs_drop (VE.re (v_cal (V_check_mark C o) hr (va_cons (v_var 0 (pvv 0)) (va_cons (v_var 2 (pvv 2)) (va_nil))))))
  (css_cons (s_set 4 sc_way.nd (v_cal (V_rows_of C o) hr (va_cons (v_var 0 (pvv 0)) (va_nil))))
  (css_cons (s_own 5 sc_way.nd (oe_lst (va_cons (v_var 1 (pvv 1)) (va_nil))))
  (css_cons (s_own 6 sc_way.nd (oe_lst (va_cons (ve_non) (va_nil))))
  (css_cons (s_own 7 sc_way.nd (oe_dic1 (room0 hr) (v_var 1 (pvv 1)) (ve_int)))
  (css_cons (s_set 8 sc_way.nd (ve_int))
  (css_cons (cs_while PassesOwn.never (CW.ct (cw_and (ct_two op_lt od_lt rfl (re_var (pvv 8)) (VE.re (v_len C.f_len (re_var (pvv 5))))) (cw_and1 (ct_two (op_hasnt (room65 hr)) od_has rfl (re_var (pvv 2)) (re_var (pvv 7)))))) (css_cons (s_for PassesOwn.never rfl (w_s (v_var 4 (pvv 4))) (cg_tup rfl (g_cons (g_name 9 sc_way.nd) (g_cons (g_name 10 sc_way.nd) (g_cons (g_name 11 sc_way.nd) (cgs_nil))))) (css_one (cs_if (ct_val (VE.re (v_cal (V_is_enough C o) hr (va_cons (v_get (room1 hr) (ie_var (pvv 5)) (re_var (pvv 8))) (va_cons (v_var 10 (pvv 10)) (va_nil)))))) (css_cons (s_set 12 sc_way.nd (v_cal (V_moved C o) hr (va_cons (v_get (room1 hr) (ie_var (pvv 5)) (re_var (pvv 8))) (va_cons (v_var 10 (pvv 10)) (va_cons (v_var 11 (pvv 11)) (va_nil))))))
  (css_one (cs_if (CW.ct (cw_and (ct_two (op_hasnt (room65 hr)) od_has rfl (re_var (pvv 12)) (re_var (pvv 7))) (cw_and1 (ct_two (op_hasnt (room65 hr)) od_has rfl (re_var (pvv 2)) (re_var (pvv 7)))))) (css_cons (cs_if (ct_two op_ge od_ge rfl (VE.re (v_len C.f_len (re_var (pvv 5)))) (re_var (pvv 3))) (css_never) (css_nil))
  (css_cons (cs_dput (room1 hr) (pvv 7) (v_var 12 (pvv 12)) (v_len C.f_len (re_var (pvv 5))))
  (css_cons (cs_app (pvv 5) (v_var 12 (pvv 12)))
  (css_one (cs_app (pvv 6) (ve_tup (va_cons (v_var 8 (pvv 8)) (va_cons (v_var 9 (pvv 9)) (va_nil))))))))) (css_nil)))) (css_nil))))
  (css_one (s_aug 8 sc_way.nd (VE.re (ve_int))))))
  (css_cons (cs_if (ct_two (op_hasnt (room65 hr)) od_has rfl (re_var (pvv 2)) (re_var (pvv 7))) (css_one (cs_ret (ve_non))) (css_nil))
  (css_one (cs_frz [6] (cs_ret (v_cal (V_word_to C o) hr (va_cons (v_var 6 (pvv 6)) (va_cons (v_get (room1 hr) (ie_var (pvv 7)) (re_var (pvv 2))) (va_nil)))))))))))))))))) C.g_way 3 rfl (fun z => nomatch z) rfl (fun _ _ => .cons (.int _) .nil) (fun _ _ _ _ _ _ us ks hl hk => match us, hl, ks, hk with | [_, _, _], _, [_], _ => ⟨_, _, _, _, _, _, rfl, rfl, rfl⟩)
theorem sc_found_move : FnScope ["net", "name", "row"] ["net", "name"] (defScope s_found_move) := ⟨rfl, rfl, rfl, by decide, rfl, by decide, by decide⟩
theorem V_found_move (C : FC P w K mg base) (o : Option Addr) : DefV P w K mg base (WM K o) "found_move" 3 g_found_move := by
  obtain ⟨fd, F⟩ := C.e_found_move
  exact ⟨⟨_, fd, _, fnV (M := WM K o) F sc_found_move (fun A outer s H E hr =>
  (css_cons (s_for PassesOwn.never rfl (w_s (v_cal (V_rows_of C o) hr (va_cons (v_var 0 (pvv 0)) (va_nil)))) (g_name 2 sc_found_move.nd) (css_one (cs_if (ct_two (op_eqV (room64 hr)) od_eq rfl (VE.re (v_get (room1 hr) (ie_var (pvv 2)) (VE.re (ve_int)))) (re_var (pvv 1))) (css_one (cs_ret (v_var 2 (pvv 2)))) (css_nil))))
  (css_one (cs_never)))), C.g_found_move, F.kp, F.bindsN fun _ _ _ _ _ _ us hl => match us, hl with | [_, _], _ => rfl⟩⟩
theorem sc_run : FnScope ["net", "mark", "word", "rows", "at", "name", "takes", "gives"] ["net", "mark", "word"] (defScope s_run) := ⟨rfl, rfl, rfl, by decide, rfl, by decide, by decide⟩
theorem V_run (C : FC P w K mg base) (o : Option Addr) : DefV P w K mg base (WM K o) "run" 4 g_run := by
  obtain ⟨fd, F⟩ := C.e_run
  exact ⟨⟨_, fd, _, fnV (M := WM K o) F sc_run (fun A outer s H E hr =>
  (css_cons (cs_drop (VE.re (v_cal (V_check_mark C o) hr (va_cons (v_var 0 (pvv 0)) (va_cons (v_var 1 (pvv 1)) (va_nil))))))
  (css_cons (cs_setLc (i := 3) rfl sc_run.nd rfl rfl rfl (by exact w_g (v_var 2 (pvv 2))) (blkOk_by (own := [("name", 5)]) rfl) (fun i => by exact g_name 5 sc_run.nd) (fun i => by exact cts_nil) (fun i => by exact v_cal (V_found_move C o) hr (va_cons (v_var 0 (pvv 0)) (va_cons (v_var 5 (pvv 5)) (va_nil)))) (by decide))
  (css_cons (s_for PassesOwn.never rfl (w_r1 C.f_range (VE.re (v_len C.f_len (re_var (pvv 3))))) (g_name 4 sc_run.nd) (css_cons (cs_asg (v_get (room1 hr) (ie_var (pvv 3)) (re_var (pvv 4))) (cg_tup rfl (g_cons (g_name 5 sc_run.nd) (g_cons (g_name 6 sc_run.nd) (g_cons (g_name 7 sc_run.nd) (cgs_nil))))))
  (css_cons (cs_if (ct_not (ct_val (VE.re (v_cal (V_is_enough C o) hr (va_cons (v_var 1 (pvv 1)) (va_cons (v_var 6 (pvv 6)) (va_nil))))))) (css_never) (css_nil))
  (css_one (s_set 1 sc_run.nd (v_cal (V_moved C o) hr (va_cons (v_var 1 (pvv 1)) (va_cons (v_var 6 (pvv 6)) (va_cons (v_var 7 (pvv 7)) (va_nil))))))))))
  (css_one (cs_ret (v_var 1 (pvv 1)))))))), C.g_run, F.kp, F.bindsN fun _ _ _ _ _ _ us hl => match us, hl with | [_, _, _], _ => rfl⟩⟩
theorem sc_law : FnScope ["script", "mark", "found", "net", "n", "back", "some", "marks", "goal", "there", "row", "places", "moves", "k"] ["script"] (defScope s_law) := ⟨rfl, rfl, rfl, by decide, rfl, by decide, by decide⟩
theorem ok_law (C : FC P w K mg base) (o : Option Addr) {fd : FuncData} (F : FunD K d_law.name d_law.qual d_law.params d_law.body d_law.scope (d_law.dvs K) (d_law.kws K) (He.fAd K d_law.at_) fd) : FnOk P w K mg base CX0 8 (He.fAd K d_law.at_) fd ["script"] (spV (kp P w K (WM K o)) g_law) := fnV (M := WM K o) F sc_law (fun A outer s H E hr =>
  (css_cons (cs_asg (v_cal (V__law_net C o) hr (va_cons (v_cal (V__law_cell C o) hr (va_cons (v_var 0 (pvv 0)) (va_cons (ve_int) (va_nil)))) (va_nil))) (cg_tup rfl (g_cons (g_name 11 sc_law.nd) (g_cons (g_name 12 sc_law.nd) (cgs_nil)))))
  (css_cons (s_set 1 sc_law.nd (v_cal (V__law_mark C o) hr (va_cons (v_cal (V__law_cell C o) hr (va_cons (v_var 0 (pvv 0)) (va_cons (ve_int) (va_nil)))) (va_cons (v_len C.f_len (re_var (pvv 11))) (va_nil)))))
  (css_cons (s_set 2 sc_law.nd (v_cal (V__law_reached C o) hr (va_cons (v_cal (V__law_rows C o) hr (va_cons (v_var 11 (pvv 11)) (va_cons (v_var 12 (pvv 12)) (va_nil)))) (va_cons (v_var 1 (pvv 1)) (va_cons (ve_int) (va_nil))))))
  (css_cons (cs_if (ct_isN (re_var (pvv 2))) (css_one (cs_ret (ve_bl))) (css_nil))
  (css_cons (s_set 3 sc_law.nd (v_make (V_Net_init C o) hr (va_cons (v_var 11 (pvv 11)) (va_cons (v_var 12 (pvv 12)) (va_nil)))))
  (css_cons (s_set 4 sc_law.nd (v_cal (V__law_draws C o) hr (va_cons (v_cal (V__law_cell C o) hr (va_cons (v_var 0 (pvv 0)) (va_cons (ve_int) (va_nil)))) (va_cons (ve_int) (va_nil)))))
  (css_cons (s_set 5 sc_law.nd (v_cal (V_turned_back C o) hr (va_cons (v_var 3 (pvv 3)) (va_nil))))
  (css_cons (cs_if (CW.ct (cw_or (ct_two (op_neV (room64 hr)) od_ne rfl (VE.re (ve_fld (c := 0) (j := 1) (v_cal (V_turned_back C o) hr (va_cons (v_var 5 (pvv 5)) (va_nil))) C.c_Net C.n_Net_moves rfl (show (["places", "moves"] : List Str).Nodup by decide))) (VE.re (ve_fld (c := 0) (j := 1) (v_var 3 (pvv 3)) C.c_Net C.n_Net_moves rfl (show (["places", "moves"] : List Str).Nodup by decide)))) (cw_or1 (ct_two (op_neV (room64 hr)) od_ne rfl (VE.re (ve_fld (c := 0) (j := 0) (v_var 5 (pvv 5)) C.c_Net C.n_Net_places rfl (show (["places", "moves"] : List Str).Nodup by decide))) (VE.re (ve_fld (c := 0) (j := 0) (v_var 3 (pvv 3)) C.c_Net C.n_Net_places rfl (show (["places", "moves"] : List Str).Nodup by decide))))))) (css_one (cs_ret (ve_bl))) (css_nil))
  (css_cons (s_set 6 sc_law.nd (v_tuple C.f_tuple (VE.ie (OE.ve (oe_lc rfl sc_law.nd (by exact CWs.g (w_r1 C.f_range (VE.re (v_len C.f_len (re_var (pvv 11)))))) (blkOk_by (own := [("k", 13)]) rfl) (fun i => by exact g_name 13 sc_law.nd) (fun i => by exact cts_one (ct_two (op_eqV (room64 hr)) od_eq rfl (VE.re (ve_op op_mod od_mod (VE.re (v_get (room1 hr) (ie_var (pvv 4)) (re_var (pvv 13)))) (VE.re (ve_int)))) (VE.re (ve_int)))) (fun i => by exact v_get (room1 hr) (ie_var (pvv 11)) (re_var (pvv 13))) (by decide))))))
  (css_cons (cs_if (ct_two (op_eqV (room64 hr)) od_eq rfl (VE.re (v_len C.f_len (re_var (pvv 6)))) (VE.re (ve_int))) (css_one (s_set 6 sc_law.nd (ve_take (v_var 11 (pvv 11)) (VE.re (ve_int))))) (css_nil))
  (css_cons (cs_if (CW.ct (cw_or (ct_two (op_neV (room64 hr)) od_ne rfl (VE.re (v_cal (V_is_siphon C o) hr (va_cons (v_var 5 (pvv 5)) (va_cons (v_var 6 (pvv 6)) (va_nil))))) (VE.re (v_cal (V_is_trap C o) hr (va_cons (v_var 3 (pvv 3)) (va_cons (v_var 6 (pvv 6)) (va_nil)))))) (cw_or1 (ct_two (op_neV (room64 hr)) od_ne rfl (VE.re (v_cal (V_is_trap C o) hr (va_cons (v_var 5 (pvv 5)) (va_cons (v_var 6 (pvv 6)) (va_nil))))) (VE.re (v_cal (V_is_siphon C o) hr (va_cons (v_var 3 (pvv 3)) (va_cons (v_var 6 (pvv 6)) (va_nil))))))))) (css_one (cs_ret (ve_bl))) (css_nil))
  (css_cons (cs_if (CW.ct (cw_or (ct_two (op_neV (room64 hr)) od_ne rfl (VE.re (v_cal (V_greatest_siphon C o) hr (va_cons (v_var 5 (pvv 5)) (va_cons (v_var 6 (pvv 6)) (va_nil))))) (VE.re (v_cal (V_greatest_trap C o) hr (va_cons (v_var 3 (pvv 3)) (va_cons (v_var 6 (pvv 6)) (va_nil)))))) (cw_or (ct_two (op_neV (room64 hr)) od_ne rfl (VE.re (v_cal (V_place_laws C o) hr (va_cons (v_var 5 (pvv 5)) (va_nil)))) (VE.re (v_cal (V_place_laws C o) hr (va_cons (v_var 3 (pvv 3)) (va_nil))))) (cw_or1 (ct_two (op_neV (room64 hr)) od_ne rfl (VE.re (v_cal (V_move_laws C o) hr (va_cons (v_var 5 (pvv 5)) (va_nil)))) (VE.re (v_cal (V_move_laws C o) hr (va_cons (v_var 3 (pvv 3)) (va_nil))))))))) (css_one (cs_ret (ve_bl))) (css_nil))
  (css_cons (cs_if (CW.ct (cw_or (ct_two (op_neV (room64 hr)) od_ne rfl (VE.re (v_cal (V_machine_parts C o) hr (va_cons (v_var 5 (pvv 5)) (va_nil)))) (VE.re (v_cal (V_machine_parts C o) hr (va_cons (v_var 3 (pvv 3)) (va_nil))))) (cw_or1 (ct_two (op_neV (room64 hr)) od_ne rfl (VE.re (v_cal (V_rank_of C o) hr (va_cons (v_var 5 (pvv 5)) (va_nil)))) (VE.re (v_cal (V_rank_of C o) hr (va_cons (v_var 3 (pvv 3)) (va_nil)))))))) (css_one (cs_ret (ve_bl))) (css_nil))
  (css_cons (s_set 7 sc_law.nd (v_calD (V_reached C o) hr (va_cons (v_var 3 (pvv 3)) (va_cons (v_var 1 (pvv 1)) (va_nil)))))
  (css_cons (cs_if (ct_two (op_neV (room64 hr)) od_ne rfl (re_var (pvv 7)) (VE.re (v_tuple C.f_tuple (VE.ie (v_get (room1 hr) (ie_var (pvv 2)) (VE.re (ve_int))))))) (css_one (cs_ret (ve_bl))) (css_nil))
  (css_cons (s_set 8 sc_law.nd (v_get (room1 hr) (ie_var (pvv 7)) (VE.re (ve_op op_mod od_mod (VE.re (v_get (room1 hr) (ie_var (pvv 4)) (VE.re (ve_int)))) (VE.re (v_len C.f_len (re_var (pvv 7))))))))
  (css_cons (s_set 9 sc_law.nd (v_calD (V_way C o) hr (va_cons (v_var 3 (pvv 3)) (va_cons (v_var 1 (pvv 1)) (va_cons (v_var 8 (pvv 8)) (va_nil))))))
  (css_cons (cs_if (CW.ct (cw_or (ct_two (op_neV (room64 hr)) od_ne rfl (VE.re (v_cal (V_run C o) hr (va_cons (v_var 3 (pvv 3)) (va_cons (v_var 1 (pvv 1)) (va_cons (v_var 9 (pvv 9)) (va_nil)))))) (re_var (pvv 8))) (cw_or1 (ct_two (op_neV (room64 hr)) od_ne rfl (VE.re (v_cal (V_run C o) hr (va_cons (v_var 5 (pvv 5)) (va_cons (v_var 8 (pvv 8)) (va_cons (v_tuple C.f_tuple (VE.ie (OE.ve (oe_listRev rfl rfl C.f_list rfl C.f_reversed (ie_var (pvv 9)))))) (va_nil)))))) (re_var (pvv 1)))))) (css_one (cs_ret (ve_bl))) (css_nil))
  (css_cons (s_for PassesOwn.never rfl (w_s (v_cal (V_place_laws C o) hr (va_cons (v_var 3 (pvv 3)) (va_nil)))) (g_name 10 sc_law.nd) (css_one (cs_if (ct_two (op_neV (room64 hr)) od_ne rfl (VE.re (v_sum rfl C.f_sum (VE.re (OE.ve (oe_lc rfl sc_law.nd (by exact CWs.g (w_r1 C.f_range (VE.re (v_len C.f_len (re_var (pvv 10)))))) (blkOk_by (own := [("k", 13)]) rfl) (fun i => by exact g_name 13 sc_law.nd) (fun i => by exact cts_nil) (fun i => by exact ve_op op_mul od_mul (VE.re (v_get (room1 hr) (ie_var (pvv 10)) (re_var (pvv 13)))) (VE.re (v_get (room1 hr) (ie_var (pvv 8)) (re_var (pvv 13))))) (by decide)))))) (VE.re (v_sum rfl C.f_sum (VE.re (OE.ve (oe_lc rfl sc_law.nd (by exact CWs.g (w_r1 C.f_range (VE.re (v_len C.f_len (re_var (pvv 10)))))) (blkOk_by (own := [("k", 13)]) rfl) (fun i => by exact g_name 13 sc_law.nd) (fun i => by exact cts_nil) (fun i => by exact ve_op op_mul od_mul (VE.re (v_get (room1 hr) (ie_var (pvv 10)) (re_var (pvv 13)))) (VE.re (v_get (room1 hr) (ie_var (pvv 1)) (re_var (pvv 13))))) (by decide))))))) (css_one (cs_ret (ve_bl))) (css_nil))))
  (css_one (cs_ret (ve_bl)))))))))))))))))))))))
end
end F15
end Vl
end
section
set_option Elab.async false
set_option linter.all false
set_option maxRecDepth 100000
/-! how the functions on data run: general lemmas (no program in sight) -/
namespace Vl
/-- a comprehension -/
theorem lcM_ok {g : FG} {t : FT} {f : FE} {ρ : En} {p : D → Bool} {F : D → D} : ∀ {xs : List D}, (∀ x ∈ xs, ∃ ρ1, g x ρ = some ρ1 ∧ t ρ1 = some (p x) ∧ (p x = true → f ρ1 = some (F x))) → lcM g t f ρ xs = some ((xs.filter p).map F)
  | [], _ => rfl
  | x :: xs, h => by
    obtain ⟨ρ1, h1, h2, h3⟩ := h x List.mem_cons_self
    have ih := lcM_ok (xs := xs) fun y hy => h y (List.mem_cons_of_mem _ hy)
    unfold lcM
    rw [h1, Option.bind_some, h2, Option.bind_some]
    cases hp : p x with
    | true =>
      rw [if_pos rfl, h3 hp, Option.bind_some, ih, Option.bind_some, List.filter_cons_of_pos hp, List.map_cons]
    | false =>
      rw [if_neg (by decide), ih, List.filter_cons_of_neg (by rw [hp]; decide)]
theorem lcM_all {g : FG} {f : FE} {ρ : En} {F : D → D} {xs : List D} (h : ∀ x ∈ xs, ∃ ρ1, g x ρ = some ρ1 ∧ f ρ1 = some (F x)) : lcM g tY f ρ xs = some (xs.map F) := by
  have := lcM_ok (g := g) (t := tY) (f := f) (ρ := ρ) (p := fun _ => true) (F := F) (xs := xs) fun x hx => by
    obtain ⟨ρ1, h1, h2⟩ := h x hx
    exact ⟨ρ1, h1, rfl, fun _ => h2⟩
  rw [this]
  have e : xs.filter (fun _ => true) = xs := List.filter_eq_self.mpr fun _ _ => rfl
  rw [e]
/-- a loop that runs through -/
theorem forM_ok {g : FG} {b : FS} {xs : List D} (I : Nat → En → Prop) (h : ∀ i x ρ, xs[i]? = some x → I i ρ → ∃ ρ1, g x ρ = some ρ1 ∧ ∃ ρ2, (b ρ1 = some (.nx ρ2) ∨ b ρ1 = some (.ct ρ2)) ∧ I (i + 1) ρ2) {ρ : En} (h0 : I 0 ρ) : ∃ ρ', forM g b xs ρ = some (.nx ρ') ∧ I xs.length ρ' := by
  have aux : ∀ (ys : List D) (i : Nat) (ρ : En), xs.drop i = ys → I i ρ → ∃ ρ', forM g b ys ρ = some (.nx ρ') ∧ I (i + ys.length) ρ' := by
    intro ys
    induction ys with
    | nil => intro i ρ _ hi; exact ⟨ρ, rfl, hi⟩
    | cons y ys ih =>
      intro i ρ e hi
      have hx : xs[i]? = some y := by
        have := congrArg (fun l => l[0]?) e
        simpa using this
      obtain ⟨ρ1, h1, ρ2, h2, h3⟩ := h i y ρ hx hi
      have e2 : xs.drop (i + 1) = ys := by
        have := congrArg (List.drop 1) e
        rw [List.drop_drop] at this
        simpa using this
      obtain ⟨ρ', h4, h5⟩ := ih (i + 1) ρ2 e2 h3
      refine ⟨ρ', ?_, by rw [List.length_cons, Nat.add_comm ys.length 1, ← Nat.add_assoc]; exact h5⟩
      unfold forM
      rw [h1, Option.bind_some]
      rcases h2 with h2 | h2
      · rw [h2, Option.bind_some]; exact h4
      · rw [h2, Option.bind_some]; exact h4
  have := aux xs 0 ρ rfl h0
  simpa using this
/-- a loop that may return -/
theorem forM_ret {g : FG} {b : FS} {xs : List D} (I : Nat → En → Prop) (R : D → Prop) (h : ∀ i x ρ, xs[i]? = some x → I i ρ → ∃ ρ1, g x ρ = some ρ1 ∧ ((∃ ρ2, (b ρ1 = some (.nx ρ2) ∨ b ρ1 = some (.ct ρ2)) ∧ I (i + 1) ρ2) ∨ ∃ d, b ρ1 = some (.rt d) ∧ R d)) {ρ : En} (h0 : I 0 ρ) :
    (∃ ρ', forM g b xs ρ = some (.nx ρ') ∧ I xs.length ρ') ∨ ∃ d, forM g b xs ρ = some (.rt d) ∧ R d := by
  have aux : ∀ (ys : List D) (i : Nat) (ρ : En), xs.drop i = ys → I i ρ → (∃ ρ', forM g b ys ρ = some (.nx ρ') ∧ I (i + ys.length) ρ') ∨ ∃ d, forM g b ys ρ = some (.rt d) ∧ R d := by
    intro ys
    induction ys with
    | nil => intro i ρ _ hi; exact .inl ⟨ρ, rfl, hi⟩
    | cons y ys ih =>
      intro i ρ e hi
      have hx : xs[i]? = some y := by
        have := congrArg (fun l => l[0]?) e
        simpa using this
      have e2 : xs.drop (i + 1) = ys := by
        have := congrArg (List.drop 1) e
        rw [List.drop_drop] at this
        simpa using this
      obtain ⟨ρ1, h1, h2⟩ := h i y ρ hx hi
      rcases h2 with ⟨ρ2, h2, h3⟩ | ⟨d, h2, h3⟩
      · have st : forM g b (y :: ys) ρ = forM g b ys ρ2 := by
          unfold forM
          rw [h1, Option.bind_some]
          rcases h2 with h2 | h2 <;> rw [h2, Option.bind_some] <;> cases ys <;> rfl
        rw [st]
        rcases ih (i + 1) ρ2 e2 h3 with ⟨ρ', h4, h5⟩ | h4
        · exact .inl ⟨ρ', h4, by rw [List.length_cons, Nat.add_comm ys.length 1, ← Nat.add_assoc]; exact h5⟩
        · exact .inr h4
      · refine .inr ⟨d, ?_, h3⟩
        unfold forM
        rw [h1, Option.bind_some, h2, Option.bind_some]
  have := aux xs 0 ρ rfl h0
  simpa using this
/-- any, all -/
theorem gxM_any {g : FG} {f : FE} {ρ : En} {p : D → Bool} : ∀ {xs : List D}, (∀ x ∈ xs, ∃ ρ1, g x ρ = some ρ1 ∧ f ρ1 = some (.bl (p x))) → gxM false g f ρ xs = some (xs.any p)
  | [], _ => rfl
  | x :: xs, h => by
    obtain ⟨ρ1, h1, h2⟩ := h x List.mem_cons_self
    have ih := gxM_any (xs := xs) fun y hy => h y (List.mem_cons_of_mem _ hy)
    unfold gxM
    rw [h1, Option.bind_some, h2, Option.bind_some, List.any_cons]
    cases hp : p x with
    | true => rfl
    | false => simp only [if_true, ih, Bool.false_or]
theorem gxM_all {g : FG} {f : FE} {ρ : En} {p : D → Bool} : ∀ {xs : List D}, (∀ x ∈ xs, ∃ ρ1, g x ρ = some ρ1 ∧ f ρ1 = some (.bl (p x))) → gxM true g f ρ xs = some (xs.all p)
  | [], _ => rfl
  | x :: xs, h => by
    obtain ⟨ρ1, h1, h2⟩ := h x List.mem_cons_self
    have ih := gxM_all (xs := xs) fun y hy => h y (List.mem_cons_of_mem _ hy)
    unfold gxM
    rw [h1, Option.bind_some, h2, Option.bind_some, List.all_cons]
    cases hp : p x with
    | false => rfl
    | true => simp only [if_true, ih, Bool.true_and]
/-- a loop with a measure -/
theorem whileM_ok {t : FT} {b : FS} (I : Nat → En → Prop) (h : ∀ m ρ, I m ρ → (∃ m' ρ2, m = m' + 1 ∧ t ρ = some true ∧ (b ρ = some (.nx ρ2) ∨ b ρ = some (.ct ρ2)) ∧ I m' ρ2) ∨ (t ρ = some false ∧ I 0 ρ)) : ∀ (n m : Nat) {ρ : En}, m < n → I m ρ → ∃ ρ', whileM t b n ρ = some (.nx ρ') ∧ t ρ' = some false ∧ I 0 ρ'
  | 0, _, _, hn, _ => absurd hn (Nat.not_lt_zero _)
  | n + 1, m, ρ, hn, hi => by
    unfold whileM
    rcases h m ρ hi with ⟨m', ρ2, e, h1, h2, h3⟩ | ⟨h1, h2⟩
    · subst e
      obtain ⟨ρ', h4, h5⟩ := whileM_ok I h n m' (Nat.lt_of_succ_lt_succ hn) h3
      refine ⟨ρ', ?_, h5⟩
      rw [h1, Option.bind_some, if_pos rfl]
      rcases h2 with h2 | h2 <;> rw [h2, Option.bind_some] <;> exact h4
    · refine ⟨ρ, ?_, h1, h2⟩
      rw [h1, Option.bind_some, if_neg (by decide)]
theorem seq_nx {a b : FS} {ρ ρ' : En} (h : a ρ = some (.nx ρ')) : sSeq a b ρ = b ρ' := by
  unfold sSeq
  rw [h, Option.bind_some]
theorem seq_rt {a b : FS} {ρ : En} {d : D} (h : a ρ = some (.rt d)) : sSeq a b ρ = some (.rt d) := by
  unfold sSeq
  rw [h, Option.bind_some]
theorem for_nx {w : FW} {g : FG} {b : FS} {ρ ρ' : En} {xs : List D} (hw : w ρ = some xs) (h : forM g b xs ρ = some (.nx ρ')) : sFor w g b ρ = some (.nx ρ') := by
  unfold sFor
  rw [hw, Option.bind_some, h]
theorem ifT {t : FT} {a b : FS} {ρ : En} (h : t ρ = some true) : sIf t a b ρ = a ρ := by
  unfold sIf
  rw [h, Option.bind_some, if_pos rfl]
theorem ifF {t : FT} {a b : FS} {ρ : En} (h : t ρ = some false) : sIf t a b ρ = b ρ := by
  unfold sIf
  rw [h, Option.bind_some, if_neg (by decide)]
theorem p64 : (2 : Int) ^ 64 = 18446744073709551616 := by rfl
theorem mul_r {i j : Int} (h1 : -18446744073709551616 < j) (h2 : j < 18446744073709551616) : D.mul (.int i) (.int j) = some (.int (i * j)) := by
  unfold D.mul
  simp only [p64]
  rw [if_pos (.inr ⟨h1, h2⟩)]
theorem mul_l {i j : Int} (h1 : -18446744073709551616 < i) (h2 : i < 18446744073709551616) : D.mul (.int i) (.int j) = some (.int (i * j)) := by
  unfold D.mul
  simp only [p64]
  rw [if_pos (.inl ⟨h1, h2⟩)]
theorem mod_r {i j : Int} (h : 0 < j) : D.mod (.int i) (.int j) = some (.int (i % j)) := by
  unfold D.mod
  exact if_pos h
/-! ### items -/
theorem ixN_nat {n k : Nat} (h : k < n) : ixN n (k : Int) = some k := by
  unfold ixN
  rw [if_pos (by omega), if_pos (by omega), Int.toNat_natCast]
theorem get_tup {ds : List D} {k : Nat} {d : D} (h : ds[k]? = some d) : D.get (.tup ds) (.int (k : Int)) = some d := by
  have hl := (List.getElem?_eq_some_iff.mp h).1
  unfold D.get D.ix
  simp only [ixN_nat hl, Option.bind_some, h]
theorem get_lst {ds : List D} {k : Nat} {d : D} (h : ds[k]? = some d) : D.get (.lst ds) (.int (k : Int)) = some d := by
  have hl := (List.getElem?_eq_some_iff.mp h).1
  unfold D.get D.ix
  simp only [ixN_nat hl, Option.bind_some, h]
theorem get_tupI {xs : List Int} {k : Nat} {x : Int} (h : xs[k]? = some x) : D.get (tupI xs) (.int (k : Int)) = some (.int x) := get_tup (by rw [List.getElem?_map, h]; rfl)
end Vl
end
section
set_option Elab.async false
set_option linter.all false
set_option maxRecDepth 100000
/-! what the defs of k15 compute -/
namespace Vl
namespace F15
theorem get_tupD {xs : List Int} {k : Nat} (h : k < xs.length) : D.get (tupI xs) (.int (k : Int)) = some (.int (xs.getD k 0)) := get_tupI (by rw [List.getD_eq_getElem?_getD, List.getElem?_eq_getElem h]; rfl)
theorem len_tupI {xs : List Int} : D.len (tupI xs) = some (.int xs.length) := by simp [tupI, D.len]
def vmove (m t g : List Int) : List Int := (List.range m.length).map fun k => m.getD k 0 - t.getD k 0 + g.getD k 0
theorem moved_eq {m t g : List Int} (h1 : t.length = m.length) (h2 : g.length = m.length) (hm : m.length < 100) : g_moved [tupI m, tupI t, tupI g] = some (tupI (vmove m t g)) := by
  unfold g_moved fnB b_moved
  simp only [List.length_cons, List.length_nil, if_true, List.map_cons, List.map_nil, List.cons_append, List.nil_append, sRet, e1, eLc, wRange, eVar, List.getElem?_cons_zero, Option.bind_some, len_tupI, wipeE]
  rw [if_pos (by omega)]
  simp only [Option.bind_some]
  rw [lcM_all (F := fun d => match d with | .int k => .int (m.getD k.toNat 0 - t.getD k.toNat 0 + g.getD k.toNat 0) | _ => .non)]
  · simp [D.toTup, tupI, vmove, Function.comp_def]
  · intro x hx
    obtain ⟨k, hk, rfl⟩ := List.mem_map.mp hx
    have hk' : k < m.length := by simpa using hk
    refine ⟨_, rfl, ?_⟩
    simp [e2, eSh, eVar, get_tupD hk', get_tupD (show k < t.length by omega), get_tupD (show k < g.length by omega), D.sub, D.add]

theorem cell_ok (ns : List Int) (k : Nat) : g__law_cell [.lst (ns.map .int), .int (k : Int)] = some (.int (ns.getD k 0)) := by
  unfold g__law_cell fnB b__law_cell
  simp only [List.length_cons, List.length_nil, if_true, List.map_cons, List.map_nil, List.cons_append, List.nil_append, sSeq, sIf, t2, tE, e2, e1, eVar, List.getElem?_cons_zero, List.getElem?_cons_succ, Option.bind_some, D.len, D.lt, List.length_map]
  by_cases h : k < ns.length
  · rw [decide_eq_true (by omega)]
    simp only [if_true, sRet, e2, eVar, List.getElem?_cons_zero, List.getElem?_cons_succ, Option.bind_some]
    rw [get_lst (d := .int (ns.getD k 0)) (by rw [List.getElem?_map, List.getD_eq_getElem?_getD, List.getElem?_eq_getElem h]; rfl)]
    rfl
  · rw [decide_eq_false (by omega)]
    simp only [Bool.false_eq_true, if_false, sNext, Option.bind_some, sRet, eC]
    rw [List.getD_eq_getElem?_getD, List.getElem?_eq_none (by omega)]
    rfl
theorem dstep1 {c i : Int} {x2 x3 x1 x5 : Option S} : (e2 D.mod (e1 D.toInt (e2 D.add (e2 D.add (e2 D.mul (eVar 0) (eC (.int 48271))) (e2 D.mul (eVar 4) (eC (.int 69621)))) (eC (.int 1)))) (eC (.int 2147483647))) [some (.sh (.int c)), x1, x2, x3, some (S.sh (.int i)), x5] = some (.int ((c * 48271 + i * 69621 + 1) % 2147483647)) := by
  have q1 : D.mul (.int c) (.int 48271) = some (.int (c * 48271)) := mul_r (by decide) (by decide)
  have q2 : D.mul (.int i) (.int 69621) = some (.int (i * 69621)) := mul_r (by decide) (by decide)
  have c1 : (0 : Int) < 2147483647 := by decide
  simp only [e2, e1, eVar, eC, List.getElem?_cons_zero, List.getElem?_cons_succ, Option.bind_some, q1, q2, D.add, D.toInt]
  exact mod_r c1
theorem draws_ok (c : Int) (n : Nat) (hn : n ≤ 64) : ∃ l : List Int, l.length = n ∧ (∀ z ∈ l, 0 ≤ z) ∧ g__law_draws [.int c, .int n] = some (.lst (l.map .int)) := by
  have loop := forM_ok (g := gN 4) (xs := (List.range n).map fun (k : Nat) => D.int (k : Int)) (b := (sSeq (sSet 5 (e2 D.mod (e1 D.toInt (e2 D.add (e2 D.add (e2 D.mul (eVar 0) (eC (.int 48271))) (e2 D.mul (eVar 4) (eC (.int 69621)))) (eC (.int 1)))) (eC (.int 2147483647))))
  (sIf (t2 D.ge (eVar 0) (e2 D.pow (eC (.int 10)) (eC (.int 18)))) (sSeq (sApp 2 (e2 D.mod (eVar 3) (eC (.int 1009))))
  (sSet 3 (e2 D.fdiv (eVar 3) (eC (.int 1009))))) (sApp 2 (e2 D.fdiv (e2 D.mod (e1 D.toInt (e2 D.add (e2 D.mul (eVar 5) (eVar 5)) (e2 D.mul (eVar 5) (eC (.int 40692))))) (eC (.int 2147483399))) (eC (.int 7)))))))
    (fun i ρ => ∃ (l : List Int) (r : Int) (a b : Option S), l.length = i ∧ (∀ z ∈ l, 0 ≤ z) ∧ i ≤ n ∧ ρ = [some (.sh (.int c)), some (.sh (.int n)), some (.ow (.lst (l.map .int))), some (.sh (.int r)), a, b]) ?_
    (ρ := [some (.sh (.int c)), some (.sh (.int n)), some (.ow (.lst [])), some (.sh (.int c)), none, none]) ⟨[], c, none, none, rfl, fun _ h => (nomatch h), Nat.zero_le _, rfl⟩
  · obtain ⟨ρ', h1, l, r, a, b, hl, hz, _, rfl⟩ := loop
    rw [List.length_map, List.length_range] at hl
    refine ⟨l, hl, hz, ?_⟩
    unfold g__law_draws fnB b__law_draws
    simp only [List.length_cons, List.length_nil, if_true, List.map_cons, List.map_nil, List.cons_append, List.nil_append, sSeq, sOwn, eLst, aNil, sSet, e1, eVar, List.replicate, Option.bind_some, Nat.zero_le, List.set_cons_succ, List.set_cons_zero, List.getElem?_cons_zero, List.getElem?_cons_succ, D.toInt, sFor, wRange]
    rw [if_pos (by omega)]
    simp only [Option.bind_some, Int.toNat_natCast]
    rw [h1]
    rfl
  · rintro i x ρ hx ⟨l, r, a, b, hl, hz, hi, rfl⟩
    rw [List.getElem?_map] at hx
    obtain ⟨k, hk, rfl⟩ := Option.map_eq_some_iff.mp hx
    obtain ⟨hi2, hk2⟩ := List.getElem?_eq_some_iff.mp hk
    rw [List.length_range] at hi2
    rw [List.getElem_range] at hk2
    subst hk2
    refine ⟨[some (.sh (.int c)), some (.sh (.int n)), some (.ow (.lst (l.map .int))), some (.sh (.int r)), some (S.sh (.int (i : Int))), b], rfl, ?_⟩
    have c1 : (0 : Int) < 2147483647 := by decide
    generalize hm : (c * 48271 + (i : Int) * 69621 + 1) % 2147483647 = m
    have m0 : 0 ≤ m := by omega
    have m1 : m < 2147483647 := by omega
    have rm : room l.length = true := decide_eq_true (by omega)
    have e18 : (10 : Int) ^ (18 : Int).toNat = 1000000000000000000 := by decide
    have step1 : ∀ (ρ : En), (ρ = [some (.sh (.int c)), some (.sh (.int n)), some (.ow (.lst (l.map .int))), some (.sh (.int r)), some (S.sh (.int (i : Int))), b]) → (e2 D.mod (e1 D.toInt (e2 D.add (e2 D.add (e2 D.mul (eVar 0) (eC (.int 48271))) (e2 D.mul (eVar 4) (eC (.int 69621)))) (eC (.int 1)))) (eC (.int 2147483647))) ρ = some (.int m) := by
      rintro ρ rfl
      rw [dstep1, hm]
    by_cases h18 : 1000000000000000000 ≤ c
    · refine ⟨[some (.sh (.int c)), some (.sh (.int n)), some (.ow (.lst ((l ++ [r % 1009]).map .int))), some (.sh (.int (r / 1009))), some (S.sh (.int (i : Int))), some (.sh (.int m))], .inl ?_, l ++ [r % 1009], r / 1009, _, _, by rw [List.length_append]; simp [hl], ?_, hi2, rfl⟩
      · unfold sSeq sSet
        rw [step1 _ rfl]
        simp only [Option.bind_some, List.set_cons_succ, List.set_cons_zero, sIf, t2, tE, e2, eVar, eC, List.getElem?_cons_zero, List.getElem?_cons_succ, D.pow]
        rw [if_pos ⟨by omega, by omega, by decide⟩]
        simp only [Option.bind_some, D.ge, e18]
        rw [decide_eq_true h18]
        simp only [if_true, sApp, e2, eVar, eC, List.getElem?_cons_zero, List.getElem?_cons_succ, Option.bind_some, D.mod, D.fdiv, List.length_map, rm, List.set_cons_succ, List.set_cons_zero]
        rw [if_pos (by omega)]
        simp only [Option.bind_some, if_true, List.getElem?_cons_zero, List.getElem?_cons_succ]
        rw [if_pos (by omega)]
        simp
      · intro z hz'
        rcases List.mem_append.mp hz' with z1 | z1
        · exact hz z z1
        · rw [List.mem_singleton.mp z1]; omega
    · generalize hq : (m * m + m * 40692) % 2147483399 / 7 = q
      refine ⟨[some (.sh (.int c)), some (.sh (.int n)), some (.ow (.lst ((l ++ [q]).map .int))), some (.sh (.int r)), some (S.sh (.int (i : Int))), some (.sh (.int m))], .inl ?_, l ++ [q], r, _, _, by rw [List.length_append]; simp [hl], ?_, hi2, rfl⟩
      · unfold sSeq sSet
        rw [step1 _ rfl]
        simp only [Option.bind_some, List.set_cons_succ, List.set_cons_zero, sIf, t2, tE, e2, eVar, eC, List.getElem?_cons_zero, List.getElem?_cons_succ, D.pow]
        rw [if_pos ⟨by omega, by omega, by decide⟩]
        simp only [Option.bind_some, D.ge, e18]
        rw [decide_eq_false (by omega)]
        have q1 : D.mul (.int m) (.int m) = some (.int (m * m)) := mul_l (by omega) (by omega)
        have q2 : D.mul (.int m) (.int 40692) = some (.int (m * 40692)) := mul_r (by decide) (by decide)
        simp only [Bool.false_eq_true, if_false, sApp, e2, e1, eVar, eC, List.getElem?_cons_zero, List.getElem?_cons_succ, Option.bind_some, q1, q2, D.add, D.toInt, D.mod]
        rw [if_pos (by omega)]
        simp only [Option.bind_some, D.fdiv]
        rw [if_pos (by omega)]
        simp [hq, rm]
      · intro z hz'
        rcases List.mem_append.mp hz' with z1 | z1
        · exact hz z z1
        · rw [List.mem_singleton.mp z1]; omega
end F15
end Vl
end
section
set_option Elab.async false
set_option linter.all false
set_option maxRecDepth 100000
/-! what the defs of k15 compute: vectors -/
namespace Vl
namespace F15
theorem get_tupD' {xs : List Int} {k : Nat} (h : k < xs.length) : D.get (tupI xs) (.int (k : Int)) = some (.int (xs.getD k 0)) := get_tupI (by rw [List.getD_eq_getElem?_getD, List.getElem?_eq_getElem h]; rfl)
theorem len_tupI' {xs : List Int} : D.len (tupI xs) = some (.int xs.length) := by simp [tupI, D.len]
def venough (m t : List Int) : Bool := (List.range m.length).all fun k => decide (t.getD k 0 ≤ m.getD k 0)
theorem is_enough_eq {m t : List Int} (h1 : t.length = m.length) (hm : m.length < 100) : g_is_enough [tupI m, tupI t] = some (.bl (venough m t)) := by
  unfold g_is_enough fnB b_is_enough
  simp only [List.length_cons, List.length_nil, if_true, List.map_cons, List.map_nil, List.cons_append, List.nil_append, sRet, e1, eGx, wRange, eVar, List.getElem?_cons_zero, Option.bind_some, len_tupI', wipeE]
  rw [if_pos (by omega)]
  simp only [Option.bind_some]
  rw [gxM_all (p := fun d => match d with | .int k => decide (t.getD k.toNat 0 ≤ m.getD k.toNat 0) | _ => false)]
  · simp [venough, List.all_map, Function.comp_def]
  · intro x hx
    obtain ⟨k, hk, rfl⟩ := List.mem_map.mp hx
    have hk' : k < m.length := by simpa using hk
    refine ⟨_, rfl, ?_⟩
    simp [e2, eSh, eVar, get_tupD' hk', get_tupD' (show k < t.length by omega), D.ge]
theorem law_enough_eq {m t : List Int} (h1 : t.length = m.length) (hm : m.length < 100) : g__law_enough [tupI m, tupI t] = some (.bl (venough m t)) := by
  unfold g__law_enough fnB b__law_enough
  simp only [List.length_cons, List.length_nil, if_true, List.map_cons, List.map_nil, List.cons_append, List.nil_append, sRet, e1, e2, eLc, wRange, eVar, List.getElem?_cons_zero, Option.bind_some, len_tupI', wipeE]
  rw [if_pos (by omega)]
  simp only [Option.bind_some]
  rw [lcM_ok (p := fun d => match d with | .int k => decide (m.getD k.toNat 0 < t.getD k.toNat 0) | _ => false) (F := fun d => d)]
  · simp only [Option.bind_some, D.len, eC, D.eq, D.isScal, if_true, D.eqv, Option.some.injEq, D.bl.injEq]
    rw [Bool.eq_iff_iff]
    simp [venough, List.filter_eq_nil_iff]
  · intro x hx
    obtain ⟨k, hk, rfl⟩ := List.mem_map.mp hx
    have hk' : k < m.length := by simpa using hk
    refine ⟨_, rfl, ?_, fun _ => ?_⟩
    · simp [t2, tE, e2, eSh, eVar, get_tupD' hk', get_tupD' (show k < t.length by omega), D.lt]
    · simp [eSh]
end F15
end Vl
end
section
set_option Elab.async false
set_option linter.all false
set_option maxRecDepth 100000
/-! what the defs of k15 compute: rows of sides -/
namespace Vl
namespace F15
abbrev Nm := List Nat
def okN (a : Nm) : Bool := a.all fun c => decide (c < 128)
def eP (ps : List Nm) : D := .tup (ps.map .str)
def eS (side : List (Nm × Int)) : D := .tup (side.map fun p => .tup [.str p.1, .int p.2])
def idx (ps : List Nm) (a : Nm) : Nat := (ps.findIdx? (· == a)).getD 0
def vrow (ps : List Nm) (side : List (Nm × Int)) : List Int := side.foldl (fun r p => r.set (idx ps p.1) p.2) (List.replicate ps.length 0)
theorem okd_str {n : Nat} {a : Nm} (h : okN a = true) : D.okd n (.str a) = true := by
  unfold okN at h
  simp only [D.okd, List.all_eq_true, decide_eq_true_eq] at h ⊢
  intro c hc
  have := h c hc
  omega
theorem okdL_strs {n : Nat} : ∀ {ps : List Nm}, (∀ a ∈ ps, okN a = true) → D.okdL n (ps.map .str) = true
  | [], _ => by simp [D.okdL]
  | a :: ps, h => by
    simp only [List.map_cons, D.okdL, Bool.and_eq_true]
    exact ⟨okd_str (h a List.mem_cons_self), okdL_strs fun b hb => h b (List.mem_cons_of_mem _ hb)⟩
theorem index_eq {ps : List Nm} {a : Nm} (hp : ∀ b ∈ ps, okN b = true) (ha : a ∈ ps) : D.index (eP ps) (.str a) = some (.int (idx ps a)) ∧ idx ps a < ps.length := by
  have e : (ps.map D.str).findIdx? (fun z => D.eqv z (.str a)) = ps.findIdx? (· == a) := by
    rw [List.findIdx?_map]
    congr 1
  have hs : ∃ k, ps.findIdx? (· == a) = some k := by
    cases h : ps.findIdx? (· == a) with
    | some k => exact ⟨k, rfl⟩
    | none =>
      rw [List.findIdx?_eq_none_iff] at h
      have := h a ha
      simp at this
  obtain ⟨k, hk⟩ := hs
  have hl : k < ps.length := by
    have := (List.findIdx?_eq_some_iff_getElem.mp hk)
    exact this.1
  constructor
  · unfold D.index eP D.indexT
    simp only
    rw [if_pos (by rw [Bool.and_eq_true]; exact ⟨okd_str (hp a ha), by simp only [D.okd]; exact okdL_strs hp⟩), e, hk]
    simp [idx, hk]
  · simp [idx, hk, hl]
theorem len_set_fold (ps : List Nm) : ∀ (side : List (Nm × Int)) (r : List Int), (side.foldl (fun r p => r.set (idx ps p.1) p.2) r).length = r.length
  | [], _ => rfl
  | p :: side, r => by rw [List.foldl_cons, len_set_fold ps side]; simp
theorem vrow_length (ps : List Nm) (side : List (Nm × Int)) : (vrow ps side).length = ps.length := by
  unfold vrow
  rw [len_set_fold]; simp
theorem law_row_eq {ps : List Nm} {side : List (Nm × Int)} (hp : ∀ b ∈ ps, okN b = true) (hs : ∀ p ∈ side, p.1 ∈ ps) : g__law_row [eP ps, eS side] = some (tupI (vrow ps side)) := by
  have loop := forM_ok (g := gT [gN 3, gN 4]) (xs := side.map fun p => D.tup [.str p.1, .int p.2]) (b := sPut 2 (e2 D.index (eVar 0) (eVar 3)) (eSh 4))
    (fun i ρ => ∃ (a b : Option S), i ≤ side.length ∧ ρ = [some (.sh (eP ps)), some (.sh (eS side)), some (.ow (.lst (((side.take i).foldl (fun r p => r.set (idx ps p.1) p.2) (List.replicate ps.length 0)).map .int))), a, b]) ?_
    (ρ := [some (.sh (eP ps)), some (.sh (eS side)), some (.ow (.lst ((List.replicate ps.length (0 : Int)).map .int))), none, none]) ⟨none, none, Nat.zero_le _, rfl⟩
  · obtain ⟨ρ', h1, a, b, _, rfl⟩ := loop
    rw [List.length_map, List.take_length] at h1
    unfold g__law_row fnB b__law_row
    simp only [List.length_cons, List.length_nil, if_true, List.map_cons, List.map_nil, List.cons_append, List.nil_append, sSeq, sOwn, List.replicate, Option.bind_some]
    have hlc : eLc (wSeq (eSh 0)) (gN 3) tY (eC (.int 0)) [3] [some (S.sh (eP ps)), some (S.sh (eS side)), none, none, none] = some (.lst ((List.replicate ps.length (0 : Int)).map .int)) := by
      simp only [eLc, wSeq, eSh, eP, List.getElem?_cons_zero, Option.bind_some]
      rw [lcM_all (g := gN 3) (f := eC (.int 0)) (F := fun _ => .int 0) fun x _ => ⟨_, rfl, rfl⟩]
      simp
      rw [List.eq_replicate_iff]
      simp
    rw [hlc]
    simp only [Option.bind_some, List.set_cons_succ, List.set_cons_zero, sFor, wSeq, eSh, eS, List.getElem?_cons_zero, List.getElem?_cons_succ]
    simp only [eS] at h1
    rw [h1]
    simp [sRet, e1, eVar, D.toTup, vrow, tupI]
  · rintro i x ρ hx ⟨a, b, hi, rfl⟩
    rw [List.getElem?_map] at hx
    obtain ⟨p, hpi, rfl⟩ := Option.map_eq_some_iff.mp hx
    have hlt := (List.getElem?_eq_some_iff.mp hpi).1
    have hmem := List.mem_of_getElem? hpi
    obtain ⟨e1', e2'⟩ := index_eq hp (hs p hmem)
    refine ⟨[some (.sh (eP ps)), some (.sh (eS side)), some (.ow (.lst (((side.take i).foldl (fun r p => r.set (idx ps p.1) p.2) (List.replicate ps.length 0)).map .int))), some (.sh (.str p.1)), some (.sh (.int p.2))], rfl, _, .inl ?_, some (.sh (.str p.1)), some (.sh (.int p.2)), hlt, rfl⟩
    have htk : side.take (i + 1) = side.take i ++ [p] := by
      rw [List.take_add_one, hpi]; rfl
    simp only [sPut, eSh, eVar, e2, List.getElem?_cons_zero, List.getElem?_cons_succ, Option.bind_some, e1']
    rw [ixN_nat (by rw [List.length_map, len_set_fold, List.length_replicate]; exact e2')]
    simp [htk, List.foldl_append, List.map_set]
theorem row_of_eq {ps : List Nm} {mv : D} {side : List (Nm × Int)} (hp : ∀ b ∈ ps, okN b = true) (hs : ∀ p ∈ side, p.1 ∈ ps) : g_row_of [.ins 0 [eP ps, mv], eS side] = some (tupI (vrow ps side)) := by
  have loop := forM_ok (g := gT [gN 3, gN 4]) (xs := side.map fun p => D.tup [.str p.1, .int p.2]) (b := sPut 2 (e2 D.index (e1 (D.fld 0 0) (eSh 0)) (eVar 3)) (eSh 4))
    (fun i ρ => ∃ (a b : Option S), i ≤ side.length ∧ ρ = [some (.sh (.ins 0 [eP ps, mv])), some (.sh (eS side)), some (.ow (.lst (((side.take i).foldl (fun r p => r.set (idx ps p.1) p.2) (List.replicate ps.length 0)).map .int))), a, b]) ?_
    (ρ := [some (.sh (.ins 0 [eP ps, mv])), some (.sh (eS side)), some (.ow (.lst ((List.replicate ps.length (0 : Int)).map .int))), none, none]) ⟨none, none, Nat.zero_le _, rfl⟩
  · obtain ⟨ρ', h1, a, b, _, rfl⟩ := loop
    rw [List.length_map, List.take_length] at h1
    unfold g_row_of fnB b_row_of
    simp only [List.length_cons, List.length_nil, if_true, List.map_cons, List.map_nil, List.cons_append, List.nil_append, sSeq, sOwn, List.replicate, Option.bind_some]
    have hlc : eLc (wSeq (e1 (D.fld 0 0) (eSh 0))) (gN 3) tY (eC (.int 0)) [3] [some (S.sh (.ins 0 [eP ps, mv])), some (S.sh (eS side)), none, none, none] = some (.lst ((List.replicate ps.length (0 : Int)).map .int)) := by
      simp only [eLc, wSeq, e1, eSh, D.fld, eP, if_true, List.getElem?_cons_zero, Option.bind_some]
      rw [lcM_all (g := gN 3) (f := eC (.int 0)) (F := fun _ => .int 0) fun x _ => ⟨_, rfl, rfl⟩]
      simp
      rw [List.eq_replicate_iff]
      simp
    rw [hlc]
    simp only [Option.bind_some, List.set_cons_succ, List.set_cons_zero, sFor, wSeq, eSh, eS, List.getElem?_cons_zero, List.getElem?_cons_succ]
    simp only [eS] at h1
    rw [h1]
    simp [sRet, e1, eVar, D.toTup, vrow, tupI]
  · rintro i x ρ hx ⟨a, b, hi, rfl⟩
    rw [List.getElem?_map] at hx
    obtain ⟨p, hpi, rfl⟩ := Option.map_eq_some_iff.mp hx
    have hlt := (List.getElem?_eq_some_iff.mp hpi).1
    have hmem := List.mem_of_getElem? hpi
    obtain ⟨e1', e2'⟩ := index_eq hp (hs p hmem)
    refine ⟨[some (.sh (.ins 0 [eP ps, mv])), some (.sh (eS side)), some (.ow (.lst (((side.take i).foldl (fun r p => r.set (idx ps p.1) p.2) (List.replicate ps.length 0)).map .int))), some (.sh (.str p.1)), some (.sh (.int p.2))], rfl, _, .inl ?_, some (.sh (.str p.1)), some (.sh (.int p.2)), hlt, rfl⟩
    have htk : side.take (i + 1) = side.take i ++ [p] := by
      rw [List.take_add_one, hpi]; rfl
    simp only [sPut, eSh, eVar, e2, e1, D.fld, if_true, List.getElem?_cons_zero, List.getElem?_cons_succ, Option.bind_some, e1']
    rw [ixN_nat (by rw [List.length_map, len_set_fold, List.length_replicate]; exact e2')]
    simp [htk, List.foldl_append, List.map_set]

/-- moves: a name, what it takes, what it gives -/
abbrev Mv := Nm × List (Nm × Int) × List (Nm × Int)
def eMv (m : Mv) : D := .tup [.str m.1, eS m.2.1, eS m.2.2]
def eN (ps : List Nm) (ms : List Mv) : D := .ins 0 [eP ps, .tup (ms.map eMv)]
abbrev Rw := Nm × List Int × List Int
def eRw (r : Rw) : D := .tup [.str r.1, tupI r.2.1, tupI r.2.2]
def vrows (ps : List Nm) (ms : List Mv) : List Rw := ms.map fun m => (m.1, vrow ps m.2.1, vrow ps m.2.2)
def okMs (ps : List Nm) (ms : List Mv) : Prop := ∀ m ∈ ms, (∀ p ∈ m.2.1, p.1 ∈ ps) ∧ ∀ p ∈ m.2.2, p.1 ∈ ps
theorem rows_of_eq {ps : List Nm} {ms : List Mv} (hp : ∀ b ∈ ps, okN b = true) (hm : okMs ps ms) : g_rows_of [eN ps ms] = some (.lst ((vrows ps ms).map eRw)) := by
  unfold g_rows_of fnB b_rows_of
  simp only [List.length_cons, List.length_nil, if_true, List.map_cons, List.map_nil, List.cons_append, List.nil_append, sRet, eLc, wSeq, e1, eSh, eN, D.fld, List.getElem?_cons_zero, List.getElem?_cons_succ, Option.bind_some, List.replicate]
  rw [lcM_all (F := fun d => match d with | .tup [.str a, .tup x, .tup y] => (match g_row_of [.ins 0 [eP ps, .tup (ms.map eMv)], .tup x], g_row_of [.ins 0 [eP ps, .tup (ms.map eMv)], .tup y] with | some u, some v => .tup [.str a, u, v] | _, _ => .non) | _ => .non)]
  · simp only [Option.bind_some, vrows, List.map_map]
    congr 2
    apply List.map_congr_left
    intro m hmm
    obtain ⟨h1, h2⟩ := hm m hmm
    have q1 := row_of_eq (mv := .tup (ms.map eMv)) hp h1
    have q2 := row_of_eq (mv := .tup (ms.map eMv)) hp h2
    simp only [eS] at q1 q2
    simp only [Function.comp_def, eMv, eS, q1, q2, eRw]
  · intro x hx
    obtain ⟨m, hmm, rfl⟩ := List.mem_map.mp hx
    obtain ⟨h1, h2⟩ := hm m hmm
    have q1 := row_of_eq (mv := .tup (ms.map eMv)) hp h1
    have q2 := row_of_eq (mv := .tup (ms.map eMv)) hp h2
    refine ⟨_, rfl, ?_⟩
    simp only [eTup, aCons, aNil, eSh, eCall, wipeE, List.set_cons_succ, List.set_cons_zero, List.getElem?_cons_zero, List.getElem?_cons_succ, Option.bind_some, q1, q2]
    simp only [eS] at q1 q2
    simp [eMv, eS, q1, q2]
end F15
end Vl
end
section
set_option Elab.async false
set_option linter.all false
set_option maxRecDepth 100000
/-! what the defs of k15 compute: the law's rows -/
namespace Vl
namespace F15
def eMs (ms : List Mv) : D := .tup (ms.map eMv)
theorem law_rows_eq {ps : List Nm} {ms : List Mv} (hp : ∀ b ∈ ps, okN b = true) (hm : okMs ps ms) : g__law_rows [eP ps, eMs ms] = some (.lst ((vrows ps ms).map eRw)) := by
  unfold g__law_rows fnB b__law_rows
  simp only [List.length_cons, List.length_nil, if_true, List.map_cons, List.map_nil, List.cons_append, List.nil_append, sRet, eLc, wSeq, eSh, eMs, List.getElem?_cons_zero, List.getElem?_cons_succ, Option.bind_some, List.replicate]
  rw [lcM_all (F := fun d => match d with | .tup [.str a, .tup x, .tup y] => (match g__law_row [eP ps, .tup x], g__law_row [eP ps, .tup y] with | some u, some v => .tup [.str a, u, v] | _, _ => .non) | _ => .non)]
  · simp only [Option.bind_some, vrows, List.map_map]
    congr 2
    apply List.map_congr_left
    intro m hmm
    obtain ⟨h1, h2⟩ := hm m hmm
    have q1 := law_row_eq hp h1
    have q2 := law_row_eq hp h2
    simp only [eS] at q1 q2
    simp only [Function.comp_def, eMv, eS, q1, q2, eRw]
  · intro x hx
    obtain ⟨m, hmm, rfl⟩ := List.mem_map.mp hx
    obtain ⟨h1, h2⟩ := hm m hmm
    have q1 := law_row_eq hp h1
    have q2 := law_row_eq hp h2
    refine ⟨_, rfl, ?_⟩
    simp only [eTup, aCons, aNil, eSh, eCall, wipeE, List.set_cons_succ, List.set_cons_zero, List.getElem?_cons_zero, List.getElem?_cons_succ, Option.bind_some, q1, q2]
    simp only [eS] at q1 q2
    simp [eMv, eS, q1, q2]
theorem law_behind_eq {m t g : List Int} (h1 : t.length = m.length) (h2 : g.length = m.length) (hm : m.length < 100) : g__law_behind [tupI m, tupI t, tupI g] = g_moved [tupI m, tupI t, tupI g] := by
  unfold g__law_behind g_moved b__law_behind b_moved
  rfl
theorem names_ok : ∀ c ∈ ([112, 113, 114, 115, 97, 98, 99, 100] : List Nat), g_is_name [.str [c]] = some (.bl true) := by
  intro c hc
  simp only [List.mem_cons, List.not_mem_nil, or_false] at hc
  rcases hc with rfl | rfl | rfl | rfl | rfl | rfl | rfl | rfl <;> rfl
end F15
end Vl
end
section
set_option Elab.async false
set_option linter.all false
set_option maxRecDepth 100000
/-! what the defs of k15 compute: a net is made -/
namespace Vl
namespace F15
def goodN (a : Nm) : Prop := okN a = true ∧ g_is_name [.str a] = some (.bl true)
/-- a side that a net takes: places of it in order, weights 1 to 9 -/
def okSide (ps : List Nm) (side : List (Nm × Int)) : Prop := (∀ p ∈ side, p.1 ∈ ps ∧ 1 ≤ p.2 ∧ p.2 ≤ 9) ∧ (side.map fun p => idx ps p.1).Pairwise (· < ·)
theorem is_number_eq {i j : Int} (h : j ≤ i) : g_is_number [.int i, .int j] = some (.bl true) := by
  simp [g_is_number, fnB, b_is_number, sRet, eAnd, e1, e2, eVar, isT, D.isntB, D.ge, h]
theorem has_str {neg : Bool} {ps : List Nm} {a : Nm} : D.has neg (.str a) (eP ps) = some (.bl (if neg then !decide (a ∈ ps) else decide (a ∈ ps))) := by
  have e : ((ps.map D.str).any fun z => D.eqv z (.str a)) = decide (a ∈ ps) := by
    rw [Bool.eq_iff_iff]
    simp [D.eqv]
  unfold D.has eP D.isIn
  simp only
  rw [if_pos (by simp [D.flat]), e]
theorem is_side_eq {ps : List Nm} {side : List (Nm × Int)} (hp : ∀ b ∈ ps, goodN b) (hs : okSide ps side) : g_is_side [eP ps, eS side] = some (.bl true) := by
  have hok : ∀ b ∈ ps, okN b = true := fun b hb => (hp b hb).1
  unfold g_is_side fnB b_is_side
  simp only [List.length_cons, List.length_nil, if_true, List.map_cons, List.map_nil, List.cons_append, List.nil_append, List.replicate]
  have step0 : ∀ ρ : En, ρ = [some (S.sh (eP ps)), some (S.sh (eS side)), none, none, none] → (sIf (tNot (tE (e1 (isT "tuple") (eVar 1)))) (sRet (eC (.bl false))) sNext) ρ = some (.nx ρ) := by
    rintro ρ rfl
    simp [sIf, tNot, tE, e1, eVar, eS, isT, sNext]
  have step1 : ∀ ρ : En, ρ = [some (S.sh (eP ps)), some (S.sh (eS side)), none, none, none] → (sSet 2 (e1 D.neg (eC (.int 1)))) ρ = some (.nx [some (S.sh (eP ps)), some (S.sh (eS side)), some (.sh (.int (-1))), none, none]) := by
    rintro ρ rfl
    simp [sSet, e1, eC, D.neg]
  have loop := forM_ok (g := gN 3) (xs := side.map fun p => D.tup [.str p.1, .int p.2]) (b := (sSeq (sIf (tOr (tNot (tE (e1 (isT "tuple") (eVar 3)))) (tOr (t2 D.ne (e1 D.len (eVar 3)) (eC (.int 2))) (tOr (tNot (tE (eCall g_is_name (aCons (e2 D.get (eVar 3) (eC (.int 0))) (aNil))))) (t2 (D.has true) (e2 D.get (eVar 3) (eC (.int 0))) (eVar 0))))) (sRet (eC (.bl false))) (sNext))
  (sSeq (sSet 4 (e2 D.index (eVar 0) (e2 D.get (eVar 3) (eC (.int 0)))))
  (sSeq (sIf (tOr (t2 D.le (eVar 4) (eVar 2)) (tOr (tNot (tE (eCall g_is_number (aCons (e2 D.get (eVar 3) (eC (.int 1))) (aCons (eC (.int 1)) (aNil)))))) (t2 D.gt (e2 D.get (eVar 3) (eC (.int 1))) (eC (.int 9))))) (sRet (eC (.bl false))) (sNext))
  (sSet 2 (eSh 4))))))
    (fun i ρ => ∃ (l : Int) (a b : Option S), i ≤ side.length ∧ (∀ k p, i ≤ k → side[k]? = some p → l < idx ps p.1) ∧ ρ = [some (.sh (eP ps)), some (.sh (eS side)), some (.sh (.int l)), a, b]) ?_
    (ρ := [some (S.sh (eP ps)), some (S.sh (eS side)), some (.sh (.int (-1))), none, none]) ⟨-1, none, none, Nat.zero_le _, fun k p _ _ => by omega, rfl⟩
  · obtain ⟨ρ', h1, _⟩ := loop
    rw [seq_nx (step0 _ rfl), seq_nx (step1 _ rfl), seq_nx (for_nx (by simp only [wSeq, eSh, eS, List.getElem?_cons_zero, List.getElem?_cons_succ, Option.bind_some]) h1)]
    rfl
  · rintro i x ρ hx ⟨l, a, b, hi, hl, rfl⟩
    rw [List.getElem?_map] at hx
    obtain ⟨p, hpi, rfl⟩ := Option.map_eq_some_iff.mp hx
    have hlt := (List.getElem?_eq_some_iff.mp hpi).1
    have hmem := List.mem_of_getElem? hpi
    obtain ⟨m1, m2, m3⟩ := hs.1 p hmem
    obtain ⟨x1, x2⟩ := index_eq hok m1
    have nm := (hp p.1 m1).2
    have g0 : D.get (.tup [.str p.1, .int p.2]) (.int 0) = some (.str p.1) := by simp [D.get, D.ix, ixN]
    have g1 : D.get (.tup [.str p.1, .int p.2]) (.int 1) = some (.int p.2) := by simp [D.get, D.ix, ixN]
    have hlp := hl i p (Nat.le_refl _) hpi
    refine ⟨[some (.sh (eP ps)), some (.sh (eS side)), some (.sh (.int l)), some (.sh (.tup [.str p.1, .int p.2])), b], rfl, [some (.sh (eP ps)), some (.sh (eS side)), some (.sh (.int (idx ps p.1))), some (.sh (.tup [.str p.1, .int p.2])), some (.sh (.int (idx ps p.1)))], .inl ?_, idx ps p.1, _, _, hlt, fun k q hk hq => ?_, rfl⟩
    · have d1 : D.ne (.int 2) (.int 2) = some (.bl false) := by simp [D.ne, D.isScal, D.eqv]
      simp [sSeq, sIf, tOr, tNot, tE, t2, e1, e2, eVar, eSh, eC, isT, D.len, d1, eCall, aCons, aNil, g0, g1, nm, has_str, m1, sNext, sSet, x1, D.le, D.gt, is_number_eq m2, show ¬ ((idx ps p.1 : Int) ≤ l) by omega, show ¬ (9 < p.2) by omega]
    · have pw := hs.2
      rw [List.pairwise_iff_getElem] at pw
      obtain ⟨hk2, hq2⟩ := List.getElem?_eq_some_iff.mp hq
      obtain ⟨_, hp2⟩ := List.getElem?_eq_some_iff.mp hpi
      have := pw i k (by simpa using hlt) (by simpa using hk2) (by omega)
      simp only [List.getElem_map, hq2, hp2] at this
      omega
end F15
end Vl
end
section
set_option Elab.async false
set_option linter.all false
set_option maxRecDepth 100000
/-! what the defs of k15 compute: a net is made, turned back -/
namespace Vl
namespace F15
def okMv (ps : List Nm) (m : Mv) : Prop := goodN m.1 ∧ okSide ps m.2.1 ∧ okSide ps m.2.2
theorem get3 {x y z : D} : D.get (.tup [x, y, z]) (.int 0) = some x ∧ D.get (.tup [x, y, z]) (.int 1) = some y ∧ D.get (.tup [x, y, z]) (.int 2) = some z := by
  refine ⟨?_, ?_, ?_⟩ <;> simp [D.get, D.ix, ixN]
theorem is_move_eq {ps : List Nm} {m : Mv} (hp : ∀ b ∈ ps, goodN b) (hm : okMv ps m) : g_is_move [eP ps, eMv m] = some (.bl true) := by
  obtain ⟨h1, h2, h3⟩ := hm
  have s1 := is_side_eq hp h2
  have s2 := is_side_eq hp h3
  obtain ⟨g0, g1, g2⟩ := get3 (x := .str m.1) (y := eS m.2.1) (z := eS m.2.2)
  have d1 : D.ne (.int 3) (.int 3) = some (.bl false) := by simp [D.ne, D.isScal, D.eqv]
  unfold g_is_move fnB b_is_move
  simp [eMv, sSeq, sIf, tOr, tNot, tE, t2, e1, e2, eVar, eSh, eC, isT, D.len, d1, eCall, aCons, aNil, g0, g1, g2, h1.2, sNext, sRet, eAnd, s1, s2]
/-- the names of a net: all are apart -/
def okNet (ps : List Nm) (ms : List Mv) : Prop := (∀ b ∈ ps, goodN b) ∧ (∀ m ∈ ms, okMv ps m) ∧ (ps ++ ms.map (·.1)).Nodup ∧ 1 ≤ ps.length ∧ ps.length ≤ 8 ∧ ms.length ≤ 9
theorem has_lst {neg : Bool} {ps : List Nm} {a : Nm} (hp : ∀ b ∈ ps, okN b = true) (ha : okN a = true) : D.has neg (.str a) (.lst (ps.map .str)) = some (.bl (if neg then !decide (a ∈ ps) else decide (a ∈ ps))) := by
  have e : ((ps.map D.str).any fun z => D.eqv z (.str a)) = decide (a ∈ ps) := by
    rw [Bool.eq_iff_iff]
    simp [D.eqv]
  unfold D.has D.isIn
  simp only
  rw [if_pos (by rw [Bool.and_eq_true]; exact ⟨okd_str ha, by simp only [D.okd]; exact okdL_strs hp⟩), e]
theorem net_init_eq {ps : List Nm} {ms : List Mv} (h : okNet ps ms) : g_Net_init [eP ps, eMs ms] = some [eP ps, eMs ms] := by
  obtain ⟨hp, hm, nd, l1, l2, l3⟩ := h
  have hok : ∀ b ∈ ps, okN b = true := fun b hb => (hp b hb).1
  have hmk : ∀ m ∈ ms, okN m.1 = true := fun m hmm => (hm m hmm).1.1
  rw [List.nodup_append] at nd
  obtain ⟨nd1, nd2, nd3⟩ := nd
  have A1 : ∀ ρ : En, ρ = [some (S.ow (.ins 0 [])), some (S.sh (eP ps)), some (S.sh (eMs ms)), none, none, none] → (sIf (tOr (tNot (tE (e1 (isT "tuple") (eVar 1)))) (tOr (t2 D.lt (e1 D.len (eVar 1)) (eC (.int 1))) (t2 D.gt (e1 D.len (eVar 1)) (eC (.int 8))))) (sNever) (sNext)) ρ = some (.nx ρ) := by
    rintro ρ rfl
    simp [sIf, tOr, tNot, tE, t2, e1, e2, eVar, eC, eP, isT, D.len, D.lt, D.gt, sNext, show ¬ ((ps.length : Int) < 1) by omega, show ¬ (8 < (ps.length : Int)) by omega]
  have A2 : ∀ ρ : En, ρ = [some (S.ow (.ins 0 [])), some (S.sh (eP ps)), some (S.sh (eMs ms)), none, none, none] → (sOwn 3 (eLst aNil)) ρ = some (.nx [some (S.ow (.ins 0 [])), some (S.sh (eP ps)), some (S.sh (eMs ms)), some (.ow (.lst [])), none, none]) := by
    rintro ρ rfl
    simp [sOwn, eLst, aNil]
  have L1 := forM_ok (g := gN 4) (xs := ps.map .str) (b := (sSeq (sIf (tOr (tNot (tE (eCall g_is_name (aCons (eSh 4) (aNil))))) (t2 (D.has false) (eVar 4) (eVar 3))) (sNever) (sNext))
  (sApp 3 (eSh 4))))
    (fun i ρ => ∃ a, i ≤ ps.length ∧ ρ = [some (S.ow (.ins 0 [])), some (S.sh (eP ps)), some (S.sh (eMs ms)), some (.ow (.lst ((ps.take i).map .str))), a, none]) ?_
    (ρ := [some (S.ow (.ins 0 [])), some (S.sh (eP ps)), some (S.sh (eMs ms)), some (.ow (.lst [])), none, none]) ⟨none, Nat.zero_le _, rfl⟩
  · obtain ⟨ρ1, q1, a1, _, rfl⟩ := L1
    rw [List.length_map, List.take_length] at q1
    have A3 : (sIf (tOr (tNot (tE (e1 (isT "tuple") (eVar 2)))) (t2 D.gt (e1 D.len (eVar 2)) (eC (.int 9)))) (sNever) (sNext)) [some (S.ow (.ins 0 [])), some (S.sh (eP ps)), some (S.sh (eMs ms)), some (.ow (.lst (ps.map .str))), a1, none] = some (.nx [some (S.ow (.ins 0 [])), some (S.sh (eP ps)), some (S.sh (eMs ms)), some (.ow (.lst (ps.map .str))), a1, none]) := by
      simp [sIf, tOr, tNot, tE, t2, e1, e2, eVar, eC, eMs, isT, D.len, D.gt, sNext, show ¬ (9 < (ms.length : Int)) by omega]
    have L2 := forM_ok (g := gN 5) (xs := ms.map eMv) (b := (sSeq (sIf (tOr (tNot (tE (eCall g_is_move (aCons (eSh 1) (aCons (eSh 5) (aNil)))))) (t2 (D.has false) (e2 D.get (eVar 5) (eC (.int 0))) (eVar 3))) (sNever) (sNext))
  (sApp 3 (e2 D.get (eVar 5) (eC (.int 0))))))
      (fun i ρ => ∃ a b, i ≤ ms.length ∧ ρ = [some (S.ow (.ins 0 [])), some (S.sh (eP ps)), some (S.sh (eMs ms)), some (.ow (.lst ((ps ++ (ms.take i).map (·.1)).map .str))), a, b]) ?_
      (ρ := [some (S.ow (.ins 0 [])), some (S.sh (eP ps)), some (S.sh (eMs ms)), some (.ow (.lst (ps.map .str))), a1, none]) ⟨a1, none, Nat.zero_le _, by simp⟩
    · obtain ⟨ρ2, q2, a2, b2, _, rfl⟩ := L2
      unfold g_Net_init fnI b_Net_init
      simp only [List.length_cons, List.length_nil, if_true, List.map_cons, List.map_nil, List.cons_append, List.nil_append, List.replicate]
      rw [seq_nx (A1 _ rfl), seq_nx (A2 _ rfl), seq_nx (for_nx (by simp only [wSeq, eSh, eP, List.getElem?_cons_zero, List.getElem?_cons_succ, Option.bind_some]) q1), seq_nx A3, seq_nx (for_nx (by simp only [wSeq, eSh, eMs, List.getElem?_cons_zero, List.getElem?_cons_succ, Option.bind_some]) q2)]
      simp [sSeq, sFld, eSh]
    · rintro i x ρ hx ⟨a, b, hi, rfl⟩
      rw [List.getElem?_map] at hx
      obtain ⟨m, hmi, rfl⟩ := Option.map_eq_some_iff.mp hx
      have hlt := (List.getElem?_eq_some_iff.mp hmi).1
      have hmem := List.mem_of_getElem? hmi
      have g0 : D.get (eMv m) (.int 0) = some (.str m.1) := get3.1
      have htk : ms.take (i + 1) = ms.take i ++ [m] := by rw [List.take_add_one, hmi]; rfl
      have hnin : m.1 ∉ ps ++ (ms.take i).map (·.1) := by
        rw [List.mem_append]
        rintro (z | z)
        · exact nd3 m.1 z m.1 (List.mem_map.mpr ⟨m, hmem, rfl⟩) rfl
        · have hn2 : (ms.map (·.1)).take (i + 1) = (ms.map (·.1)).take i ++ [m.1] := by rw [← List.map_take, ← List.map_take, htk, List.map_append]; rfl
          have nd4 : ((ms.map (·.1)).take (i + 1)).Nodup := nd2.sublist (List.take_sublist _ _)
          rw [hn2, List.nodup_append] at nd4
          exact nd4.2.2 m.1 (by rw [← List.map_take]; exact z) m.1 (List.mem_singleton.mpr rfl) rfl
      have hall : ∀ c ∈ ps ++ (ms.take i).map (·.1), okN c = true := fun c hc => by
        rcases List.mem_append.mp hc with z | z
        · exact hok c z
        · obtain ⟨m', hm', rfl⟩ := List.mem_map.mp z
          exact hmk m' (List.mem_of_mem_take hm')
      have hh := has_lst (neg := false) hall (hmk m hmem)
      have hr : room (ps ++ (ms.take i).map (·.1)).length = true := decide_eq_true (by rw [List.length_append, List.length_map, List.length_take]; omega)
      refine ⟨[some (S.ow (.ins 0 [])), some (S.sh (eP ps)), some (S.sh (eMs ms)), some (.ow (.lst ((ps ++ (ms.take i).map (·.1)).map .str))), a, some (.sh (eMv m))], rfl, [some (S.ow (.ins 0 [])), some (S.sh (eP ps)), some (S.sh (eMs ms)), some (.ow (.lst ((ps ++ (ms.take (i + 1)).map (·.1)).map .str))), a, some (.sh (eMv m))], .inl ?_, a, _, hlt, rfl⟩
      have im := is_move_eq hp (hm m hmem)
      generalize hw : ps ++ (ms.take i).map (·.1) = w at *
      have e2' : ps ++ (ms.take (i + 1)).map (·.1) = w ++ [m.1] := by rw [htk, List.map_append, ← List.append_assoc, hw]; rfl
      rw [e2']
      simp [sSeq, sIf, tOr, tNot, tE, t2, e2, eVar, eSh, eC, eCall, aCons, aNil, g0, im, hh, hnin, sNext, sApp, hr]
  · rintro i x ρ hx ⟨a, hi, rfl⟩
    rw [List.getElem?_map] at hx
    obtain ⟨p, hpi, rfl⟩ := Option.map_eq_some_iff.mp hx
    have hlt := (List.getElem?_eq_some_iff.mp hpi).1
    have hmem := List.mem_of_getElem? hpi
    have htk : ps.take (i + 1) = ps.take i ++ [p] := by rw [List.take_add_one, hpi]; rfl
    have hnin : p ∉ ps.take i := by
      have nd4 : (ps.take (i + 1)).Nodup := nd1.sublist (List.take_sublist _ _)
      rw [htk, List.nodup_append] at nd4
      exact fun z => nd4.2.2 p z p (List.mem_singleton.mpr rfl) rfl
    have hh := has_lst (neg := false) (ps := ps.take i) (fun c hc => hok c (List.mem_of_mem_take hc)) (hok p hmem)
    have hr : room (ps.take i).length = true := decide_eq_true (by rw [List.length_take]; omega)
    refine ⟨[some (S.ow (.ins 0 [])), some (S.sh (eP ps)), some (S.sh (eMs ms)), some (.ow (.lst ((ps.take i).map .str))), some (.sh (.str p)), none], rfl, [some (S.ow (.ins 0 [])), some (S.sh (eP ps)), some (S.sh (eMs ms)), some (.ow (.lst ((ps.take (i + 1)).map .str))), some (.sh (.str p)), none], .inl ?_, _, hlt, rfl⟩
    have nm := (hp p hmem).2
    rw [htk]
    generalize ps.take i = w at *
    simp [sSeq, sIf, tOr, tNot, tE, t2, e2, eVar, eSh, eC, eCall, aCons, aNil, nm, hh, hnin, sNext, sApp, hr]
end F15
end Vl
end
section
set_option Elab.async false
set_option linter.all false
set_option maxRecDepth 100000
/-! what the defs of k15 compute: the law's net -/
namespace Vl
namespace F15
theorem get_lstD {xs : List Int} {k : Nat} (h : k < xs.length) : D.get (.lst (xs.map .int)) (.int (k : Int)) = some (.int (xs.getD k 0)) := get_lst (by rw [List.getElem?_map, List.getD_eq_getElem?_getD, List.getElem?_eq_getElem h]; rfl)
theorem get_eP {ps : List Nm} {k : Nat} (h : k < ps.length) : D.get (eP ps) (.int (k : Int)) = some (.str ps[k]) := get_tup (by rw [List.getElem?_map, List.getElem?_eq_getElem h]; rfl)
theorem len_eP {ps : List Nm} : D.len (eP ps) = some (.int ps.length) := by simp [eP, D.len]
theorem idx_get {ps : List Nm} (nd : ps.Nodup) {k : Nat} (h : k < ps.length) : idx ps ps[k] = k := by
  have : ps.findIdx? (· == ps[k]) = some k := by
    rw [List.findIdx?_eq_some_iff_getElem]
    refine ⟨h, by simp, fun j hj => ?_⟩
    simp only [beq_iff_eq, ne_eq]
    intro e
    exact absurd ((List.getElem_inj nd).mp e) (by omega)
  simp [idx, this]
def okS2 (ps : List Nm) (side : List (Nm × Int)) : Prop := (∀ p ∈ side, p.1 ∈ ps ∧ 1 ≤ p.2 ∧ p.2 ≤ 2) ∧ (side.map fun p => idx ps p.1).Pairwise (· < ·)
theorem okS2.ok {ps : List Nm} {side : List (Nm × Int)} (h : okS2 ps side) : okSide ps side := ⟨fun p hp => ⟨(h.1 p hp).1, (h.1 p hp).2.1, by have := (h.1 p hp).2.2; omega⟩, h.2⟩
theorem law_side_ok {l : List Int} {a : Nat} {ps : List Nm} (hl : 0 < l.length) (hps : ps.Nodup) (h4 : ps.length ≤ 8) : ∃ side, okS2 ps side ∧ g__law_side [.lst (l.map .int), .int a, eP ps] = some (eS side) := by
  have loop := forM_ok (g := gN 4) (xs := (List.range ps.length).map fun (k : Nat) => D.int (k : Int)) (b := (sSeq (sSet 5 (e2 D.mod (e2 D.get (eVar 0) (e2 D.mod (e2 D.add (eSh 1) (eSh 4)) (e1 D.len (eVar 0)))) (eC (.int 7))))
  (sIf (t2 D.gt (eVar 5) (eC (.int 3))) (sApp 3 (eTup (aCons (e2 D.get (eVar 2) (eVar 4)) (aCons (eIf (tAnd (t2 D.eq (eVar 5) (eC (.int 6))) (t2 D.lt (e1 D.len (eVar 2)) (eC (.int 4)))) (eC (.int 2)) (eC (.int 1))) (aNil))))) (sNext))))
    (fun i ρ => ∃ (side : List (Nm × Int)) (x y : Option S), i ≤ ps.length ∧ side.length ≤ i ∧ okS2 ps side ∧ (∀ p ∈ side, idx ps p.1 < i) ∧ ρ = [some (.sh (.lst (l.map .int))), some (.sh (.int a)), some (.sh (eP ps)), some (.ow (.lst (side.map fun p => .tup [.str p.1, .int p.2]))), x, y]) ?_
    (ρ := [some (.sh (.lst (l.map .int))), some (.sh (.int a)), some (.sh (eP ps)), some (.ow (.lst [])), none, none]) ⟨[], none, none, Nat.zero_le _, Nat.le_refl _, ⟨fun _ h => (nomatch h), List.Pairwise.nil⟩, fun _ h => (nomatch h), rfl⟩
  · obtain ⟨ρ', h1, side, x, y, _, _, h2, _, rfl⟩ := loop
    refine ⟨side, h2, ?_⟩
    unfold g__law_side fnB b__law_side
    simp only [List.length_cons, List.length_nil, if_true, List.map_cons, List.map_nil, List.cons_append, List.nil_append, List.replicate]
    rw [seq_nx (by simp only [sOwn, eLst, aNil, Option.bind_some, List.length_nil, Nat.zero_le, if_true, List.set_cons_succ, List.set_cons_zero]; rfl), seq_nx (for_nx (by simp only [wRange, e1, eVar, List.getElem?_cons_zero, List.getElem?_cons_succ, Option.bind_some, len_eP]; rw [if_pos (by omega)]; rfl) h1)]
    simp [sRet, e1, eVar, D.toTup, eS]
  · rintro i x ρ hx ⟨side, u, v, hi, hsl, hs, hb, rfl⟩
    rw [List.getElem?_map] at hx
    obtain ⟨k, hk, rfl⟩ := Option.map_eq_some_iff.mp hx
    obtain ⟨hi2, hk2⟩ := List.getElem?_eq_some_iff.mp hk
    rw [List.length_range] at hi2
    rw [List.getElem_range] at hk2
    subst hk2
    refine ⟨[some (.sh (.lst (l.map .int))), some (.sh (.int a)), some (.sh (eP ps)), some (.ow (.lst (side.map fun p => .tup [.str p.1, .int p.2]))), some (S.sh (.int (i : Int))), v], rfl, ?_⟩
    have hm : (a + i) % l.length < l.length := Nat.mod_lt _ hl
    have q1 : D.mod (.int ((a : Int) + (i : Int))) (.int (l.length : Int)) = some (.int (((a + i) % l.length : Nat) : Int)) := by
      rw [mod_r (by omega)]; simp
    have q2 := get_lstD hm
    generalize l.getD ((a + i) % l.length) 0 = w at q2
    have q3 : D.mod (.int w) (.int 7) = some (.int (w % 7)) := mod_r (by decide)
    have s1 : ∀ ρ : En, ρ = [some (.sh (.lst (l.map .int))), some (.sh (.int a)), some (.sh (eP ps)), some (.ow (.lst (side.map fun p => .tup [.str p.1, .int p.2]))), some (S.sh (.int (i : Int))), v] → (sSet 5 (e2 D.mod (e2 D.get (eVar 0) (e2 D.mod (e2 D.add (eSh 1) (eSh 4)) (e1 D.len (eVar 0)))) (eC (.int 7)))) ρ = some (.nx [some (.sh (.lst (l.map .int))), some (.sh (.int a)), some (.sh (eP ps)), some (.ow (.lst (side.map fun p => .tup [.str p.1, .int p.2]))), some (S.sh (.int (i : Int))), some (.sh (.int (w % 7)))]) := by
      rintro ρ rfl
      simp only [sSet, e2, e1, eVar, eSh, eC, List.getElem?_cons_zero, List.getElem?_cons_succ, Option.bind_some, D.add, D.len, List.length_map, q1, q2, q3, List.set_cons_succ, List.set_cons_zero]
    rw [seq_nx (s1 _ rfl)]
    by_cases h3 : 3 < w % 7
    · have hg := get_eP hi2
      obtain ⟨wt, hw, hw1, hw2⟩ : ∃ wt : Int, (∀ ρ : En, ρ = [some (.sh (.lst (l.map .int))), some (.sh (.int a)), some (.sh (eP ps)), some (.ow (.lst (side.map fun p => .tup [.str p.1, .int p.2]))), some (S.sh (.int (i : Int))), some (.sh (.int (w % 7)))] → (eIf (tAnd (t2 D.eq (eVar 5) (eC (.int 6))) (t2 D.lt (e1 D.len (eVar 2)) (eC (.int 4)))) (eC (.int 2)) (eC (.int 1))) ρ = some (.int wt)) ∧ (1 ≤ wt ∧ wt ≤ 2) := by
        by_cases h6 : w % 7 = 6 ∧ (ps.length : Int) < 4
        · refine ⟨2, ?_, by decide, by decide⟩
          rintro ρ rfl
          simp [eIf, tAnd, t2, tE, e2, e1, eVar, eC, D.eq, D.isScal, D.eqv, D.lt, len_eP, h6.1, h6.2]
        · refine ⟨1, ?_, by decide, by decide⟩
          rintro ρ rfl
          by_cases h7 : w % 7 = 6
          · have h8 : ¬ (ps.length : Int) < 4 := fun z => h6 ⟨h7, z⟩
            have h8' : ¬ (ps.length < 4) := by omega
            simp [eIf, tAnd, t2, tE, e2, e1, eVar, eC, D.eq, D.isScal, D.eqv, D.lt, len_eP, h7, h8, h8']
          · simp [eIf, tAnd, t2, tE, e2, e1, eVar, eC, D.eq, D.isScal, D.eqv, D.lt, len_eP, h7]
      refine ⟨_, .inl ?_, side ++ [(ps[i], wt)], some (S.sh (.int (i : Int))), some (.sh (.int (w % 7))), hi2, by simp; omega, ⟨?_, ?_⟩, ?_, rfl⟩
      · have rm : room side.length = true := decide_eq_true (by omega)
        rw [ifT (by simp [t2, tE, e2, eVar, eC, D.gt, h3])]
        have hv := hw _ rfl
        simp only [sApp, eTup, aCons, aNil, e2, eVar, List.getElem?_cons_zero, List.getElem?_cons_succ, Option.bind_some, hg]
        rw [hv]
        simp [rm]
      · intro p hp
        rcases List.mem_append.mp hp with z | z
        · exact hs.1 p z
        · rw [List.mem_singleton.mp z]
          exact ⟨List.getElem_mem _, hw1, hw2⟩
      · rw [List.map_append, List.pairwise_append]
        refine ⟨hs.2, by simp, fun x hx y hy => ?_⟩
        obtain ⟨p, hp, rfl⟩ := List.mem_map.mp hx
        simp only [List.map_cons, List.map_nil, List.mem_singleton] at hy
        rw [hy, idx_get hps hi2]
        exact hb p hp
      · intro p hp
        rcases List.mem_append.mp hp with z | z
        · have := hb p z; omega
        · rw [List.mem_singleton.mp z, idx_get hps hi2]; omega
    · refine ⟨_, .inl ?_, side, some (S.sh (.int (i : Int))), some (.sh (.int (w % 7))), hi2, by omega, hs, fun p hp => by have := hb p hp; omega, rfl⟩
      simp [sIf, t2, tE, e2, eVar, eC, D.gt, h3, sNext]
end F15
end Vl
end
section
set_option Elab.async false
set_option linter.all false
set_option maxRecDepth 100000
/-! what the defs of k15 compute: a side shifted -/
namespace Vl
namespace F15
def mvd (ps : List Nm) (b : Nat) (p : Nm × Int) : Nm × Int := (ps.getD ((idx ps p.1 + b) % ps.length) [], p.2)
def eSi (p : Nm × Int) : D := .tup [.str p.1, .int p.2]
theorem get2 {x y : D} : D.get (.tup [x, y]) (.int 0) = some x ∧ D.get (.tup [x, y]) (.int 1) = some y := by
  refine ⟨?_, ?_⟩ <;> simp [D.get, D.ix, ixN]
theorem add_lst {xs ys : List D} (h : xs.length + ys.length < 100000) : D.add (.lst xs) (.lst ys) = some (.lst (xs ++ ys)) := by
  exact if_pos (decide_eq_true h)
theorem mod_inj {i j b n : Nat} (h0 : 0 < n) (hi : i < n) (hj : j < n) (h : (i + b) % n = (j + b) % n) : i = j := by
  have e3 := Nat.div_add_mod (i + b) n
  have e4 := Nat.div_add_mod (j + b) n
  rw [h] at e3
  generalize (i + b) / n = u at *
  generalize (j + b) / n = v at *
  rcases Nat.lt_trichotomy u v with z | z | z
  · have : n * u + n ≤ n * v := by rw [← Nat.mul_succ]; exact Nat.mul_le_mul_left n z
    omega
  · subst z; omega
  · have : n * v + n ≤ n * u := by rw [← Nat.mul_succ]; exact Nat.mul_le_mul_left n z
    omega
theorem idx_mem {ps : List Nm} {a : Nm} (hp : ∀ b ∈ ps, okN b = true) (ha : a ∈ ps) : ∃ h : idx ps a < ps.length, ps[idx ps a] = a := by
  obtain ⟨e1, h⟩ := index_eq hp ha
  refine ⟨h, ?_⟩
  obtain ⟨k, hk, rfl⟩ := List.mem_iff_getElem.mp ha
  have hs : ∃ j, ps.findIdx? (· == ps[k]) = some j := by
    cases hh : ps.findIdx? (· == ps[k]) with
    | some j => exact ⟨j, rfl⟩
    | none =>
      rw [List.findIdx?_eq_none_iff] at hh
      have := hh _ ha
      simp at this
  obtain ⟨j, hj⟩ := hs
  have h3 := List.findIdx?_eq_some_iff_getElem.mp hj
  obtain ⟨hj1, hj2, _⟩ := h3
  have : idx ps ps[k] = j := by simp [idx, hj]
  simp only [this]
  exact beq_iff_eq.mp hj2
theorem eqv_str {a b : Nm} : D.eq (.str a) (.str b) = some (.bl (decide (a = b))) := by
  simp only [D.eq, D.isScal, D.eqv, if_true]
  rw [show (a == b) = decide (a = b) from by rw [Bool.eq_iff_iff]; simp]
theorem pw_le1 : ∀ {l : List (Nm × Int)} {n : Nm} {ps : List Nm}, (l.map (·.1)).Nodup → (∀ p ∈ l, p.1 = n) → (l.map fun p => idx ps p.1).Pairwise (· < ·)
  | [], _, _, _, _ => List.Pairwise.nil
  | [p], _, _, _, _ => by simp
  | p :: q :: l, n, ps, nd, h => by
    have e1 := h p List.mem_cons_self
    have e2 := h q (List.mem_cons_of_mem _ List.mem_cons_self)
    rw [List.map_cons, List.map_cons, List.nodup_cons] at nd
    exact absurd (by rw [e1, e2]; exact List.mem_cons_self) nd.1
theorem law_shifted_ok {ps : List Nm} {side : List (Nm × Int)} {b : Nat} (hp : ∀ b ∈ ps, okN b = true) (nd : ps.Nodup) (h0 : 0 < ps.length) (h8 : ps.length ≤ 8) (hl : side.length ≤ 8) (hs : okS2 ps side) : ∃ side', okS2 ps side' ∧ g__law_shifted [eS side, eP ps, .int b] = some (eS side') := by
  have hlc : ∀ ρ : En, ρ = [some (.sh (eS side)), some (.sh (eP ps)), some (.sh (.int b)), none, none, none, none, none] → (sSet 3 (eLc (wSeq (eSh 0)) (gT [gN 5, gN 6]) (tY) (eTup (aCons (e2 D.get (eVar 1) (e2 D.mod (e2 D.add (e2 D.index (eVar 1) (eVar 5)) (eSh 2)) (e1 D.len (eVar 1)))) (aCons (eSh 6) (aNil)))) [5, 6])) ρ = some (.nx [some (.sh (eS side)), some (.sh (eP ps)), some (.sh (.int b)), some (.sh (.lst ((side.map (mvd ps b)).map eSi))), none, none, none, none]) := by
    rintro ρ rfl
    simp only [sSet, eLc, wSeq, eSh, eS, List.getElem?_cons_zero, List.getElem?_cons_succ, Option.bind_some]
    rw [lcM_all (F := fun d => match d with | .tup [.str a, .int w] => eSi (mvd ps b (a, w)) | _ => .non)]
    · simp [Function.comp_def]
    · intro x hx
      obtain ⟨p, hpm, rfl⟩ := List.mem_map.mp hx
      refine ⟨_, rfl, ?_⟩
      obtain ⟨i1, i2⟩ := index_eq hp (hs.1 p hpm).1
      have hm : (idx ps p.1 + b) % ps.length < ps.length := Nat.mod_lt _ h0
      have q1 : D.mod (.int ((idx ps p.1 : Int) + (b : Int))) (.int (ps.length : Int)) = some (.int (((idx ps p.1 + b) % ps.length : Nat) : Int)) := by
        rw [mod_r (by omega)]; simp
      have q2 := get_eP hm
      simp only [eTup, aCons, aNil, e2, e1, eVar, eSh, wipeE, List.set_cons_succ, List.set_cons_zero, List.getElem?_cons_zero, List.getElem?_cons_succ, Option.bind_some, i1, D.add, len_eP, q1, q2]
      simp [mvd, eSi, List.getD_eq_getElem?_getD, List.getElem?_eq_getElem hm]
  have mnd : ((side.map (mvd ps b)).map (·.1)).Nodup := by
    rw [List.map_map]
    have pw := hs.2
    rw [List.pairwise_map] at pw
    rw [List.nodup_iff_pairwise_ne, List.pairwise_map]
    apply List.Pairwise.imp_of_mem ?_ pw
    intro p q hpm hqm hlt
    obtain ⟨_, i2⟩ := index_eq hp (hs.1 p hpm).1
    obtain ⟨_, j2⟩ := index_eq hp (hs.1 q hqm).1
    have hm1 : (idx ps p.1 + b) % ps.length < ps.length := Nat.mod_lt _ h0
    have hm2 : (idx ps q.1 + b) % ps.length < ps.length := Nat.mod_lt _ h0
    simp only [Function.comp_def, mvd, List.getD_eq_getElem?_getD, List.getElem?_eq_getElem hm1, List.getElem?_eq_getElem hm2, Option.getD_some]
    intro e
    have := (List.getElem_inj nd).mp e
    exact absurd (mod_inj h0 i2 j2 this) (by omega)
  have loop := forM_ok (g := gN 5) (xs := ps.map .str) (b := (sSet 4 (e2 D.add (eSh 4) (eLc (wSeq (eSh 3)) (gN 7) (t2 D.eq (e2 D.get (eVar 7) (eC (.int 0))) (eVar 5)) (eSh 7) [7]))))
    (fun i ρ => ∃ (s' : List (Nm × Int)) (x : Option S), i ≤ ps.length ∧ s'.length ≤ 8 * i ∧ okS2 ps s' ∧ (∀ p ∈ s', idx ps p.1 < i) ∧ ρ = [some (.sh (eS side)), some (.sh (eP ps)), some (.sh (.int b)), some (.sh (.lst ((side.map (mvd ps b)).map eSi))), some (.sh (.lst (s'.map eSi))), x, none, none]) ?_
    (ρ := [some (.sh (eS side)), some (.sh (eP ps)), some (.sh (.int b)), some (.sh (.lst ((side.map (mvd ps b)).map eSi))), some (.sh (.lst [])), none, none, none]) ⟨[], none, Nat.zero_le _, Nat.le_refl _, ⟨fun _ h => (nomatch h), List.Pairwise.nil⟩, fun _ h => (nomatch h), rfl⟩
  · obtain ⟨ρ', h1, s', x, _, _, h2, _, rfl⟩ := loop
    refine ⟨s', h2, ?_⟩
    unfold g__law_shifted fnB b__law_shifted
    simp only [List.length_cons, List.length_nil, if_true, List.map_cons, List.map_nil, List.cons_append, List.nil_append, List.replicate]
    rw [seq_nx (hlc _ rfl), seq_nx (ρ' := [some (.sh (eS side)), some (.sh (eP ps)), some (.sh (.int b)), some (.sh (.lst ((side.map (mvd ps b)).map eSi))), some (.sh (.lst [])), none, none, none]) (by simp [sSet, eLst, aNil]), seq_nx (for_nx (by simp only [wSeq, eSh, eP, List.getElem?_cons_zero, List.getElem?_cons_succ, Option.bind_some]) h1)]
    simp [sRet, e1, eVar, D.toTup, eS, eSi]
  · rintro i x ρ hx ⟨s', u, hi, hsl, hs', hb, rfl⟩
    rw [List.getElem?_map] at hx
    obtain ⟨a, ha, rfl⟩ := Option.map_eq_some_iff.mp hx
    obtain ⟨hi2, ha2⟩ := List.getElem?_eq_some_iff.mp ha
    have hflt : (side.map (mvd ps b)).filter (fun p => decide (p.1 = a)) = (side.map (mvd ps b)).filter (fun p => decide (p.1 = a)) := rfl
    generalize hM : side.map (mvd ps b) = M at *
    refine ⟨[some (.sh (eS side)), some (.sh (eP ps)), some (.sh (.int b)), some (.sh (.lst (M.map eSi))), some (.sh (.lst (s'.map eSi))), some (.sh (.str a)), none, none], rfl, [some (.sh (eS side)), some (.sh (eP ps)), some (.sh (.int b)), some (.sh (.lst (M.map eSi))), some (.sh (.lst ((s' ++ M.filter (fun p => decide (p.1 = a))).map eSi))), some (.sh (.str a)), none, none], .inl ?_, _, _, hi2, ?_, ⟨?_, ?_⟩, ?_, rfl⟩
    · have hl2 : eLc (wSeq (eSh 3)) (gN 7) (t2 D.eq (e2 D.get (eVar 7) (eC (.int 0))) (eVar 5)) (eSh 7) [7] [some (.sh (eS side)), some (.sh (eP ps)), some (.sh (.int b)), some (.sh (.lst (M.map eSi))), some (.sh (.lst (s'.map eSi))), some (.sh (.str a)), none, none] = some (.lst ((M.filter (fun p => decide (p.1 = a))).map eSi)) := by
        simp only [eLc, wSeq, eSh, List.getElem?_cons_zero, List.getElem?_cons_succ, Option.bind_some]
        rw [lcM_ok (p := fun d => match d with | .tup [.str n, .int w] => decide (n = a) | _ => false) (F := fun d => d)]
        · simp [List.filter_map, Function.comp_def, eSi]
        · intro y hy
          obtain ⟨q, hq, rfl⟩ := List.mem_map.mp hy
          refine ⟨_, rfl, ?_, fun _ => ?_⟩
          · simp [t2, tE, e2, eVar, eC, wipeE, eSi, get2.1, eqv_str]
          · simp [eSh, wipeE]
      have hfl : (M.filter (fun p => decide (p.1 = a))).length ≤ 8 := by
        have := List.length_filter_le (fun p : Nm × Int => decide (p.1 = a)) M
        have e : M.length = side.length := by rw [← hM, List.length_map]
        omega
      simp only [sSet, e2, hl2]
      simp only [eSh, List.getElem?_cons_zero, List.getElem?_cons_succ, Option.bind_some]
      rw [add_lst (by simp only [List.length_map]; omega)]
      simp
    · have := List.length_filter_le (fun p : Nm × Int => decide (p.1 = a)) M
      have e : M.length = side.length := by rw [← hM, List.length_map]
      rw [List.length_append]
      omega
    · intro p hpm
      rcases List.mem_append.mp hpm with z | z
      · exact hs'.1 p z
      · obtain ⟨z1, z2⟩ := List.mem_filter.mp z
        rw [← hM] at z1
        obtain ⟨q, hq, rfl⟩ := List.mem_map.mp z1
        refine ⟨?_, (hs.1 q hq).2⟩
        rw [of_decide_eq_true z2, ← ha2]
        exact List.getElem_mem _
    · rw [List.map_append, List.pairwise_append]
      refine ⟨hs'.2, pw_le1 (n := a) ?_ ?_, fun x hx y hy => ?_⟩
      · exact mnd.sublist ((List.filter_sublist (p := fun p : Nm × Int => decide (p.1 = a))).map _)
      · intro p hpm
        exact of_decide_eq_true (List.mem_filter.mp hpm).2
      · obtain ⟨p, hp1, rfl⟩ := List.mem_map.mp hx
        obtain ⟨q, hq1, rfl⟩ := List.mem_map.mp hy
        have e : q.1 = a := of_decide_eq_true (List.mem_filter.mp hq1).2
        rw [e, ← ha2, idx_get nd hi2]
        exact hb p hp1
    · intro p hpm
      rcases List.mem_append.mp hpm with z | z
      · have := hb p z; omega
      · have e : p.1 = a := of_decide_eq_true (List.mem_filter.mp z).2
        rw [e, ← ha2, idx_get nd hi2]; omega
end F15
end Vl
end
section
set_option Elab.async false
set_option linter.all false
set_option maxRecDepth 100000
/-! what the defs of k15 compute: the law's net and mark -/
namespace Vl
namespace F15
def R0 : List Nm := [[112], [113], [114], [115]]
def R1 : List Nm := [[115], [112], [114], [113]]
def L0 : List Nm := [[97], [98], [99], [100]]
def L1 : List Nm := [[100], [98], [97], [99]]
def okMv2 (ps : List Nm) (m : Mv) : Prop := goodN m.1 ∧ okS2 ps m.2.1 ∧ okS2 ps m.2.2
theorem good_R {R : List Nm} (h : R = R0 ∨ R = R1) : ∀ a ∈ R, goodN a := by
  intro a ha
  have : a = [112] ∨ a = [113] ∨ a = [114] ∨ a = [115] := by
    rcases h with rfl | rfl <;> simp [R0, R1] at ha <;> rcases ha with rfl | rfl | rfl | rfl <;> simp
  rcases this with rfl | rfl | rfl | rfl <;> exact ⟨rfl, names_ok _ (by simp)⟩
theorem good_L {R : List Nm} (h : R = L0 ∨ R = L1) : ∀ a ∈ R, goodN a := by
  intro a ha
  have : a = [97] ∨ a = [98] ∨ a = [99] ∨ a = [100] := by
    rcases h with rfl | rfl <;> simp [L0, L1] at ha <;> rcases ha with rfl | rfl | rfl | rfl <;> simp
  rcases this with rfl | rfl | rfl | rfl <;> exact ⟨rfl, names_ok _ (by simp)⟩
theorem nodup_RL {R L : List Nm} (h : R = R0 ∨ R = R1) (h' : L = L0 ∨ L = L1) : (R ++ L).Nodup := by
  rcases h with rfl | rfl <;> rcases h' with rfl | rfl <;> decide
theorem len_R {R : List Nm} (h : R = R0 ∨ R = R1) : R.length = 4 := by rcases h with rfl | rfl <;> rfl
theorem len_L {R : List Nm} (h : R = L0 ∨ R = L1) : R.length = 4 := by rcases h with rfl | rfl <;> rfl
theorem len_side {ps : List Nm} {side : List (Nm × Int)} (hp : ∀ b ∈ ps, okN b = true) (hs : okS2 ps side) (h8 : ps.length ≤ 8) : side.length ≤ 8 := by
  have pw := hs.2
  have hb : ∀ x ∈ side.map fun p => idx ps p.1, x < 8 := by
    intro x hx
    obtain ⟨p, hpm, rfl⟩ := List.mem_map.mp hx
    have := (index_eq hp (hs.1 p hpm).1).2
    omega
  rw [← List.length_map (f := fun p : Nm × Int => idx ps p.1)]
  generalize (side.map fun p => idx ps p.1) = l at pw hb
  have key : ∀ (l : List Nat) (b : Nat), l.Pairwise (· < ·) → (∀ x ∈ l, b ≤ x ∧ x < 8) → l.length ≤ 8 - b := by
    intro l
    induction l with
    | nil => intro b _ _; simp
    | cons x l ih =>
      intro b pw hb
      rw [List.pairwise_cons] at pw
      have := ih (x + 1) pw.2 fun y hy => ⟨pw.1 y hy, (hb y (List.mem_cons_of_mem _ hy)).2⟩
      have h1 := hb x List.mem_cons_self
      rw [List.length_cons]
      omega
  exact key l 0 pw fun x hx => ⟨Nat.zero_le _, hb x hx⟩
theorem take_tup {ps : List Nm} {n : Nat} : D.takeTo (eP ps) (.int (n : Int)) = some (eP (ps.take n)) := by
  unfold D.takeTo eP
  simp
theorem law_mark_ok {c : Int} {n : Nat} (hn : n ≤ 8) : ∃ m : List Int, m.length = n ∧ (∀ z ∈ m, 0 ≤ z) ∧ g__law_mark [.int c, .int n] = some (tupI m) := by
  obtain ⟨l, hl, hz, hd⟩ := draws_ok c 8 (by decide)
  obtain ⟨k, hk, hk0⟩ : ∃ k : Int, (∀ ρ : En, ρ[1]? = some (some (S.sh (.int (n : Int)))) → (eIf (t2 D.lt (eVar 1) (eC (.int 4))) (eC (.int 3)) (eC (.int 2))) ρ = some (.int k)) ∧ 0 < k := by
    by_cases h : (n : Int) < 4
    · refine ⟨3, fun ρ hr => ?_, by decide⟩
      simp [eIf, t2, tE, e2, eVar, eC, hr, D.lt, show n < 4 by omega, h]
    · refine ⟨2, fun ρ hr => ?_, by decide⟩
      simp [eIf, t2, tE, e2, eVar, eC, hr, D.lt, show ¬ n < 4 by omega, h]
  refine ⟨(List.range n).map fun i => l.getD i 0 % k, by simp, ?_, ?_⟩
  · intro z hz'
    obtain ⟨i, _, rfl⟩ := List.mem_map.mp hz'
    exact Int.emod_nonneg _ (by omega)
  · unfold g__law_mark fnB b__law_mark
    simp only [List.length_cons, List.length_nil, if_true, List.map_cons, List.map_nil, List.cons_append, List.nil_append, List.replicate]
    rw [seq_nx (ρ' := [some (S.sh (.int c)), some (S.sh (.int n)), some (.sh (.lst (l.map .int))), none]) (by
      have hd' : g__law_draws [.int c, .int 8] = some (.lst (l.map .int)) := hd
      simp only [sSet, eCall, aCons, aNil, eSh, eC, List.getElem?_cons_zero, Option.bind_some, hd', List.set_cons_succ, List.set_cons_zero])]
    simp only [sRet, e1, eLc, wRange, eVar, List.getElem?_cons_zero, List.getElem?_cons_succ, Option.bind_some]
    rw [if_pos (by omega)]
    simp only [Option.bind_some, Int.toNat_natCast]
    rw [lcM_all (F := fun d => match d with | .int i => .int (l.getD i.toNat 0 % k) | _ => .non)]
    · simp [D.toTup, tupI, Function.comp_def]
    · intro x hx
      obtain ⟨i, hi, rfl⟩ := List.mem_map.mp hx
      have hi' : i < n := by simpa using hi
      refine ⟨_, rfl, ?_⟩
      have q := get_lstD (xs := l) (k := i) (by omega)
      have hq := hk (wipeE [some (S.sh (.int c)), some (S.sh (.int n)), some (.sh (.lst (l.map .int))), none] [3] |>.set 3 (some (.sh (.int (i : Int))))) rfl
      simp only [e2] at hq ⊢
      rw [hq]
      simp only [wipeE, eVar, List.set_cons_succ, List.set_cons_zero, List.getElem?_cons_zero, List.getElem?_cons_succ, Option.bind_some, q, mod_r hk0, Int.toNat_natCast]
end F15
end Vl
end
section
set_option Elab.async false
set_option linter.all false
set_option maxRecDepth 100000
/-! what the defs of k15 compute: the law's net -/
namespace Vl
namespace F15
theorem law_side_ok' {l : List Int} {a : Nat} {z : Int} {ps : List Nm} (e : z = (a : Int)) (hl : 0 < l.length) (hps : ps.Nodup) (h4 : ps.length ≤ 8) : ∃ side, okS2 ps side ∧ g__law_side [.lst (l.map .int), .int z, eP ps] = some (eS side) := by
  subst e; exact law_side_ok hl hps h4
theorem law_shifted_ok' {ps : List Nm} {side : List (Nm × Int)} {b : Nat} {z : Int} (e : z = (b : Int)) (hp : ∀ b ∈ ps, okN b = true) (nd : ps.Nodup) (h0 : 0 < ps.length) (h8 : ps.length ≤ 8) (hs : okS2 ps side) : ∃ side', okS2 ps side' ∧ g__law_shifted [eS side, eP ps, .int z] = some (eS side') := by
  subst e; exact law_shifted_ok hp nd h0 h8 (len_side hp hs h8) hs
theorem if_or {t : FT} {a b : FS} {ρ ρ1 ρ2 : En} {P : Prop} [Decidable P] (ht : t ρ = some (decide P)) (h1 : P → a ρ = some (.nx ρ1)) (h2 : ¬ P → b ρ = some (.nx ρ2)) : sIf t a b ρ = some (.nx (if P then ρ1 else ρ2)) := by
  by_cases h : P
  · rw [ifT (by rw [ht, decide_eq_true h]), h1 h, if_pos h]
  · rw [ifF (by rw [ht, decide_eq_false h]), h2 h, if_neg h]
theorem law_net_ok (c : Int) : ∃ ps ms, okNet ps ms ∧ (∀ m ∈ ms, okMv2 ps m) ∧ 2 ≤ ps.length ∧ ps.length ≤ 4 ∧ 1 ≤ ms.length ∧ ms.length ≤ 4 ∧ g__law_net [.int c] = some (.tup [eP ps, eMs ms]) := by
  obtain ⟨l, hl, hz, hd⟩ := draws_ok c 44 (by decide)
  have hd' : g__law_draws [.int c, .int 44] = some (.lst (l.map .int)) := hd
  have nn : ∀ k, 0 ≤ l.getD k 0 := by
    intro k
    rw [List.getD_eq_getElem?_getD]
    cases h : l[k]? with
    | none => exact Int.le_refl _
    | some v => exact hz v (List.mem_of_getElem? h)
  have g0 := get_lstD (xs := l) (k := 0) (by omega)
  have g1 := get_lstD (xs := l) (k := 1) (by omega)
  have g2 := get_lstD (xs := l) (k := 2) (by omega)
  have g42 := get_lstD (xs := l) (k := 42) (by omega)
  have g43 := get_lstD (xs := l) (k := 43) (by omega)
  have n0 := nn 0
  have n1 := nn 1
  have n43 := nn 43
  generalize l.getD 0 0 = d0 at g0 n0
  generalize l.getD 1 0 = d1 at g1 n1
  generalize l.getD 2 0 = d2 at g2
  generalize l.getD 42 0 = d42 at g42
  generalize l.getD 43 0 = d43 at g43 n43
  obtain ⟨R, hR, eR⟩ : ∃ R, (R = R0 ∨ R = R1) ∧ D.get (.tup [eP R0, eP R1]) (.int (d42 % 2)) = some (eP R) := by
    have : d42 % 2 = 0 ∨ d42 % 2 = 1 := by omega
    rcases this with e | e
    · exact ⟨R0, .inl rfl, by rw [e]; exact get2.1⟩
    · exact ⟨R1, .inr rfl, by rw [e]; exact get2.2⟩
  obtain ⟨L, hL, eL⟩ : ∃ L, (L = L0 ∨ L = L1) ∧ D.get (.tup [eP L0, eP L1]) (.int (d43 % 2)) = some (eP L) := by
    have : d43 % 2 = 0 ∨ d43 % 2 = 1 := by omega
    rcases this with e | e
    · exact ⟨L0, .inl rfl, by rw [e]; exact get2.1⟩
    · exact ⟨L1, .inr rfl, by rw [e]; exact get2.2⟩
  obtain ⟨n, hn, hn2, hn4⟩ : ∃ n : Nat, d0 % 3 + 2 = (n : Int) ∧ 2 ≤ n ∧ n ≤ 4 := ⟨(d0 % 3 + 2).toNat, by omega, by omega, by omega⟩
  obtain ⟨m, hm, hm1, hm4⟩ : ∃ m : Nat, d1 % 4 + 1 = (m : Int) ∧ 1 ≤ m ∧ m ≤ 4 := ⟨(d1 % 4 + 1).toNat, by omega, by omega, by omega⟩
  have lR := len_R hR
  have lL := len_L hL
  have ndRL := nodup_RL hR hL
  have ps_len : (R.take n).length = n := by rw [List.length_take]; omega
  have ps_good : ∀ a ∈ R.take n, goodN a := fun a ha => good_R hR a (List.mem_of_mem_take ha)
  have ps_ok : ∀ a ∈ R.take n, okN a = true := fun a ha => (ps_good a ha).1
  have ps_nd : (R.take n).Nodup := (List.nodup_append.mp ndRL).1.sublist (List.take_sublist _ _)
  have allnd : (R.take n ++ L.take m).Nodup := ndRL.sublist ((List.take_sublist _ _).append (List.take_sublist _ _))
  generalize hps : R.take n = ps at *
  have A1 : ∀ ρ : En, ρ = [some (S.sh (.int c)), none, none, none, none, none, none] → sSet 1 (eCall g__law_draws (aCons (eSh 0) (aCons (eC (.int 44)) (aNil)))) ρ = some (.nx [some (S.sh (.int c)), some (.sh (.lst (l.map .int))), none, none, none, none, none]) := by
    rintro ρ rfl
    simp only [sSet, eCall, aCons, aNil, eSh, eC, List.getElem?_cons_zero, Option.bind_some, hd', List.set_cons_succ, List.set_cons_zero]
  have A2 : ∀ ρ : En, ρ = [some (S.sh (.int c)), some (.sh (.lst (l.map .int))), none, none, none, none, none] → sSet 2 (e2 D.takeTo (e2 D.get (eTup (aCons (eTup (aCons (eC (.str [112])) (aCons (eC (.str [113])) (aCons (eC (.str [114])) (aCons (eC (.str [115])) (aNil)))))) (aCons (eTup (aCons (eC (.str [115])) (aCons (eC (.str [112])) (aCons (eC (.str [114])) (aCons (eC (.str [113])) (aNil)))))) (aNil)))) (e2 D.mod (e2 D.get (eVar 1) (eC (.int 42))) (eC (.int 2)))) (e2 D.add (e2 D.mod (e2 D.get (eVar 1) (eC (.int 0))) (eC (.int 3))) (eC (.int 2)))) ρ = some (.nx [some (S.sh (.int c)), some (.sh (.lst (l.map .int))), some (.sh (eP ps)), none, none, none, none]) := by
    rintro ρ rfl
    have t1 : ∀ ρ : En, eTup (aCons (eTup (aCons (eC (.str [112])) (aCons (eC (.str [113])) (aCons (eC (.str [114])) (aCons (eC (.str [115])) (aNil)))))) (aCons (eTup (aCons (eC (.str [115])) (aCons (eC (.str [112])) (aCons (eC (.str [114])) (aCons (eC (.str [113])) (aNil)))))) (aNil))) ρ = some (.tup [eP R0, eP R1]) := fun ρ => by
      simp [eTup, aCons, aNil, eC, eP, R0, R1]
    have m1 : D.mod (.int d42) (.int 2) = some (.int (d42 % 2)) := mod_r (by decide)
    have m2 : D.mod (.int d0) (.int 3) = some (.int (d0 % 3)) := mod_r (by decide)
    have m3 : D.add (.int (d0 % 3)) (.int 2) = some (.int n) := by rw [← hn]; rfl
    have g0' : D.get (.lst (l.map .int)) (.int 0) = some (.int d0) := g0
    have g42' : D.get (.lst (l.map .int)) (.int 42) = some (.int d42) := g42
    simp only [sSet, e2, t1, Option.bind_some, eVar, eC, List.getElem?_cons_zero, List.getElem?_cons_succ, g42', m1, eR, g0', m2, m3, take_tup, List.set_cons_succ, List.set_cons_zero, hps]
  have A3 : ∀ ρ : En, ρ = [some (S.sh (.int c)), some (.sh (.lst (l.map .int))), some (.sh (eP ps)), none, none, none, none] → sOwn 3 (eLst aNil) ρ = some (.nx [some (S.sh (.int c)), some (.sh (.lst (l.map .int))), some (.sh (eP ps)), some (.ow (.lst [])), none, none, none]) := by
    rintro ρ rfl
    simp [sOwn, eLst, aNil]
  have loop := forM_ok (g := gN 4) (xs := (List.range m).map fun (k : Nat) => D.int (k : Int)) (b := (sSeq (sSet 5 (eCall g__law_side (aCons (eSh 1) (aCons (e2 D.add (eC (.int 3)) (e2 D.mul (eC (.int 9)) (eVar 4))) (aCons (eSh 2) (aNil))))))
  (sSeq (sSet 6 (eCall g__law_side (aCons (eSh 1) (aCons (e2 D.add (eC (.int 7)) (e2 D.mul (eC (.int 9)) (eVar 4))) (aCons (eSh 2) (aNil))))))
  (sSeq (sIf (t2 D.eq (e2 D.mod (e2 D.get (eVar 1) (eC (.int 2))) (eC (.int 2))) (eC (.int 0))) (sSet 6 (eCall g__law_shifted (aCons (eSh 5) (aCons (eSh 2) (aCons (e2 D.mod (e2 D.get (eVar 1) (e2 D.mod (e2 D.add (eC (.int 11)) (eSh 4)) (eC (.int 44)))) (e1 D.len (eVar 2))) (aNil)))))) (sNext))
  (sApp 3 (eTup (aCons (e2 D.get (e2 D.get (eTup (aCons (eTup (aCons (eC (.str [97])) (aCons (eC (.str [98])) (aCons (eC (.str [99])) (aCons (eC (.str [100])) (aNil)))))) (aCons (eTup (aCons (eC (.str [100])) (aCons (eC (.str [98])) (aCons (eC (.str [97])) (aCons (eC (.str [99])) (aNil)))))) (aNil)))) (e2 D.mod (e2 D.get (eVar 1) (eC (.int 43))) (eC (.int 2)))) (eVar 4)) (aCons (eSh 5) (aCons (eSh 6) (aNil))))))))))
    (fun i ρ => ∃ (ms : List Mv) (x y z : Option S), i ≤ m ∧ ms.length = i ∧ (∀ q ∈ ms, okMv2 ps q) ∧ ms.map (·.1) = L.take i ∧ ρ = [some (S.sh (.int c)), some (.sh (.lst (l.map .int))), some (.sh (eP ps)), some (.ow (.lst (ms.map eMv))), x, y, z]) ?_
    (ρ := [some (S.sh (.int c)), some (.sh (.lst (l.map .int))), some (.sh (eP ps)), some (.ow (.lst [])), none, none, none]) ⟨[], none, none, none, Nat.zero_le _, rfl, fun _ h => (nomatch h), rfl, rfl⟩
  · obtain ⟨ρ', h1, ms, x, y, z, _, h2, h3, h4, rfl⟩ := loop
    rw [List.length_map, List.length_range] at h2 h4
    refine ⟨ps, ms, ⟨ps_good, fun q hq => ⟨(h3 q hq).1, (h3 q hq).2.1.ok, (h3 q hq).2.2.ok⟩, by rw [h4]; exact allnd, by omega, by omega, by omega⟩, h3, by omega, by omega, by omega, by omega, ?_⟩
    unfold g__law_net fnB b__law_net
    simp only [List.length_cons, List.length_nil, if_true, List.map_cons, List.map_nil, List.cons_append, List.nil_append, List.replicate]
    have m2 : D.mod (.int d1) (.int 4) = some (.int (d1 % 4)) := mod_r (by decide)
    have m3 : D.add (.int (d1 % 4)) (.int 1) = some (.int m) := by rw [← hm]; rfl
    have g1' : D.get (.lst (l.map .int)) (.int 1) = some (.int d1) := g1
    rw [seq_nx (A1 _ rfl), seq_nx (A2 _ rfl), seq_nx (A3 _ rfl), seq_nx (for_nx (by
      simp only [wRange, e2, eVar, eC, List.getElem?_cons_zero, List.getElem?_cons_succ, Option.bind_some, g1', m2, m3]
      rw [if_pos (by omega)]
      rfl) h1)]
    simp [sRet, eTup, aCons, aNil, e1, eVar, eSh, D.toTup, eMs]
  · rintro i x ρ hx ⟨ms, u, v, w, hi, hml, hms, hnm, rfl⟩
    rw [List.getElem?_map] at hx
    obtain ⟨k, hk, rfl⟩ := Option.map_eq_some_iff.mp hx
    obtain ⟨hi2, hk2⟩ := List.getElem?_eq_some_iff.mp hk
    rw [List.length_range] at hi2
    rw [List.getElem_range] at hk2
    subst hk2
    have c9 : ∀ z : Int, D.mul (.int 9) (.int z) = some (.int (9 * z)) := fun z => mul_l (by decide) (by decide)
    obtain ⟨s1, hs1, es1⟩ := law_side_ok' (l := l) (ps := ps) (a := 3 + 9 * i) (z := 3 + 9 * (i : Int)) (by simp) (by omega) ps_nd (by omega)
    obtain ⟨s2, hs2, es2⟩ := law_side_ok' (l := l) (ps := ps) (a := 7 + 9 * i) (z := 7 + 9 * (i : Int)) (by simp) (by omega) ps_nd (by omega)
    have hmm : (11 + i) % 44 < 44 := Nat.mod_lt _ (by decide)
    have gs := get_lstD (xs := l) (k := (11 + i) % 44) (by omega)
    have ngs := nn ((11 + i) % 44)
    generalize l.getD ((11 + i) % 44) 0 = dd at gs ngs
    have qm : D.mod (.int (11 + (i : Int))) (.int 44) = some (.int (((11 + i) % 44 : Nat) : Int)) := by
      rw [mod_r (by decide)]; simp
    have qm2 : D.mod (.int dd) (.int (ps.length : Int)) = some (.int (dd % (ps.length : Int))) := mod_r (by omega)
    have hb0 : 0 ≤ dd % (ps.length : Int) := Int.emod_nonneg _ (by omega)
    obtain ⟨s3, hs3, es3⟩ := law_shifted_ok' (ps := ps) (side := s1) (b := (dd % (ps.length : Int)).toNat) (z := dd % (ps.length : Int)) (by omega) ps_ok ps_nd (by omega) (by omega) hs1
    refine ⟨[some (S.sh (.int c)), some (.sh (.lst (l.map .int))), some (.sh (eP ps)), some (.ow (.lst (ms.map eMv))), some (S.sh (.int (i : Int))), v, w], rfl, ?_⟩
    have B1 : ∀ ρ : En, ρ = [some (S.sh (.int c)), some (.sh (.lst (l.map .int))), some (.sh (eP ps)), some (.ow (.lst (ms.map eMv))), some (S.sh (.int (i : Int))), v, w] → sSet 5 (eCall g__law_side (aCons (eSh 1) (aCons (e2 D.add (eC (.int 3)) (e2 D.mul (eC (.int 9)) (eVar 4))) (aCons (eSh 2) (aNil))))) ρ = some (.nx [some (S.sh (.int c)), some (.sh (.lst (l.map .int))), some (.sh (eP ps)), some (.ow (.lst (ms.map eMv))), some (S.sh (.int (i : Int))), some (.sh (eS s1)), w]) := by
      rintro ρ rfl
      simp only [sSet, eCall, aCons, aNil, eSh, e2, eVar, eC, List.getElem?_cons_zero, List.getElem?_cons_succ, Option.bind_some, c9, D.add, es1, List.set_cons_succ, List.set_cons_zero]
    have B2 : ∀ ρ : En, ρ = [some (S.sh (.int c)), some (.sh (.lst (l.map .int))), some (.sh (eP ps)), some (.ow (.lst (ms.map eMv))), some (S.sh (.int (i : Int))), some (.sh (eS s1)), w] → sSet 6 (eCall g__law_side (aCons (eSh 1) (aCons (e2 D.add (eC (.int 7)) (e2 D.mul (eC (.int 9)) (eVar 4))) (aCons (eSh 2) (aNil))))) ρ = some (.nx [some (S.sh (.int c)), some (.sh (.lst (l.map .int))), some (.sh (eP ps)), some (.ow (.lst (ms.map eMv))), some (S.sh (.int (i : Int))), some (.sh (eS s1)), some (.sh (eS s2))]) := by
      rintro ρ rfl
      simp only [sSet, eCall, aCons, aNil, eSh, e2, eVar, eC, List.getElem?_cons_zero, List.getElem?_cons_succ, Option.bind_some, c9, D.add, es2, List.set_cons_succ, List.set_cons_zero]
    obtain ⟨s4, hs4, B3⟩ : ∃ s4, okS2 ps s4 ∧ ∀ ρ : En, ρ = [some (S.sh (.int c)), some (.sh (.lst (l.map .int))), some (.sh (eP ps)), some (.ow (.lst (ms.map eMv))), some (S.sh (.int (i : Int))), some (.sh (eS s1)), some (.sh (eS s2))] → (sIf (t2 D.eq (e2 D.mod (e2 D.get (eVar 1) (eC (.int 2))) (eC (.int 2))) (eC (.int 0))) (sSet 6 (eCall g__law_shifted (aCons (eSh 5) (aCons (eSh 2) (aCons (e2 D.mod (e2 D.get (eVar 1) (e2 D.mod (e2 D.add (eC (.int 11)) (eSh 4)) (eC (.int 44)))) (e1 D.len (eVar 2))) (aNil)))))) (sNext)) ρ = some (.nx [some (S.sh (.int c)), some (.sh (.lst (l.map .int))), some (.sh (eP ps)), some (.ow (.lst (ms.map eMv))), some (S.sh (.int (i : Int))), some (.sh (eS s1)), some (.sh (eS s4))]) := by
      have g2' : D.get (.lst (l.map .int)) (.int 2) = some (.int d2) := g2
      have m2 : D.mod (.int d2) (.int 2) = some (.int (d2 % 2)) := mod_r (by decide)
      by_cases h : d2 % 2 = 0
      · refine ⟨s3, hs3, ?_⟩
        rintro ρ rfl
        rw [ifT (by simp [t2, tE, e2, eVar, eC, g2', m2, D.eq, D.isScal, D.eqv, h])]
        simp only [sSet, eCall, aCons, aNil, eSh, e2, e1, eVar, eC, List.getElem?_cons_zero, List.getElem?_cons_succ, Option.bind_some, D.add, qm, gs, len_eP, qm2, es3, List.set_cons_succ, List.set_cons_zero]
      · refine ⟨s2, hs2, ?_⟩
        rintro ρ rfl
        rw [ifF (by simp [t2, tE, e2, eVar, eC, g2', m2, D.eq, D.isScal, D.eqv, h])]
        rfl
    have t1 : ∀ ρ : En, eTup (aCons (eTup (aCons (eC (.str [97])) (aCons (eC (.str [98])) (aCons (eC (.str [99])) (aCons (eC (.str [100])) (aNil)))))) (aCons (eTup (aCons (eC (.str [100])) (aCons (eC (.str [98])) (aCons (eC (.str [97])) (aCons (eC (.str [99])) (aNil)))))) (aNil))) ρ = some (.tup [eP L0, eP L1]) := fun ρ => by
      simp [eTup, aCons, aNil, eC, eP, L0, L1]
    have m43 : D.mod (.int d43) (.int 2) = some (.int (d43 % 2)) := mod_r (by decide)
    have g43' : D.get (.lst (l.map .int)) (.int 43) = some (.int d43) := g43
    have hiL : i < L.length := by omega
    have gL := get_eP hiL
    refine ⟨[some (S.sh (.int c)), some (.sh (.lst (l.map .int))), some (.sh (eP ps)), some (.ow (.lst ((ms ++ [(L[i], s1, s4)]).map eMv))), some (S.sh (.int (i : Int))), some (.sh (eS s1)), some (.sh (eS s4))], .inl ?_, ms ++ [(L[i], s1, s4)], _, _, _, hi2, by simp [hml], ?_, ?_, rfl⟩
    · rw [seq_nx (B1 _ rfl), seq_nx (B2 _ rfl), seq_nx (B3 _ rfl)]
      have rm : room ms.length = true := decide_eq_true (by omega)
      have eL' : D.get (.tup [.tup [.str [97], .str [98], .str [99], .str [100]], .tup [.str [100], .str [98], .str [97], .str [99]]]) (.int (d43 % 2)) = some (eP L) := eL
      simp only [sApp, e2, t1, eVar, eC, eSh, List.getElem?_cons_zero, List.getElem?_cons_succ, Option.bind_some, g43', m43, eTup, aCons, aNil, List.length_cons, List.length_nil, List.length_map, rm, if_true]
      simp [eMv, eL', gL]
    · intro q hq
      rcases List.mem_append.mp hq with z | z
      · exact hms q z
      · rw [List.mem_singleton.mp z]
        exact ⟨good_L hL _ (List.getElem_mem _), hs1, hs4⟩
    · rw [List.map_append, hnm, List.take_add_one, List.getElem?_eq_getElem hiL]
      rfl
end F15
end Vl
end
section
set_option Elab.async false
set_option linter.all false
set_option maxRecDepth 100000
/-! what the defs of k15 compute: turned back, checks -/
namespace Vl
mutual
theorem eqv_refl : ∀ (n : Nat) (d : D), D.okd n d = true → D.eqv d d = true
  | _, .non, _ => by simp [D.eqv]
  | _, .bl b, _ => by simp [D.eqv]
  | _, .int i, _ => by simp [D.eqv]
  | _, .str s, _ => by simp [D.eqv]
  | 0, .tup ds, h => by simp [D.okd] at h
  | 0, .lst ds, h => by simp [D.okd] at h
  | n + 1, .tup ds, h => by
    simp only [D.eqv]
    exact eqvL_refl n ds (by simpa [D.okd] using h)
  | n + 1, .lst ds, h => by
    simp only [D.eqv]
    exact eqvL_refl n ds (by simpa [D.okd] using h)
  | _, .dic _, h => by simp [D.okd] at h
  | _, .ins _ _, h => by simp [D.okd] at h
theorem eqvL_refl : ∀ (n : Nat) (ds : List D), D.okdL n ds = true → D.eqvL ds ds = true
  | _, [], _ => by simp [D.eqvL]
  | n, d :: ds, h => by
    simp only [D.okdL, Bool.and_eq_true] at h
    simp only [D.eqvL, Bool.and_eq_true]
    exact ⟨eqv_refl n d h.1, eqvL_refl n ds h.2⟩
end
theorem ne_self {d : D} (h : D.okd 60 d = true) : D.ne d d = some (.bl false) := by
  unfold D.ne
  rw [eqv_refl 60 d h, h]
  cases D.isScal d d <;> rfl
theorem okdL_map {α : Type} {n : Nat} {f : α → D} : ∀ {xs : List α}, (∀ x ∈ xs, D.okd n (f x) = true) → D.okdL n (xs.map f) = true
  | [], _ => by simp [D.okdL]
  | x :: xs, h => by
    simp only [List.map_cons, D.okdL, Bool.and_eq_true]
    exact ⟨h x List.mem_cons_self, okdL_map fun y hy => h y (List.mem_cons_of_mem _ hy)⟩
theorem okd_tupI {n : Nat} {m : List Int} : D.okd (n + 1) (tupI m) = true := by
  simp only [tupI, D.okd]
  exact okdL_map fun x _ => by simp [D.okd]
theorem okd_tup {n : Nat} {ds : List D} (h : D.okdL n ds = true) : D.okd (n + 1) (.tup ds) = true := by simp only [D.okd]; exact h
theorem tF {t : FT} {ρ : En} {b : Bool} (h : t ρ = some b) (hb : b = false) : t ρ = some false := by rw [h, hb]
namespace F15
theorem okd_eP {n : Nat} {ps : List Nm} (hp : ∀ b ∈ ps, okN b = true) : D.okd (n + 1) (eP ps) = true := okd_tup (okdL_map fun a ha => okd_str (hp a ha))
theorem okd_eS {n : Nat} {side : List (Nm × Int)} (hp : ∀ p ∈ side, okN p.1 = true) : D.okd (n + 2) (eS side) = true := okd_tup (okdL_map fun p hpm => okd_tup (by
  simp only [D.okdL, Bool.and_true, Bool.and_eq_true]
  exact ⟨okd_str (hp p hpm), by simp [D.okd]⟩))
theorem okd_eMs {n : Nat} {ps : List Nm} {ms : List Mv} (h : okNet ps ms) : D.okd (n + 4) (eMs ms) = true := okd_tup (okdL_map fun m hm => okd_tup (by
  have h2 := h.2.1 m hm
  have hok : ∀ b ∈ ps, okN b = true := fun b hb => (h.1 b hb).1
  simp only [D.okdL, Bool.and_true, Bool.and_eq_true]
  exact ⟨okd_str h2.1.1, okd_eS fun p hp => hok _ (h2.2.1.1 p hp).1, okd_eS fun p hp => hok _ (h2.2.2.1 p hp).1⟩))
def sw (m : Mv) : Mv := (m.1, m.2.2, m.2.1)
theorem sw_sw (m : Mv) : sw (sw m) = m := rfl
theorem map_sw_sw (ms : List Mv) : (ms.map sw).map sw = ms := by
  rw [List.map_map]
  conv => rhs; rw [← List.map_id ms]
  rfl
theorem okNet_sw {ps : List Nm} {ms : List Mv} (h : okNet ps ms) : okNet ps (ms.map sw) := by
  obtain ⟨h1, h2, h3, h4, h5, h6⟩ := h
  refine ⟨h1, fun m hm => ?_, ?_, h4, h5, by rw [List.length_map]; exact h6⟩
  · obtain ⟨q, hq, rfl⟩ := List.mem_map.mp hm
    exact ⟨(h2 q hq).1, (h2 q hq).2.2, (h2 q hq).2.1⟩
  · rw [List.map_map]
    exact h3
theorem make_eq {ps : List Nm} {ms : List Mv} (h : okNet ps ms) {f g : FE} {ρ : En} (h1 : f ρ = some (eP ps)) (h2 : g ρ = some (eMs ms)) : eMake 0 g_Net_init (aCons f (aCons g aNil)) ρ = some (eN ps ms) := by
  simp only [eMake, aCons, aNil, h1, h2, Option.bind_some, net_init_eq h]
  rfl
theorem fldP {ps : List Nm} {ms : List Mv} : D.fld 0 0 (eN ps ms) = some (eP ps) := by simp [D.fld, eN]
theorem fldM {ps : List Nm} {ms : List Mv} : D.fld 0 1 (eN ps ms) = some (eMs ms) := by simp [D.fld, eN, eMs]
theorem turned_back_eq {ps : List Nm} {ms : List Mv} (h : okNet ps ms) : g_turned_back [eN ps ms] = some (eN ps (ms.map sw)) := by
  unfold g_turned_back fnB b_turned_back
  simp only [List.length_cons, List.length_nil, if_true, List.map_cons, List.map_nil, List.cons_append, List.nil_append, List.replicate, sRet]
  rw [make_eq (okNet_sw h)]
  · rfl
  · simp [e1, eSh, fldP]
  · simp only [e1, eLc, wSeq, eSh, List.getElem?_cons_zero, Option.bind_some, fldM]
    simp only [eMs, Option.bind_some]
    rw [lcM_all (F := fun d => match d with | .tup [a, b, c] => .tup [a, c, b] | _ => .non)]
    · simp [D.toTup, Function.comp_def, eMv, sw]
    · intro x hx
      obtain ⟨m, hm, rfl⟩ := List.mem_map.mp hx
      refine ⟨_, rfl, ?_⟩
      simp [eTup, aCons, aNil, eSh, wipeE, eMv]
/-- a mark -/
def okM (ps : List Nm) (m : List Int) : Prop := m.length = ps.length ∧ ∀ z ∈ m, 0 ≤ z
theorem tNum {ρ : En} {f g : FE} {i j : Int} (h1 : f ρ = some (.int i)) (h2 : g ρ = some (.int j)) (h : j ≤ i) : tNot (tE (eCall g_is_number (aCons f (aCons g aNil)))) ρ = some false := by
  simp [tNot, tE, eCall, aCons, aNil, h1, h2, is_number_eq h]
theorem check_mark_eq {ps : List Nm} {ms : List Mv} {m : List Int} (h : okM ps m) : g_check_mark [eN ps ms, tupI m] = some .non := by
  unfold g_check_mark fnB b_check_mark
  simp only [List.length_cons, List.length_nil, if_true, List.map_cons, List.map_nil, List.cons_append, List.nil_append, List.replicate]
  have loop := forM_ok (g := gN 2) (xs := m.map .int) (b := (sIf (tNot (tE (eCall g_is_number (aCons (eSh 2) (aCons (eC (.int 0)) (aNil)))))) (sNever) (sNext)))
    (fun i ρ => ∃ x, ρ = [some (S.sh (eN ps ms)), some (S.sh (tupI m)), x]) ?_ (ρ := [some (S.sh (eN ps ms)), some (S.sh (tupI m)), none]) ⟨none, rfl⟩
  · obtain ⟨ρ', h1, x, rfl⟩ := loop
    rw [seq_nx (ρ' := [some (S.sh (eN ps ms)), some (S.sh (tupI m)), none]) (by
      rw [ifF]
      · rfl
      · have e : D.ne (.int (m.length : Int)) (.int (ps.length : Int)) = some (.bl false) := by simp [D.ne, D.isScal, D.eqv, h.1]
        simp only [tOr, tNot, tE, t2, e1, e2, eVar, eSh, List.getElem?_cons_zero, List.getElem?_cons_succ, Option.bind_some, fldP, len_eP, len_tupI, e]
        simp [tupI, isT])]
    rw [for_nx (by simp only [wSeq, eSh, tupI, List.getElem?_cons_zero, List.getElem?_cons_succ, Option.bind_some]) h1]
    rfl
  · rintro i x ρ hx ⟨u, rfl⟩
    rw [List.getElem?_map] at hx
    obtain ⟨z, hz, rfl⟩ := Option.map_eq_some_iff.mp hx
    have hz0 := h.2 z (List.mem_of_getElem? hz)
    refine ⟨_, rfl, _, .inl ?_, some (.sh (.int z)), rfl⟩
    rw [ifF]
    · rfl
    · exact tNum rfl rfl hz0
/-- some of the places, in order -/
def okSome (ps ss : List Nm) : Prop := (∀ a ∈ ss, a ∈ ps) ∧ (ss.map (idx ps)).Pairwise (· < ·)
theorem check_some_eq {ps ss : List Nm} {ms : List Mv} (hp : ∀ b ∈ ps, okN b = true) (h : okSome ps ss) : g_check_some [eN ps ms, eP ss] = some .non := by
  unfold g_check_some fnB b_check_some
  simp only [List.length_cons, List.length_nil, if_true, List.map_cons, List.map_nil, List.cons_append, List.nil_append, List.replicate]
  have loop := forM_ok (g := gN 3) (xs := ss.map .str) (b := (sSeq (sIf (tOr (t2 (D.has true) (eVar 3) (e1 (D.fld 0 0) (eSh 0))) (t2 D.le (e2 D.index (e1 (D.fld 0 0) (eSh 0)) (eVar 3)) (eVar 2))) (sNever) (sNext))
  (sSet 2 (e2 D.index (e1 (D.fld 0 0) (eSh 0)) (eVar 3)))))
    (fun i ρ => ∃ (l : Int) (x : Option S), i ≤ ss.length ∧ (∀ k a, i ≤ k → ss[k]? = some a → l < idx ps a) ∧ ρ = [some (S.sh (eN ps ms)), some (S.sh (eP ss)), some (.sh (.int l)), x]) ?_ (ρ := [some (S.sh (eN ps ms)), some (S.sh (eP ss)), some (.sh (.int (-1))), none]) ⟨-1, none, Nat.zero_le _, fun k a _ _ => by omega, rfl⟩
  · obtain ⟨ρ', h1, l, x, _, _, rfl⟩ := loop
    rw [seq_nx (ρ' := [some (S.sh (eN ps ms)), some (S.sh (eP ss)), none, none]) (by
      rw [ifF]
      · rfl
      · simp [tNot, tE, e1, eVar, eP, isT]), seq_nx (ρ' := [some (S.sh (eN ps ms)), some (S.sh (eP ss)), some (.sh (.int (-1))), none]) (by simp [sSet, e1, eC, D.neg])]
    rw [for_nx (by simp only [wSeq, eSh, eP, List.getElem?_cons_zero, List.getElem?_cons_succ, Option.bind_some]) h1]
    rfl
  · rintro i x ρ hx ⟨l, u, hi, hl, rfl⟩
    rw [List.getElem?_map] at hx
    obtain ⟨a, ha, rfl⟩ := Option.map_eq_some_iff.mp hx
    have hlt := (List.getElem?_eq_some_iff.mp ha).1
    have hmem := List.mem_of_getElem? ha
    obtain ⟨x1, x2⟩ := index_eq hp (h.1 a hmem)
    have hla := hl i a (Nat.le_refl _) ha
    refine ⟨[some (S.sh (eN ps ms)), some (S.sh (eP ss)), some (.sh (.int l)), some (.sh (.str a))], rfl, [some (S.sh (eN ps ms)), some (S.sh (eP ss)), some (.sh (.int (idx ps a))), some (.sh (.str a))], .inl ?_, idx ps a, _, hlt, fun k b hk hb => ?_, rfl⟩
    · rw [seq_nx (ρ' := [some (S.sh (eN ps ms)), some (S.sh (eP ss)), some (.sh (.int l)), some (.sh (.str a))]) (by
        rw [ifF]
        · rfl
        · simp [tOr, t2, tE, e2, e1, eVar, eSh, fldP, has_str, h.1 a hmem, x1, D.le, show ¬ ((idx ps a : Int) ≤ l) by omega])]
      simp [sSet, e2, e1, eVar, eSh, fldP, x1]
    · have pw := h.2
      rw [List.pairwise_iff_getElem] at pw
      obtain ⟨hk2, hq2⟩ := List.getElem?_eq_some_iff.mp hb
      obtain ⟨_, hp2⟩ := List.getElem?_eq_some_iff.mp ha
      have := pw i k (by simpa using hlt) (by simpa using hk2) (by omega)
      simp only [List.getElem_map, hq2, hp2] at this
      omega
end F15
end Vl
end
section
set_option Elab.async false
set_option linter.all false
set_option maxRecDepth 100000
/-! what the defs of k15 compute: siphons and traps -/
namespace Vl
namespace F15
theorem indices_eq {ps ss : List Nm} {ms : List Mv} (hp : ∀ b ∈ ps, okN b = true) (h : ∀ a ∈ ss, a ∈ ps) : g_indices [eN ps ms, eP ss] = some (.lst ((ss.map (idx ps)).map fun (k : Nat) => D.int (k : Int))) := by
  unfold g_indices fnB b_indices
  simp only [List.length_cons, List.length_nil, if_true, List.map_cons, List.map_nil, List.cons_append, List.nil_append, List.replicate, sRet, eLc, wSeq, eSh, eP, List.getElem?_cons_zero, List.getElem?_cons_succ, Option.bind_some]
  rw [lcM_all (F := fun d => match d with | .str a => .int (idx ps a : Nat) | _ => .non)]
  · simp [Function.comp_def]
  · intro x hx
    obtain ⟨a, ha, rfl⟩ := List.mem_map.mp hx
    refine ⟨_, rfl, ?_⟩
    simp [e2, e1, eVar, eSh, wipeE, fldP, (index_eq hp (h a ha)).1]
abbrev eK (ks : List Nat) : D := .lst (ks.map fun (k : Nat) => D.int (k : Int))
def touch (r : List Int) (ks : List Nat) : Bool := ks.any fun k => decide (0 < r.getD k 0)
theorem touches_eq {r : List Int} {ks : List Nat} (h : ∀ k ∈ ks, k < r.length) : g_touches [tupI r, eK ks] = some (.bl (touch r ks)) := by
  unfold g_touches fnB b_touches
  simp only [List.length_cons, List.length_nil, if_true, List.map_cons, List.map_nil, List.cons_append, List.nil_append, List.replicate, sRet, eGx, wSeq, eSh, List.getElem?_cons_zero, List.getElem?_cons_succ, Option.bind_some]
  rw [gxM_any (p := fun d => match d with | .int k => decide (0 < r.getD k.toNat 0) | _ => false)]
  · simp [touch, List.any_map, Function.comp_def]
  · intro x hx
    obtain ⟨k, hk, rfl⟩ := List.mem_map.mp hx
    refine ⟨_, rfl, ?_⟩
    simp [e2, eVar, eSh, eC, wipeE, get_tupD (h k hk), D.gt]
def swR (r : Rw) : Rw := (r.1, r.2.2, r.2.1)
def okRw (n : Nat) (r : Rw) : Prop := r.2.1.length = n ∧ r.2.2.length = n
theorem vrows_ok {ps : List Nm} {ms : List Mv} : ∀ r ∈ vrows ps ms, okRw ps.length r := by
  intro r hr
  obtain ⟨m, _, rfl⟩ := List.mem_map.mp hr
  exact ⟨vrow_length _ _, vrow_length _ _⟩
theorem vrows_sw {ps : List Nm} {ms : List Mv} : vrows ps (ms.map sw) = (vrows ps ms).map swR := by simp [vrows, sw, swR, Function.comp_def]
theorem map_swR_swR (rs : List Rw) : (rs.map swR).map swR = rs := by
  rw [List.map_map]
  conv => rhs; rw [← List.map_id rs]
  rfl
theorem okRw_sw {n : Nat} {rs : List Rw} (h : ∀ r ∈ rs, okRw n r) : ∀ r ∈ rs.map swR, okRw n r := by
  intro r hr
  obtain ⟨q, hq, rfl⟩ := List.mem_map.mp hr
  exact ⟨(h q hq).2, (h q hq).1⟩
def eRs (rs : List Rw) : D := .lst (rs.map eRw)
theorem sip_ok {rs : List Rw} {n : Nat} {ks : List Nat} (hr : ∀ r ∈ rs, okRw n r) (h : ∀ k ∈ ks, k < n) : ∃ b, g_is_siphon_at [eRs rs, eK ks] = some (.bl b) := by
  have key : gxM true (gT [gN 2, gN 3, gN 4]) (eOr (eCall g_touches (aCons (eSh 3) (aCons (eSh 1) (aNil)))) (e1 D.not (eCall g_touches (aCons (eSh 4) (aCons (eSh 1) (aNil)))))) (wipeE [some (S.sh (eRs rs)), some (S.sh (eK ks)), none, none, none] [2, 3, 4]) (rs.map eRw) = some ((rs.map eRw).all fun d => match d with | .tup [_, a, b] => (match g_touches [a, eK ks], g_touches [b, eK ks] with | some (.bl x), some (.bl y) => x || !y | _, _ => false) | _ => false) := by
    apply gxM_all
    intro x hx
    obtain ⟨r, hrm, rfl⟩ := List.mem_map.mp hx
    refine ⟨_, rfl, ?_⟩
    have t1 := touches_eq (r := r.2.1) (ks := ks) fun k hk => by rw [(hr r hrm).1]; exact h k hk
    have t2 := touches_eq (r := r.2.2) (ks := ks) fun k hk => by rw [(hr r hrm).2]; exact h k hk
    simp only [eOr, e1, eCall, aCons, aNil, eSh, wipeE, List.set_cons_succ, List.set_cons_zero, List.getElem?_cons_zero, List.getElem?_cons_succ, Option.bind_some, t1, t2, eRw]
    cases touch r.2.1 ks <;> simp [D.not]
  generalize ((rs.map eRw).all fun d => match d with | .tup [_, a, b] => (match g_touches [a, eK ks], g_touches [b, eK ks] with | some (.bl x), some (.bl y) => x || !y | _, _ => false) | _ => false) = bb at key
  refine ⟨bb, ?_⟩
  · unfold g_is_siphon_at fnB b_is_siphon_at
    simp only [List.length_cons, List.length_nil, if_true, List.map_cons, List.map_nil, List.cons_append, List.nil_append, List.replicate, sRet, eGx]
    rw [show (wSeq (eSh 0)) [some (S.sh (eRs rs)), some (S.sh (eK ks)), none, none, none] = some (rs.map eRw) from rfl, Option.bind_some]
    rw [key]
    rfl
theorem idx_lt {ps ss : List Nm} (hp : ∀ b ∈ ps, okN b = true) (h : ∀ a ∈ ss, a ∈ ps) : ∀ k ∈ ss.map (idx ps), k < ps.length := by
  intro k hk
  obtain ⟨a, ha, rfl⟩ := List.mem_map.mp hk
  exact (index_eq hp (h a ha)).2
theorem okMs_of {ps : List Nm} {ms : List Mv} (h : okNet ps ms) : okMs ps ms := fun m hm => ⟨fun p hp => ((h.2.1 m hm).2.1.1 p hp).1, fun p hp => ((h.2.1 m hm).2.2.1 p hp).1⟩
theorem okN_of {ps : List Nm} {ms : List Mv} (h : okNet ps ms) : ∀ b ∈ ps, okN b = true := fun b hb => (h.1 b hb).1
theorem rows_eq {ps : List Nm} {ms : List Mv} (h : okNet ps ms) : g_rows_of [eN ps ms] = some (eRs (vrows ps ms)) := rows_of_eq (okN_of h) (okMs_of h)
theorem siphon_eq {ps ss : List Nm} {ms : List Mv} (h : okNet ps ms) (hs : okSome ps ss) : g_is_siphon [eN ps ms, eP ss] = g_is_siphon_at [eRs (vrows ps ms), eK (ss.map (idx ps))] := by
  unfold g_is_siphon fnB b_is_siphon
  simp only [List.length_cons, List.length_nil, if_true, List.map_cons, List.map_nil, List.cons_append, List.nil_append, List.replicate]
  rw [seq_nx (ρ' := [some (S.sh (eN ps ms)), some (S.sh (eP ss))]) (by simp [sDrop, eCall, aCons, aNil, eSh, check_some_eq (okN_of h) hs])]
  simp only [sRet, eCall, aCons, aNil, eSh, List.getElem?_cons_zero, List.getElem?_cons_succ, Option.bind_some, rows_eq h, indices_eq (okN_of h) hs.1]
  cases g_is_siphon_at [eRs (vrows ps ms), eK (ss.map (idx ps))] <;> rfl
theorem swc_eq {ps : List Nm} {ms : List Mv} (h : okNet ps ms) {ρ : En} {i j k : Nat} {vs : List Nat} (h0 : ∀ x, gT [gN i, gN j, gN k] x (wipeE ρ vs) = (match x with | .tup [a, b, c] => some (((( wipeE ρ vs).set i (some (.sh a))).set j (some (.sh b))).set k (some (.sh c))) | _ => none)) (ρe : ρ[0]? = some (some (.sh (eN ps ms)))) (hs : ∀ a b c, eTup (aCons (eSh i) (aCons (eSh k) (aCons (eSh j) aNil))) (((( wipeE ρ vs).set i (some (.sh a))).set j (some (.sh b))).set k (some (.sh c))) = some (.tup [a, c, b])) : eLc (wSeq (eCall g_rows_of (aCons (eSh 0) aNil))) (gT [gN i, gN j, gN k]) tY (eTup (aCons (eSh i) (aCons (eSh k) (aCons (eSh j) aNil)))) vs ρ = some (eRs ((vrows ps ms).map swR)) := by
  simp only [eLc, wSeq, eCall, aCons, aNil, eSh, ρe, Option.bind_some, rows_eq h]
  simp only [eRs, Option.bind_some]
  rw [lcM_all (F := fun d => match d with | .tup [a, b, c] => .tup [a, c, b] | _ => .non)]
  · simp [Function.comp_def, eRw, swR]
  · intro x hx
    obtain ⟨r, _, rfl⟩ := List.mem_map.mp hx
    refine ⟨_, by rw [h0]; rfl, hs _ _ _⟩
theorem trap_eq {ps ss : List Nm} {ms : List Mv} (h : okNet ps ms) (hs : okSome ps ss) : g_is_trap [eN ps ms, eP ss] = g_is_siphon_at [eRs ((vrows ps ms).map swR), eK (ss.map (idx ps))] := by
  unfold g_is_trap fnB b_is_trap
  simp only [List.length_cons, List.length_nil, if_true, List.map_cons, List.map_nil, List.cons_append, List.nil_append, List.replicate]
  rw [seq_nx (ρ' := [some (S.sh (eN ps ms)), some (S.sh (eP ss)), none, none, none]) (by simp [sDrop, eCall, aCons, aNil, eSh, check_some_eq (okN_of h) hs])]
  have c := swc_eq h (ρ := [some (S.sh (eN ps ms)), some (S.sh (eP ss)), none, none, none]) (i := 2) (j := 3) (k := 4) (vs := [2, 3, 4]) (fun x => by
    cases x with
    | tup ds => rcases ds with _ | ⟨a, _ | ⟨b, _ | ⟨c, _ | ⟨d, ds⟩⟩⟩⟩ <;> simp [gT, gAll, gN]
    | _ => rfl) rfl (fun a b c => by simp [eTup, aCons, aNil, eSh, wipeE])
  simp only [sRet, eCall, aCons, aNil] at c ⊢
  rw [c]
  simp only [eSh, List.getElem?_cons_zero, List.getElem?_cons_succ, Option.bind_some, indices_eq (okN_of h) hs.1]
  cases g_is_siphon_at [eRs ((vrows ps ms).map swR), eK (ss.map (idx ps))] <;> rfl
end F15
end Vl
end
section
set_option Elab.async false
set_option linter.all false
set_option maxRecDepth 100000
/-! what the defs of k15 compute: greatest siphons and traps -/
namespace Vl
namespace F15
theorem while_ok {t : FT} {b : FS} (I : Nat → En → Prop) (h : ∀ m ρ, I m ρ → (∃ m' ρ2, m = m' + 1 ∧ t ρ = some true ∧ (b ρ = some (.nx ρ2) ∨ b ρ = some (.ct ρ2)) ∧ I m' ρ2) ∨ (t ρ = some false ∧ I 0 ρ)) {m : Nat} {ρ : En} (hm : m < 1000000) (hi : I m ρ) : ∃ ρ', sWhile t b ρ = some (.nx ρ') ∧ t ρ' = some false ∧ I 0 ρ' := whileM_ok I h fuel m hm hi
theorem greatest_ok {rs : List Rw} {n : Nat} {ks : List Nat} (hr : ∀ r ∈ rs, okRw n r) (hk : ∀ k ∈ ks, k < n) (hl : ks.length < 1000) : ∃ ls : List Nat, (∀ k ∈ ls, k ∈ ks) ∧ g_greatest_at [eRs rs, eK ks] = some (eK ls) := by
  have body : ∀ (c : Nat) (ls : List Nat) (x y z w : Option S), ls.length = c → (∀ k ∈ ls, k ∈ ks) → ∃ ρ', (sFor (wSeq (eSh 0)) (gT [gN 4, gN 5, gN 6]) (sIf (tAnd (tE (eCall g_touches (aCons (eSh 6) (aCons (eSh 2) (aNil))))) (tNot (tE (eCall g_touches (aCons (eSh 5) (aCons (eSh 2) (aNil))))))) (sSeq (sSet 2 (eLc (wSeq (eSh 2)) (gN 7) (t2 D.eq (e2 D.get (eVar 6) (eVar 7)) (eC (.int 0))) (eSh 7) [7]))
  (sSet 3 (eC (.bl true)))) (sNext))) [some (S.sh (eRs rs)), some (S.sh (eK ks)), some (S.sh (eK ls)), some (S.sh (.bl false)), x, y, z, w] = some (.nx ρ') ∧ ∃ (ls' : List Nat) (ch : Bool) (x y z w : Option S), ls'.length ≤ c ∧ (ch = true → ls'.length < c) ∧ (∀ k ∈ ls', k ∈ ks) ∧ ρ' = [some (S.sh (eRs rs)), some (S.sh (eK ks)), some (S.sh (eK ls')), some (S.sh (.bl ch)), x, y, z, w] := by
    intro c ls x y z w hlc hlk
    have loop := forM_ok (g := gT [gN 4, gN 5, gN 6]) (xs := rs.map eRw) (b := sIf (tAnd (tE (eCall g_touches (aCons (eSh 6) (aCons (eSh 2) (aNil))))) (tNot (tE (eCall g_touches (aCons (eSh 5) (aCons (eSh 2) (aNil))))))) (sSeq (sSet 2 (eLc (wSeq (eSh 2)) (gN 7) (t2 D.eq (e2 D.get (eVar 6) (eVar 7)) (eC (.int 0))) (eSh 7) [7]))
  (sSet 3 (eC (.bl true)))) (sNext))
      (fun _ ρ' => ∃ (ls' : List Nat) (ch : Bool) (x y z w : Option S), ls'.length ≤ c ∧ (ch = true → ls'.length < c) ∧ (∀ k ∈ ls', k ∈ ks) ∧ ρ' = [some (S.sh (eRs rs)), some (S.sh (eK ks)), some (S.sh (eK ls')), some (S.sh (.bl ch)), x, y, z, w]) ?_
      (ρ := [some (S.sh (eRs rs)), some (S.sh (eK ks)), some (S.sh (eK ls)), some (S.sh (.bl false)), x, y, z, w]) ⟨ls, false, x, y, z, w, by omega, (fun h => (nomatch h)), hlk, rfl⟩
    · obtain ⟨ρ', h1, h2⟩ := loop
      refine ⟨ρ', for_nx (by simp only [wSeq, eSh, eRs, List.getElem?_cons_zero, Option.bind_some]) h1, h2⟩
    · rintro i d ρ hx ⟨l, ch, x, y, z, w, h1, h2, h3, rfl⟩
      rw [List.getElem?_map] at hx
      obtain ⟨r, hri, rfl⟩ := Option.map_eq_some_iff.mp hx
      have hrm := List.mem_of_getElem? hri
      have t1 := touches_eq (r := r.2.1) (ks := l) fun k hk' => by rw [(hr r hrm).1]; exact hk k (h3 k hk')
      have tg := touches_eq (r := r.2.2) (ks := l) fun k hk' => by rw [(hr r hrm).2]; exact hk k (h3 k hk')
      refine ⟨[some (S.sh (eRs rs)), some (S.sh (eK ks)), some (S.sh (eK l)), some (S.sh (.bl ch)), some (.sh (.str r.1)), some (.sh (tupI r.2.1)), some (.sh (tupI r.2.2)), w], rfl, ?_⟩
      have tt : ∀ ρ : En, ρ = [some (S.sh (eRs rs)), some (S.sh (eK ks)), some (S.sh (eK l)), some (S.sh (.bl ch)), some (.sh (.str r.1)), some (.sh (tupI r.2.1)), some (.sh (tupI r.2.2)), w] → (tAnd (tE (eCall g_touches (aCons (eSh 6) (aCons (eSh 2) (aNil))))) (tNot (tE (eCall g_touches (aCons (eSh 5) (aCons (eSh 2) (aNil))))))) ρ = some (touch r.2.2 l && !touch r.2.1 l) := by
        rintro ρ rfl
        simp only [tAnd, tNot, tE, eCall, aCons, aNil, eSh, List.getElem?_cons_zero, List.getElem?_cons_succ, Option.bind_some, t1, tg]
        cases touch r.2.2 l <;> simp
      cases hc : (touch r.2.2 l && !touch r.2.1 l) with
      | false =>
        refine ⟨_, .inl ?_, l, ch, some (.sh (.str r.1)), some (.sh (tupI r.2.1)), some (.sh (tupI r.2.2)), w, h1, h2, h3, rfl⟩
        rw [ifF (by rw [tt _ rfl, hc])]
        rfl
      | true =>
        rw [Bool.and_eq_true] at hc
        obtain ⟨hc1, hc2⟩ := hc
        refine ⟨[some (S.sh (eRs rs)), some (S.sh (eK ks)), some (S.sh (eK (l.filter fun k => decide (r.2.2.getD k 0 = 0)))), some (S.sh (.bl true)), some (.sh (.str r.1)), some (.sh (tupI r.2.1)), some (.sh (tupI r.2.2)), w], .inl ?_, _, true, some (.sh (.str r.1)), some (.sh (tupI r.2.1)), some (.sh (tupI r.2.2)), w, ?_, ?_, ?_, rfl⟩
        · rw [ifT (by rw [tt _ rfl, hc1, hc2]; rfl)]
          have hl2 : eLc (wSeq (eSh 2)) (gN 7) (t2 D.eq (e2 D.get (eVar 6) (eVar 7)) (eC (.int 0))) (eSh 7) [7] [some (S.sh (eRs rs)), some (S.sh (eK ks)), some (S.sh (eK l)), some (S.sh (.bl ch)), some (.sh (.str r.1)), some (.sh (tupI r.2.1)), some (.sh (tupI r.2.2)), w] = some (eK (l.filter fun k => decide (r.2.2.getD k 0 = 0))) := by
            simp only [eLc, wSeq, eSh, List.getElem?_cons_zero, List.getElem?_cons_succ, Option.bind_some]
            rw [lcM_ok (p := fun d => match d with | .int k => decide (r.2.2.getD k.toNat 0 = 0) | _ => false) (F := fun d => d)]
            · simp [List.filter_map, Function.comp_def]
            · intro q hq
              obtain ⟨k, hk', rfl⟩ := List.mem_map.mp hq
              refine ⟨_, rfl, ?_, fun _ => ?_⟩
              · have := get_tupD (xs := r.2.2) (k := k) (by rw [(hr r hrm).2]; exact hk k (h3 k hk'))
                simp [t2, tE, e2, eVar, eC, wipeE, this, D.eq, D.isScal, D.eqv]
                rfl
              · simp [eSh, wipeE]
          rw [seq_nx (ρ' := [some (S.sh (eRs rs)), some (S.sh (eK ks)), some (S.sh (eK (l.filter fun k => decide (r.2.2.getD k 0 = 0)))), some (S.sh (.bl ch)), some (.sh (.str r.1)), some (.sh (tupI r.2.1)), some (.sh (tupI r.2.2)), w]) (by
            simp only [sSet]
            rw [hl2]
            rfl)]
          rfl
        · exact Nat.le_trans (List.length_filter_le _ _) h1
        · intro _
          obtain ⟨k, hk1, hk2⟩ := List.any_eq_true.mp hc1
          have : (l.filter fun k => decide (r.2.2.getD k 0 = 0)).length < l.length := by
            refine List.length_filter_lt_length_iff_exists.mpr ⟨k, hk1, ?_⟩
            have := of_decide_eq_true hk2
            simp only [decide_eq_true_eq]
            omega
          omega
        · intro k hk'
          exact h3 k (List.mem_filter.mp hk').1
  have wl := while_ok (t := tE (eVar 3)) (b := (sSeq (sSet 3 (eC (.bl false)))
  (sFor (wSeq (eSh 0)) (gT [gN 4, gN 5, gN 6]) (sIf (tAnd (tE (eCall g_touches (aCons (eSh 6) (aCons (eSh 2) (aNil))))) (tNot (tE (eCall g_touches (aCons (eSh 5) (aCons (eSh 2) (aNil))))))) (sSeq (sSet 2 (eLc (wSeq (eSh 2)) (gN 7) (t2 D.eq (e2 D.get (eVar 6) (eVar 7)) (eC (.int 0))) (eSh 7) [7]))
  (sSet 3 (eC (.bl true)))) (sNext)))))
    (fun m ρ' => ∃ (ls' : List Nat) (ch : Bool) (x y z w : Option S), (ch = true → ls'.length < m) ∧ (∀ k ∈ ls', k ∈ ks) ∧ ρ' = [some (S.sh (eRs rs)), some (S.sh (eK ks)), some (S.sh (eK ls')), some (S.sh (.bl ch)), x, y, z, w]) ?_ (m := ks.length + 1) (by omega)
    (ρ := [some (S.sh (eRs rs)), some (S.sh (eK ks)), some (S.sh (eK ks)), some (S.sh (.bl true)), none, none, none, none]) ⟨ks, true, none, none, none, none, fun _ => by omega, fun _ h => h, rfl⟩
  · obtain ⟨ρ', h1, _, ls', ch, x, y, z, w, _, h3, rfl⟩ := wl
    refine ⟨ls', h3, ?_⟩
    unfold g_greatest_at fnB b_greatest_at
    simp only [List.length_cons, List.length_nil, if_true, List.map_cons, List.map_nil, List.cons_append, List.nil_append, List.replicate]
    rw [seq_nx (ρ' := [some (S.sh (eRs rs)), some (S.sh (eK ks)), some (S.sh (eK ks)), none, none, none, none, none]) (by simp [sSet, e1, eVar, D.toLst]), seq_nx (ρ' := [some (S.sh (eRs rs)), some (S.sh (eK ks)), some (S.sh (eK ks)), some (S.sh (.bl true)), none, none, none, none]) (by simp [sSet, eC]), seq_nx h1]
    simp [sRet, eSh]
  · rintro m ρ ⟨l, ch, x, y, z, w, h1, h2, rfl⟩
    cases ch with
    | false => exact .inr ⟨rfl, l, false, x, y, z, w, (fun h => (nomatch h)), h2, rfl⟩
    | true =>
      left
      have hm := h1 rfl
      obtain ⟨m', rfl⟩ : ∃ m', m = m' + 1 := ⟨m - 1, by omega⟩
      obtain ⟨ρ', q1, l', ch', x', y', z', w', q2, q3, q4, rfl⟩ := body l.length l x y z w rfl h2
      refine ⟨m', _, rfl, rfl, .inl ?_, l', ch', x', y', z', w', fun h => ?_, q4, rfl⟩
      · rw [seq_nx (ρ' := [some (S.sh (eRs rs)), some (S.sh (eK ks)), some (S.sh (eK l)), some (S.sh (.bl false)), x, y, z, w]) (by simp [sSet, eC])]
        exact q1
      · have := q3 h; omega
theorem places_at_eq {ps : List Nm} {ms : List Mv} {ks : List Nat} (h : ∀ k ∈ ks, k < ps.length) : g_places_at [eN ps ms, eK ks] = some (eP (ks.map fun k => ps.getD k [])) := by
  unfold g_places_at fnB b_places_at
  simp only [List.length_cons, List.length_nil, if_true, List.map_cons, List.map_nil, List.cons_append, List.nil_append, List.replicate, sRet, e1, eLc, wSeq, eSh, List.getElem?_cons_zero, List.getElem?_cons_succ, Option.bind_some]
  rw [lcM_all (F := fun d => match d with | .int k => .str (ps.getD k.toNat []) | _ => .non)]
  · simp [D.toTup, eP, Function.comp_def]
  · intro x hx
    obtain ⟨k, hk, rfl⟩ := List.mem_map.mp hx
    refine ⟨_, rfl, ?_⟩
    have hk2 := h k hk
    simp [e2, e1, eVar, eSh, wipeE, fldP, get_eP hk2, List.getD_eq_getElem?_getD, List.getElem?_eq_getElem hk2]
theorem gsiphon_eq {ps ss : List Nm} {ms : List Mv} {ls : List Nat} (h : okNet ps ms) (hs : okSome ps ss) (hl : ∀ k ∈ ls, k ∈ ss.map (idx ps)) (hg : g_greatest_at [eRs (vrows ps ms), eK (ss.map (idx ps))] = some (eK ls)) : g_greatest_siphon [eN ps ms, eP ss] = some (eP (ls.map fun k => ps.getD k [])) := by
  unfold g_greatest_siphon fnB b_greatest_siphon
  simp only [List.length_cons, List.length_nil, if_true, List.map_cons, List.map_nil, List.cons_append, List.nil_append, List.replicate]
  rw [seq_nx (ρ' := [some (S.sh (eN ps ms)), some (S.sh (eP ss))]) (by simp [sDrop, eCall, aCons, aNil, eSh, check_some_eq (okN_of h) hs])]
  simp only [sRet, eCall, aCons, aNil, eSh, List.getElem?_cons_zero, List.getElem?_cons_succ, Option.bind_some, rows_eq h, indices_eq (okN_of h) hs.1, hg, places_at_eq (fun k hk => idx_lt (okN_of h) hs.1 k (hl k hk))]
theorem gtrap_eq {ps ss : List Nm} {ms : List Mv} {ls : List Nat} (h : okNet ps ms) (hs : okSome ps ss) (hl : ∀ k ∈ ls, k ∈ ss.map (idx ps)) (hg : g_greatest_at [eRs ((vrows ps ms).map swR), eK (ss.map (idx ps))] = some (eK ls)) : g_greatest_trap [eN ps ms, eP ss] = some (eP (ls.map fun k => ps.getD k [])) := by
  unfold g_greatest_trap fnB b_greatest_trap
  simp only [List.length_cons, List.length_nil, if_true, List.map_cons, List.map_nil, List.cons_append, List.nil_append, List.replicate]
  rw [seq_nx (ρ' := [some (S.sh (eN ps ms)), some (S.sh (eP ss)), none, none, none, none]) (by simp [sDrop, eCall, aCons, aNil, eSh, check_some_eq (okN_of h) hs])]
  have c := swc_eq h (ρ := [some (S.sh (eN ps ms)), some (S.sh (eP ss)), none, none, none, none]) (i := 3) (j := 4) (k := 5) (vs := [3, 4, 5]) (fun x => by
    cases x with
    | tup ds => rcases ds with _ | ⟨a, _ | ⟨b, _ | ⟨c, _ | ⟨d, ds⟩⟩⟩⟩ <;> simp [gT, gAll, gN]
    | _ => rfl) rfl (fun a b c => by simp [eTup, aCons, aNil, eSh, wipeE])
  rw [seq_nx (ρ' := [some (S.sh (eN ps ms)), some (S.sh (eP ss)), some (S.sh (eRs ((vrows ps ms).map swR))), none, none, none]) (by
    unfold sSet
    rw [c]
    rfl)]
  simp only [sRet, eCall, aCons, aNil, eSh, List.getElem?_cons_zero, List.getElem?_cons_succ, Option.bind_some, indices_eq (okN_of h) hs.1, hg, places_at_eq (fun k hk => idx_lt (okN_of h) hs.1 k (hl k hk))]
end F15
end Vl
end
section
set_option Elab.async false
set_option linter.all false
set_option maxRecDepth 100000
/-! what the defs of k15 compute: what is reached, by the law's own walk -/
namespace Vl
namespace F15
/-- marks, steps -/
abbrev St := List (List Int) × List (Nat × Nm × Nat)
def stR (lim k : Nat) (s : St) (r : Rw) : Option St :=
  if venough (s.1.getD k []) r.2.1 then
    match s.1.findIdx? (· == vmove (s.1.getD k []) r.2.1 r.2.2) with
    | some j => some (s.1, s.2 ++ [(k, r.1, j)])
    | none => if lim ≤ s.1.length then none else some (s.1 ++ [vmove (s.1.getD k []) r.2.1 r.2.2], s.2 ++ [(k, r.1, s.1.length)])
  else some s
def fR (lim k : Nat) : List Rw → St → Option St
  | [], s => some s
  | r :: rs, s => (stR lim k s r).bind (fR lim k rs)
def wR (lim : Nat) (rs : List Rw) : Nat → Nat → St → Option St
  | 0, _, s => some s
  | n + 1, k, s => if k < s.1.length then (fR lim k rs s).bind (wR lim rs n (k + 1)) else some s
theorem eqv_ints : ∀ (a b : List Int), D.eqvL (a.map .int) (b.map .int) = decide (a = b)
  | [], [] => rfl
  | [], _ :: _ => rfl
  | _ :: _, [] => rfl
  | x :: a, y :: b => by
    simp only [List.map_cons, D.eqvL, D.eqv, eqv_ints a b]
    rw [Bool.eq_iff_iff]
    simp
theorem eqv_tupI (a b : List Int) : D.eqv (tupI a) (tupI b) = decide (a = b) := by
  simp only [tupI, D.eqv, eqv_ints]
abbrev eMk (ms : List (List Int)) : D := .lst (ms.map tupI)
abbrev eAr (a : Nat × Nm × Nat) : D := .tup [.int a.1, .str a.2.1, .int a.2.2]
abbrev eArs (as : List (Nat × Nm × Nat)) : D := .lst (as.map eAr)
theorem okd_eMk {n : Nat} {ms : List (List Int)} : D.okd (n + 2) (eMk ms) = true := by
  simp only [D.okd]
  exact okdL_map fun x _ => okd_tupI
theorem get_eMk {ms : List (List Int)} {k : Nat} (h : k < ms.length) : D.get (eMk ms) (.int (k : Int)) = some (tupI (ms.getD k [])) := get_lst (by rw [List.getElem?_map, List.getD_eq_getElem?_getD, List.getElem?_eq_getElem h]; rfl)
theorem len_eMk {ms : List (List Int)} : D.len (eMk ms) = some (.int ms.length) := by simp [D.len]
theorem find_eMk {ms : List (List Int)} {a : List Int} : (ms.map tupI).findIdx? (fun z => D.eqv z (tupI a)) = ms.findIdx? (· == a) := by
  rw [List.findIdx?_map]
  congr 1
  funext m
  simp only [Function.comp_def, eqv_tupI]
  rw [Bool.eq_iff_iff]; simp
theorem index_eMk {ms : List (List Int)} {a : List Int} : D.index (eMk ms) (tupI a) = (ms.findIdx? (· == a)).map fun (k : Nat) => D.int (k : Int) := by
  unfold D.index D.indexL
  simp only
  rw [if_pos (by rw [Bool.and_eq_true]; exact ⟨okd_tupI, okd_eMk⟩), find_eMk]
theorem has_eMk {neg : Bool} {ms : List (List Int)} {a : List Int} : D.has neg (tupI a) (eMk ms) = some (.bl (if neg then !(ms.findIdx? (· == a)).isSome else (ms.findIdx? (· == a)).isSome)) := by
  have : ((ms.map tupI).any fun z => D.eqv z (tupI a)) = (ms.findIdx? (· == a)).isSome := by
    rw [List.findIdx?_isSome, List.any_map]
    congr 1
    funext m
    simp only [Function.comp_def, eqv_tupI]
    rw [Bool.eq_iff_iff]; simp
  unfold D.has D.isIn
  simp only
  rw [if_pos (by rw [Bool.and_eq_true]; exact ⟨okd_tupI, okd_eMk⟩), this]
def okSt (n lim : Nat) (s : St) : Prop := (∀ m ∈ s.1, m.length = n) ∧ s.1.length ≤ lim ∧ s.2.length < 100000
theorem vmove_length {m t g : List Int} : (vmove m t g).length = m.length := by simp [vmove]
theorem getD_mem {ms : List (List Int)} {k : Nat} (h : k < ms.length) : ms.getD k [] ∈ ms := by
  rw [List.getD_eq_getElem?_getD, List.getElem?_eq_getElem h]
  exact List.getElem_mem _
theorem add_at {k : Nat} : D.add (.int (k : Int)) (.int 1) = some (.int ((k + 1 : Nat) : Int)) := by simp [D.add]
/-- the environments of the law's walk -/
def EL (rs : List Rw) (m0 : List Int) (lim k : Nat) (s : St) (ρ : En) : Prop := ∃ x y z w : Option S, ρ = [some (S.sh (eRs rs)), some (S.sh (tupI m0)), some (S.sh (.int lim)), some (S.ow (eMk s.1)), some (S.ow (eArs s.2)), some (S.sh (.int (k : Int))), x, y, z, w]
def bL : FS := (sIf (tE (eCall g__law_enough (aCons (e2 D.get (eVar 3) (eVar 5)) (aCons (eSh 7) (aNil))))) (sSeq (sSet 9 (eCall g__law_behind (aCons (e2 D.get (eVar 3) (eVar 5)) (aCons (eSh 7) (aCons (eSh 8) (aNil))))))
  (sSeq (sIf (t2 (D.has true) (eVar 9) (eVar 3)) (sSeq (sIf (t2 D.ge (e1 D.len (eVar 3)) (eVar 2)) (sRet (eC .non)) (sNext))
  (sApp 3 (eSh 9))) (sNext))
  (sApp 4 (eTup (aCons (eSh 5) (aCons (eSh 6) (aCons (e2 D.index (eVar 3) (eVar 9)) (aNil)))))))) (sNext))
theorem seq_rt' {a b : FS} {ρ : En} {d : D} (h : a ρ = some (.rt d)) : sSeq a b ρ = some (.rt d) := seq_rt h
theorem findIdx_append {ms : List (List Int)} {a : List Int} (h : ms.findIdx? (· == a) = none) : (ms ++ [a]).findIdx? (· == a) = some ms.length := by
  rw [List.findIdx?_append, h]
  simp
theorem bL_ok {rs : List Rw} {m0 : List Int} {n lim k : Nat} {s : St} {r : Rw} {ρ : En} (hr : okRw n r) (hn : n < 100) (hlim : lim < 1000) (hk : k < s.1.length) (hs : okSt n lim s) (hE : EL rs m0 lim k s ρ) :
    ∃ ρ1, gT [gN 6, gN 7, gN 8] (eRw r) ρ = some ρ1 ∧ (match stR lim k s r with
      | none => bL ρ1 = some (.rt .non)
      | some s' => ∃ ρ2, bL ρ1 = some (.nx ρ2) ∧ EL rs m0 lim k s' ρ2) := by
  obtain ⟨x, y, z, w, rfl⟩ := hE
  refine ⟨[some (S.sh (eRs rs)), some (S.sh (tupI m0)), some (S.sh (.int lim)), some (S.ow (eMk s.1)), some (S.ow (eArs s.2)), some (S.sh (.int (k : Int))), some (.sh (.str r.1)), some (.sh (tupI r.2.1)), some (.sh (tupI r.2.2)), w], rfl, ?_⟩
  have hml : (s.1.getD k []).length = n := hs.1 _ (getD_mem hk)
  have q0 := get_eMk hk
  have q1 := law_enough_eq (m := s.1.getD k []) (t := r.2.1) (by rw [hml, hr.1]) (by omega)
  have q2 := law_behind_eq (m := s.1.getD k []) (t := r.2.1) (g := r.2.2) (by rw [hml, hr.1]) (by rw [hml, hr.2]) (by omega)
  have q3 := moved_eq (m := s.1.getD k []) (t := r.2.1) (g := r.2.2) (by rw [hml, hr.1]) (by rw [hml, hr.2]) (by omega)
  have tt : ∀ ρ : En, ρ = [some (S.sh (eRs rs)), some (S.sh (tupI m0)), some (S.sh (.int lim)), some (S.ow (eMk s.1)), some (S.ow (eArs s.2)), some (S.sh (.int (k : Int))), some (.sh (.str r.1)), some (.sh (tupI r.2.1)), some (.sh (tupI r.2.2)), w] → (tE (eCall g__law_enough (aCons (e2 D.get (eVar 3) (eVar 5)) (aCons (eSh 7) (aNil))))) ρ = some (venough (s.1.getD k []) r.2.1) := by
    rintro ρ rfl
    simp only [tE, eCall, aCons, aNil, e2, eSh, eVar, List.getElem?_cons_zero, List.getElem?_cons_succ, Option.bind_some, q0, q1]
  unfold stR
  cases hv : venough (s.1.getD k []) r.2.1 with
  | false =>
    rw [if_neg (by decide)]
    refine ⟨_, ?_, some (.sh (.str r.1)), some (.sh (tupI r.2.1)), some (.sh (tupI r.2.2)), w, rfl⟩
    unfold bL
    rw [ifF (by rw [tt _ rfl, hv])]
    rfl
  | true =>
    rw [if_pos rfl]
    generalize hnx : vmove (s.1.getD k []) r.2.1 r.2.2 = nx at *
    have A1 : ∀ ρ : En, ρ = [some (S.sh (eRs rs)), some (S.sh (tupI m0)), some (S.sh (.int lim)), some (S.ow (eMk s.1)), some (S.ow (eArs s.2)), some (S.sh (.int (k : Int))), some (.sh (.str r.1)), some (.sh (tupI r.2.1)), some (.sh (tupI r.2.2)), w] → sSet 9 (eCall g__law_behind (aCons (e2 D.get (eVar 3) (eVar 5)) (aCons (eSh 7) (aCons (eSh 8) (aNil))))) ρ = some (.nx [some (S.sh (eRs rs)), some (S.sh (tupI m0)), some (S.sh (.int lim)), some (S.ow (eMk s.1)), some (S.ow (eArs s.2)), some (S.sh (.int (k : Int))), some (.sh (.str r.1)), some (.sh (tupI r.2.1)), some (.sh (tupI r.2.2)), some (.sh (tupI nx))]) := by
      rintro ρ rfl
      simp only [sSet, eCall, aCons, aNil, e2, eSh, eVar, List.getElem?_cons_zero, List.getElem?_cons_succ, Option.bind_some, q0, q2, q3, List.set_cons_succ, List.set_cons_zero]
    have th := has_eMk (neg := true) (ms := s.1) (a := nx)
    have ix := index_eMk (ms := s.1) (a := nx)
    have rm2 : room s.2.length = true := decide_eq_true hs.2.2
    have rm1 : room s.1.length = true := decide_eq_true (by have := hs.2.1; omega)
    cases hf : s.1.findIdx? (· == nx) with
    | some j =>
      rw [hf] at th ix
      refine ⟨_, ?_, some (.sh (.str r.1)), some (.sh (tupI r.2.1)), some (.sh (tupI r.2.2)), some (.sh (tupI nx)), rfl⟩
      unfold bL
      rw [ifT (by rw [tt _ rfl, hv]), seq_nx (A1 _ rfl), seq_nx (ρ' := [some (S.sh (eRs rs)), some (S.sh (tupI m0)), some (S.sh (.int lim)), some (S.ow (eMk s.1)), some (S.ow (eArs s.2)), some (S.sh (.int (k : Int))), some (.sh (.str r.1)), some (.sh (tupI r.2.1)), some (.sh (tupI r.2.2)), some (.sh (tupI nx))]) (by
        rw [ifF (by simp [t2, tE, e2, eVar, th])]
        rfl)]
      simp only [sApp, eTup, aCons, aNil, e2, eSh, eVar, List.getElem?_cons_zero, List.getElem?_cons_succ, Option.bind_some, ix, Option.map_some, List.length_cons, List.length_nil, List.length_map, rm2, if_true]
      simp
    | none =>
      rw [hf] at th ix
      have ge : D.ge (.int (s.1.length : Int)) (.int (lim : Int)) = some (.bl (decide (lim ≤ s.1.length))) := by simp [D.ge]
      have tg : ∀ ρ : En, ρ = [some (S.sh (eRs rs)), some (S.sh (tupI m0)), some (S.sh (.int lim)), some (S.ow (eMk s.1)), some (S.ow (eArs s.2)), some (S.sh (.int (k : Int))), some (.sh (.str r.1)), some (.sh (tupI r.2.1)), some (.sh (tupI r.2.2)), some (.sh (tupI nx))] → (t2 D.ge (e1 D.len (eVar 3)) (eVar 2)) ρ = some (decide (lim ≤ s.1.length)) := by
        rintro ρ rfl
        simp only [t2, tE, e2, e1, eVar, List.getElem?_cons_zero, List.getElem?_cons_succ, Option.bind_some, len_eMk, ge]
      by_cases hg : lim ≤ s.1.length
      · simp only [hg, if_true]
        unfold bL
        rw [ifT (by rw [tt _ rfl, hv]), seq_nx (A1 _ rfl)]
        refine seq_rt ?_
        rw [ifT (by simp [t2, tE, e2, eVar, th])]
        refine seq_rt ?_
        rw [ifT (by rw [tg _ rfl, decide_eq_true hg])]
        rfl
      · simp only [hg, if_false]
        refine ⟨_, ?_, some (.sh (.str r.1)), some (.sh (tupI r.2.1)), some (.sh (tupI r.2.2)), some (.sh (tupI nx)), rfl⟩
        have ix2 := index_eMk (ms := s.1 ++ [nx]) (a := nx)
        rw [findIdx_append hf] at ix2
        unfold bL
        rw [ifT (by rw [tt _ rfl, hv]), seq_nx (A1 _ rfl), seq_nx (ρ' := [some (S.sh (eRs rs)), some (S.sh (tupI m0)), some (S.sh (.int lim)), some (S.ow (eMk (s.1 ++ [nx]))), some (S.ow (eArs s.2)), some (S.sh (.int (k : Int))), some (.sh (.str r.1)), some (.sh (tupI r.2.1)), some (.sh (tupI r.2.2)), some (.sh (tupI nx))]) (by
          rw [ifT (by simp [t2, tE, e2, eVar, th]), seq_nx (ρ' := [some (S.sh (eRs rs)), some (S.sh (tupI m0)), some (S.sh (.int lim)), some (S.ow (eMk s.1)), some (S.ow (eArs s.2)), some (S.sh (.int (k : Int))), some (.sh (.str r.1)), some (.sh (tupI r.2.1)), some (.sh (tupI r.2.2)), some (.sh (tupI nx))]) (by
            rw [ifF (by rw [tg _ rfl, decide_eq_false hg])]
            rfl)]
          simp only [sApp, eSh, List.getElem?_cons_zero, List.getElem?_cons_succ, Option.bind_some, List.length_map, rm1, if_true]
          simp)]
        simp only [sApp, eTup, aCons, aNil, e2, eSh, eVar, List.getElem?_cons_zero, List.getElem?_cons_succ, Option.bind_some, ix2, Option.map_some, List.length_cons, List.length_nil, List.length_map, rm2, if_true]
        simp
end F15
end Vl
end
section
set_option Elab.async false
set_option linter.all false
set_option maxRecDepth 100000
/-! what the defs of k15 compute: explored does as the law's walk -/
namespace Vl
namespace F15
abbrev eDi (ms : List (List Int)) : D := .dic (ms.zipIdx.map fun p => (tupI p.1, .int (p.2 : Nat)))
theorem look_aux (a : List Int) : ∀ (ms : List (List Int)) (k : Nat), look ((ms.zipIdx k).map fun p => (tupI p.1, D.int (p.2 : Nat))) (tupI a) = (ms.findIdx? (· == a)).map fun (j : Nat) => D.int ((j + k : Nat) : Int)
  | [], k => by simp [look]
  | m :: ms, k => by
    have ih := look_aux a ms (k + 1)
    unfold look at ih ⊢
    simp only [List.zipIdx_cons, List.map_cons, List.find?_cons, eqv_tupI, List.findIdx?_cons]
    by_cases h : m = a
    · simp [h]
    · simp only [h, decide_false, ih, beq_iff_eq, Option.map_map, if_false]
      congr 1
      funext j
      simp only [Function.comp_def]
      congr 1
      omega
theorem look_eDi (a : List Int) (ms : List (List Int)) : look (ms.zipIdx.map fun p => (tupI p.1, D.int (p.2 : Nat))) (tupI a) = (ms.findIdx? (· == a)).map fun (j : Nat) => D.int (j : Int) := look_aux a ms 0
theorem okKey_tupI {a : List Int} : (tupI a).okKey = true := by
  simp [tupI, D.okKey, D.isInt]
theorem has_eDi {neg : Bool} {ms : List (List Int)} {a : List Int} : D.has neg (tupI a) (eDi ms) = some (.bl (if neg then !(ms.findIdx? (· == a)).isSome else (ms.findIdx? (· == a)).isSome)) := by
  unfold D.has D.inDic
  simp only
  rw [if_pos okKey_tupI, look_eDi, Option.isSome_map]
theorem get_eDi {ms : List (List Int)} {a : List Int} : D.get (eDi ms) (tupI a) = (ms.findIdx? (· == a)).map fun (j : Nat) => D.int (j : Int) := by
  unfold D.get D.getDic
  simp only
  rw [if_pos okKey_tupI, look_eDi]
theorem put_eDi {ms : List (List Int)} {a : List Int} (h : ms.findIdx? (· == a) = none) : D.dic (put (ms.zipIdx.map fun p => (tupI p.1, D.int (p.2 : Nat))) (tupI a) (.int (ms.length : Nat))) = eDi (ms ++ [a]) := by
  unfold put
  rw [look_eDi, h]
  simp [List.zipIdx_append]
def eBf (b : Option (Nat × Nm)) : D := match b with
  | none => .non
  | some (k, a) => .tup [.int k, .str a]
def EX (N : D) (rs : List Rw) (m0 : List Int) (lim k : Nat) (s : St) (ρ : En) : Prop := ∃ (bf : List D) (x y z w : Option S), bf.length = s.1.length ∧ ρ = [some (S.sh N), some (S.sh (tupI m0)), some (S.sh (.int lim)), some (S.sh (eRs rs)), some (S.ow (eMk s.1)), some (S.ow (.lst bf)), some (S.ow (eDi s.1)), some (S.ow (eArs s.2)), some (S.sh (.int (k : Int))), x, y, z, w]
def bX : FS := (sIf (tE (eCall g_is_enough (aCons (e2 D.get (eVar 4) (eVar 8)) (aCons (eSh 10) (aNil))))) (sSeq (sSet 12 (eCall g_moved (aCons (e2 D.get (eVar 4) (eVar 8)) (aCons (eSh 10) (aCons (eSh 11) (aNil))))))
  (sSeq (sIf (t2 (D.has true) (eVar 12) (eVar 6)) (sSeq (sIf (t2 D.ge (e1 D.len (eVar 4)) (eVar 2)) (sNever) (sNext))
  (sSeq (sDput 6 (eSh 12) (e1 D.len (eVar 4)))
  (sSeq (sApp 4 (eSh 12))
  (sApp 5 (eTup (aCons (eSh 8) (aCons (eSh 9) (aNil)))))))) (sNext))
  (sApp 7 (eTup (aCons (eSh 8) (aCons (eSh 9) (aCons (e2 D.get (eVar 6) (eVar 12)) (aNil)))))))) (sNext))
theorem bX_ok {N : D} {rs : List Rw} {m0 : List Int} {n lim k : Nat} {s s' : St} {r : Rw} {ρ : En} (hr : okRw n r) (hn : n < 100) (hlim : lim < 1000) (hk : k < s.1.length) (hs : okSt n lim s) (hE : EX N rs m0 lim k s ρ) (hst : stR lim k s r = some s') :
    ∃ ρ1, gT [gN 9, gN 10, gN 11] (eRw r) ρ = some ρ1 ∧ ∃ ρ2, bX ρ1 = some (.nx ρ2) ∧ EX N rs m0 lim k s' ρ2 := by
  obtain ⟨bf, x, y, z, w, hbf, rfl⟩ := hE
  refine ⟨[some (S.sh N), some (S.sh (tupI m0)), some (S.sh (.int lim)), some (S.sh (eRs rs)), some (S.ow (eMk s.1)), some (S.ow (.lst bf)), some (S.ow (eDi s.1)), some (S.ow (eArs s.2)), some (S.sh (.int (k : Int))), some (.sh (.str r.1)), some (.sh (tupI r.2.1)), some (.sh (tupI r.2.2)), w], rfl, ?_⟩
  have hml : (s.1.getD k []).length = n := hs.1 _ (getD_mem hk)
  have q0 := get_eMk hk
  have q1 := is_enough_eq (m := s.1.getD k []) (t := r.2.1) (by rw [hml, hr.1]) (by omega)
  have q3 := moved_eq (m := s.1.getD k []) (t := r.2.1) (g := r.2.2) (by rw [hml, hr.1]) (by rw [hml, hr.2]) (by omega)
  have tt : ∀ ρ : En, ρ = [some (S.sh N), some (S.sh (tupI m0)), some (S.sh (.int lim)), some (S.sh (eRs rs)), some (S.ow (eMk s.1)), some (S.ow (.lst bf)), some (S.ow (eDi s.1)), some (S.ow (eArs s.2)), some (S.sh (.int (k : Int))), some (.sh (.str r.1)), some (.sh (tupI r.2.1)), some (.sh (tupI r.2.2)), w] → (tE (eCall g_is_enough (aCons (e2 D.get (eVar 4) (eVar 8)) (aCons (eSh 10) (aNil))))) ρ = some (venough (s.1.getD k []) r.2.1) := by
    rintro ρ rfl
    simp only [tE, eCall, aCons, aNil, e2, eSh, eVar, List.getElem?_cons_zero, List.getElem?_cons_succ, Option.bind_some, q0, q1]
  unfold stR at hst
  cases hv : venough (s.1.getD k []) r.2.1 with
  | false =>
    rw [if_neg (by rw [hv]; decide)] at hst
    cases hst
    refine ⟨_, ?_, bf, some (.sh (.str r.1)), some (.sh (tupI r.2.1)), some (.sh (tupI r.2.2)), w, hbf, rfl⟩
    unfold bX
    rw [ifF (by rw [tt _ rfl, hv])]
    rfl
  | true =>
    rw [if_pos hv] at hst
    generalize hnx : vmove (s.1.getD k []) r.2.1 r.2.2 = nx at *
    have A1 : ∀ ρ : En, ρ = [some (S.sh N), some (S.sh (tupI m0)), some (S.sh (.int lim)), some (S.sh (eRs rs)), some (S.ow (eMk s.1)), some (S.ow (.lst bf)), some (S.ow (eDi s.1)), some (S.ow (eArs s.2)), some (S.sh (.int (k : Int))), some (.sh (.str r.1)), some (.sh (tupI r.2.1)), some (.sh (tupI r.2.2)), w] → sSet 12 (eCall g_moved (aCons (e2 D.get (eVar 4) (eVar 8)) (aCons (eSh 10) (aCons (eSh 11) (aNil))))) ρ = some (.nx [some (S.sh N), some (S.sh (tupI m0)), some (S.sh (.int lim)), some (S.sh (eRs rs)), some (S.ow (eMk s.1)), some (S.ow (.lst bf)), some (S.ow (eDi s.1)), some (S.ow (eArs s.2)), some (S.sh (.int (k : Int))), some (.sh (.str r.1)), some (.sh (tupI r.2.1)), some (.sh (tupI r.2.2)), some (.sh (tupI nx))]) := by
      rintro ρ rfl
      simp only [sSet, eCall, aCons, aNil, e2, eSh, eVar, List.getElem?_cons_zero, List.getElem?_cons_succ, Option.bind_some, q0, q3, List.set_cons_succ, List.set_cons_zero]
    have th := has_eDi (neg := true) (ms := s.1) (a := nx)
    have ix := get_eDi (ms := s.1) (a := nx)
    have rm2 : room s.2.length = true := decide_eq_true hs.2.2
    have rm1 : room s.1.length = true := decide_eq_true (by have := hs.2.1; omega)
    cases hf : s.1.findIdx? (· == nx) with
    | some j =>
      rw [hf] at th ix hst
      cases hst
      refine ⟨_, ?_, bf, some (.sh (.str r.1)), some (.sh (tupI r.2.1)), some (.sh (tupI r.2.2)), some (.sh (tupI nx)), hbf, rfl⟩
      unfold bX
      rw [ifT (by rw [tt _ rfl, hv]), seq_nx (A1 _ rfl), seq_nx (ρ' := [some (S.sh N), some (S.sh (tupI m0)), some (S.sh (.int lim)), some (S.sh (eRs rs)), some (S.ow (eMk s.1)), some (S.ow (.lst bf)), some (S.ow (eDi s.1)), some (S.ow (eArs s.2)), some (S.sh (.int (k : Int))), some (.sh (.str r.1)), some (.sh (tupI r.2.1)), some (.sh (tupI r.2.2)), some (.sh (tupI nx))]) (by
        rw [ifF (by simp [t2, tE, e2, eVar, th])]
        rfl)]
      simp only [sApp, eTup, aCons, aNil, e2, eSh, eVar, List.getElem?_cons_zero, List.getElem?_cons_succ, Option.bind_some, ix, Option.map_some, List.length_cons, List.length_nil, List.length_map, rm2, if_true]
      simp
    | none =>
      rw [hf] at th ix hst
      have ge : D.ge (.int (s.1.length : Int)) (.int (lim : Int)) = some (.bl (decide (lim ≤ s.1.length))) := by simp [D.ge]
      have tg : ∀ ρ : En, ρ = [some (S.sh N), some (S.sh (tupI m0)), some (S.sh (.int lim)), some (S.sh (eRs rs)), some (S.ow (eMk s.1)), some (S.ow (.lst bf)), some (S.ow (eDi s.1)), some (S.ow (eArs s.2)), some (S.sh (.int (k : Int))), some (.sh (.str r.1)), some (.sh (tupI r.2.1)), some (.sh (tupI r.2.2)), some (.sh (tupI nx))] → (t2 D.ge (e1 D.len (eVar 4)) (eVar 2)) ρ = some (decide (lim ≤ s.1.length)) := by
        rintro ρ rfl
        simp only [t2, tE, e2, e1, eVar, List.getElem?_cons_zero, List.getElem?_cons_succ, Option.bind_some, len_eMk, ge]
      by_cases hg : lim ≤ s.1.length
      · simp only [hg, if_true] at hst
        cases hst
      · simp only [hg, if_false] at hst
        cases hst
        refine ⟨_, ?_, bf ++ [.tup [.int k, .str r.1]], some (.sh (.str r.1)), some (.sh (tupI r.2.1)), some (.sh (tupI r.2.2)), some (.sh (tupI nx)), by simp [hbf], rfl⟩
        have ix2 := get_eDi (ms := s.1 ++ [nx]) (a := nx)
        rw [findIdx_append hf] at ix2
        unfold bX
        rw [ifT (by rw [tt _ rfl, hv]), seq_nx (A1 _ rfl), seq_nx (ρ' := [some (S.sh N), some (S.sh (tupI m0)), some (S.sh (.int lim)), some (S.sh (eRs rs)), some (S.ow (eMk (s.1 ++ [nx]))), some (S.ow (.lst (bf ++ [.tup [.int k, .str r.1]]))), some (S.ow (eDi (s.1 ++ [nx]))), some (S.ow (eArs s.2)), some (S.sh (.int (k : Int))), some (.sh (.str r.1)), some (.sh (tupI r.2.1)), some (.sh (tupI r.2.2)), some (.sh (tupI nx))]) (by
          rw [ifT (by simp [t2, tE, e2, eVar, th]), seq_nx (ρ' := [some (S.sh N), some (S.sh (tupI m0)), some (S.sh (.int lim)), some (S.sh (eRs rs)), some (S.ow (eMk s.1)), some (S.ow (.lst bf)), some (S.ow (eDi s.1)), some (S.ow (eArs s.2)), some (S.sh (.int (k : Int))), some (.sh (.str r.1)), some (.sh (tupI r.2.1)), some (.sh (tupI r.2.2)), some (.sh (tupI nx))]) (by
            rw [ifF (by rw [tg _ rfl, decide_eq_false hg])]
            rfl)]
          rw [seq_nx (ρ' := [some (S.sh N), some (S.sh (tupI m0)), some (S.sh (.int lim)), some (S.sh (eRs rs)), some (S.ow (eMk s.1)), some (S.ow (.lst bf)), some (S.ow (eDi (s.1 ++ [nx]))), some (S.ow (eArs s.2)), some (S.sh (.int (k : Int))), some (.sh (.str r.1)), some (.sh (tupI r.2.1)), some (.sh (tupI r.2.2)), some (.sh (tupI nx))]) (by
            simp only [sDput, e1, eSh, eVar, List.getElem?_cons_zero, List.getElem?_cons_succ, Option.bind_some, len_eMk, okKey_tupI, List.length_map, List.length_zipIdx, rm1, Bool.and_self, if_true, put_eDi hf, List.set_cons_succ, List.set_cons_zero])]
          simp only [sSeq, sApp, eTup, aCons, aNil, eSh, List.getElem?_cons_zero, List.getElem?_cons_succ, Option.bind_some, List.length_map, rm1, if_true, List.set_cons_succ, List.set_cons_zero, hbf]
          simp)]
        simp only [sApp, eTup, aCons, aNil, e2, eSh, eVar, List.getElem?_cons_zero, List.getElem?_cons_succ, Option.bind_some, ix2, Option.map_some, List.length_cons, List.length_nil, List.length_map, rm2, if_true]
        simp
end F15
end Vl
end
section
set_option Elab.async false
set_option linter.all false
set_option maxRecDepth 100000
/-! what the defs of k15 compute: what is reached, the loops -/
namespace Vl
namespace F15
theorem not_mem_of_find {ms : List (List Int)} {a : List Int} (h : ms.findIdx? (· == a) = none) : a ∉ ms := by
  rw [List.findIdx?_eq_none_iff] at h
  intro ha
  have := h a ha
  simp at this
theorem mem_of_find {ms : List (List Int)} {a : List Int} {j : Nat} (h : ms.findIdx? (· == a) = some j) : a ∈ ms := by
  obtain ⟨h1, h2, _⟩ := List.findIdx?_eq_some_iff_getElem.mp h
  rw [← beq_iff_eq.mp h2]
  exact List.getElem_mem _
theorem stR_spec {lim k : Nat} {s s' : St} {r : Rw} (h : stR lim k s r = some s') : ((s'.1 = s.1) ∨ (venough (s.1.getD k []) r.2.1 = true ∧ vmove (s.1.getD k []) r.2.1 r.2.2 ∉ s.1 ∧ s.1.length < lim ∧ s'.1 = s.1 ++ [vmove (s.1.getD k []) r.2.1 r.2.2])) ∧ s'.2.length ≤ s.2.length + 1 ∧ (venough (s.1.getD k []) r.2.1 = true → vmove (s.1.getD k []) r.2.1 r.2.2 ∈ s'.1) := by
  unfold stR at h
  cases hv : venough (s.1.getD k []) r.2.1 with
  | false =>
    rw [if_neg (by rw [hv]; decide)] at h
    cases h
    exact ⟨.inl rfl, by omega, fun h => nomatch h⟩
  | true =>
    rw [if_pos hv] at h
    cases hf : s.1.findIdx? (· == vmove (s.1.getD k []) r.2.1 r.2.2) with
    | some j =>
      rw [hf] at h
      cases h
      exact ⟨.inl rfl, by simp, fun _ => mem_of_find hf⟩
    | none =>
      rw [hf] at h
      simp only at h
      by_cases hg : lim ≤ s.1.length
      · rw [if_pos hg] at h; cases h
      · rw [if_neg hg] at h
        cases h
        exact ⟨.inr ⟨rfl, not_mem_of_find hf, by omega, rfl⟩, by simp, fun _ => by simp⟩
theorem stR_mono {lim lim' k : Nat} {s s' : St} {r : Rw} (hl : lim ≤ lim') (h : stR lim k s r = some s') : stR lim' k s r = some s' := by
  unfold stR at h ⊢
  by_cases hv : venough (s.1.getD k []) r.2.1 = true
  · rw [if_pos hv] at h ⊢
    cases hf : s.1.findIdx? (· == vmove (s.1.getD k []) r.2.1 r.2.2) with
    | some j => rw [hf] at h; exact h
    | none =>
      rw [hf] at h
      simp only at h ⊢
      by_cases hg : lim ≤ s.1.length
      · rw [if_pos hg] at h; cases h
      · rw [if_neg hg] at h
        rw [if_neg (by omega)]
        exact h
  · rw [if_neg hv] at h ⊢; exact h
theorem fR_mono {lim lim' k : Nat} (hl : lim ≤ lim') : ∀ {rs : List Rw} {s s' : St}, fR lim k rs s = some s' → fR lim' k rs s = some s'
  | [], _, _, h => h
  | r :: rs, s, s', h => by
    unfold fR at h ⊢
    obtain ⟨s1, h1, h2⟩ := Option.bind_eq_some_iff.mp h
    rw [stR_mono hl h1, Option.bind_some]
    exact fR_mono hl h2
theorem wR_mono {lim lim' : Nat} (hl : lim ≤ lim') {rs : List Rw} : ∀ {F k : Nat} {s s' : St}, wR lim rs F k s = some s' → wR lim' rs F k s = some s'
  | 0, _, _, _, h => h
  | F + 1, k, s, s', h => by
    unfold wR at h ⊢
    by_cases hk : k < s.1.length
    · rw [if_pos hk] at h ⊢
      obtain ⟨s1, h1, h2⟩ := Option.bind_eq_some_iff.mp h
      rw [fR_mono hl h1, Option.bind_some]
      exact wR_mono hl h2
    · rw [if_neg hk] at h ⊢
      exact h
/-- what holds of the marks from step to step -/
def keeps (rs : List Rw) (Inv : List (List Int) → Prop) : Prop := ∀ ms k r, r ∈ rs → k < ms.length → Inv ms → venough (ms.getD k []) r.2.1 = true → vmove (ms.getD k []) r.2.1 r.2.2 ∉ ms → Inv (ms ++ [vmove (ms.getD k []) r.2.1 r.2.2])
theorem getD_app {ms l : List (List Int)} {k : Nat} (h : k < ms.length) : (ms ++ l).getD k [] = ms.getD k [] := by
  rw [List.getD_eq_getElem?_getD, List.getD_eq_getElem?_getD, List.getElem?_append_left h]
theorem fR_spec {all : List Rw} {lim k : Nat} {Inv : List (List Int) → Prop} (hI : keeps all Inv) : ∀ {rs : List Rw} {s s' : St}, (∀ r ∈ rs, r ∈ all) → k < s.1.length → s.1.length ≤ lim → Inv s.1 → fR lim k rs s = some s' → Inv s'.1 ∧ s'.1.length ≤ lim ∧ (∃ l, s'.1 = s.1 ++ l) ∧ s'.2.length ≤ s.2.length + rs.length ∧ ∀ r ∈ rs, venough (s.1.getD k []) r.2.1 = true → vmove (s.1.getD k []) r.2.1 r.2.2 ∈ s'.1
  | [], s, s', _, _, hl, hi, h => by
    cases h
    exact ⟨hi, hl, ⟨[], by simp⟩, by simp, fun _ h => nomatch h⟩
  | r :: rs, s, s', hr, hk, hl, hi, h => by
    unfold fR at h
    obtain ⟨s1, h1, h2⟩ := Option.bind_eq_some_iff.mp h
    obtain ⟨a1, a2, a3⟩ := stR_spec h1
    obtain ⟨b1, b2, b3⟩ : Inv s1.1 ∧ s1.1.length ≤ lim ∧ ∃ l, s1.1 = s.1 ++ l := by
      rcases a1 with a1 | ⟨c1, c2, c3, c4⟩
      · rw [a1]; exact ⟨hi, hl, [], by simp⟩
      · rw [c4]
        exact ⟨hI _ _ _ (hr r List.mem_cons_self) hk hi c1 c2, by rw [List.length_append, List.length_singleton]; omega, _, rfl⟩
    obtain ⟨l1, e1⟩ := b3
    have hk1 : k < s1.1.length := by rw [e1, List.length_append]; omega
    obtain ⟨d1, d2, ⟨l2, d3⟩, d4, d5⟩ := fR_spec hI (fun q hq => hr q (List.mem_cons_of_mem _ hq)) hk1 b2 b1 h2
    refine ⟨d1, d2, ⟨l1 ++ l2, by rw [d3, e1, List.append_assoc]⟩, by rw [List.length_cons]; omega, fun q hq hv => ?_⟩
    have eg : s1.1.getD k [] = s.1.getD k [] := by rw [e1]; exact getD_app hk
    rcases List.mem_cons.mp hq with rfl | hq
    · rw [d3]
      exact List.mem_append_left _ (a3 hv)
    · have := d5 q hq
      rw [eg] at this
      exact this hv
/-- all that the first k marks lead to is there -/
def closedTo (rs : List Rw) (k : Nat) (ms : List (List Int)) : Prop := ∀ i, i < k → ∀ r ∈ rs, venough (ms.getD i []) r.2.1 = true → vmove (ms.getD i []) r.2.1 r.2.2 ∈ ms
theorem wR_spec {rs : List Rw} {lim : Nat} {Inv : List (List Int) → Prop} (hI : keeps rs Inv) : ∀ {F k : Nat} {s s' : St}, lim < F + k → k ≤ s.1.length → s.1.length ≤ lim → Inv s.1 → closedTo rs k s.1 → wR lim rs F k s = some s' → Inv s'.1 ∧ s'.1.length ≤ lim ∧ (∃ l, s'.1 = s.1 ++ l) ∧ closedTo rs s'.1.length s'.1
  | 0, k, s, s', h1, h2, h3, hi, hc, h => by omega
  | F + 1, k, s, s', h1, h2, h3, hi, hc, h => by
    unfold wR at h
    by_cases hk : k < s.1.length
    · rw [if_pos hk] at h
      obtain ⟨s1, g1, g2⟩ := Option.bind_eq_some_iff.mp h
      obtain ⟨d1, d2, ⟨l, d3⟩, _, d5⟩ := fR_spec hI (fun _ h => h) hk h3 hi g1
      have hl1 : s.1.length ≤ s1.1.length := by rw [d3, List.length_append]; omega
      have hc1 : closedTo rs (k + 1) s1.1 := by
        intro i hi' r hr hv
        have eg : s1.1.getD i [] = s.1.getD i [] := by rw [d3]; exact getD_app (by omega)
        rw [eg] at hv ⊢
        by_cases hik : i = k
        · subst hik; exact d5 r hr hv
        · rw [d3]; exact List.mem_append_left _ (hc i (by omega) r hr hv)
      obtain ⟨w1, w2, ⟨l', w3⟩, w4⟩ := wR_spec hI (by omega) (by omega) d2 d1 hc1 g2
      exact ⟨w1, w2, ⟨l ++ l', by rw [w3, d3, List.append_assoc]⟩, w4⟩
    · rw [if_neg hk] at h
      cases h
      exact ⟨hi, h3, ⟨[], by simp⟩, by rw [show s.1.length = k by omega]; exact hc⟩
/-! the loops -/
def okLen (n : Nat) (ms : List (List Int)) : Prop := ∀ m ∈ ms, m.length = n
theorem keeps_len {rs : List Rw} {n : Nat} : keeps rs (okLen n) := by
  intro ms k r hr hk hi hv hn m hm
  rcases List.mem_append.mp hm with z | z
  · exact hi m z
  · rw [List.mem_singleton.mp z, vmove_length]
    exact hi _ (getD_mem hk)
theorem for_law {rs all : List Rw} {m0 : List Int} {n lim k : Nat} (hn : n < 100) (hlim : lim < 1000) : ∀ {l : List Rw} {s : St} {ρ : En}, (∀ r ∈ l, okRw n r) → k < s.1.length → s.1.length ≤ lim → okLen n s.1 → s.2.length + l.length < 100000 → EL rs m0 lim k s ρ → (match fR lim k l s with
      | none => forM (gT [gN 6, gN 7, gN 8]) bL (l.map eRw) ρ = some (.rt .non)
      | some s' => ∃ ρ2, forM (gT [gN 6, gN 7, gN 8]) bL (l.map eRw) ρ = some (.nx ρ2) ∧ EL rs m0 lim k s' ρ2)
  | [], s, ρ, _, _, _, _, _, hE => ⟨ρ, rfl, hE⟩
  | r :: l, s, ρ, hr, hk, hl, hi, hs, hE => by
    obtain ⟨ρ1, h1, h2⟩ := bL_ok (hr r List.mem_cons_self) hn hlim hk ⟨hi, hl, by rw [List.length_cons] at hs; omega⟩ hE
    unfold fR
    cases hst : stR lim k s r with
    | none =>
      rw [hst] at h2
      simp only [Option.bind_none]
      unfold forM
      rw [List.map_cons]
      simp only
      rw [h1, Option.bind_some, h2, Option.bind_some]
    | some s1 =>
      rw [hst] at h2
      obtain ⟨ρ2, h3, h4⟩ := h2
      rw [Option.bind_some]
      obtain ⟨d1, d2, ⟨l1, d3⟩, d4, _⟩ := fR_spec (all := [r]) (lim := lim) (k := k) (Inv := okLen n) keeps_len (rs := [r]) (s := s) (s' := s1) (fun _ h => h) hk hl hi (by unfold fR; rw [hst]; rfl)
      rw [List.length_cons] at hs
      rw [List.length_singleton] at d4
      have ih := for_law hn hlim (l := l) (s := s1) (ρ := ρ2) (fun q hq => hr q (List.mem_cons_of_mem _ hq)) (by rw [d3, List.length_append]; omega) d2 d1 (by omega) h4 (all := all)
      have e : forM (gT [gN 6, gN 7, gN 8]) bL ((r :: l).map eRw) ρ = forM (gT [gN 6, gN 7, gN 8]) bL (l.map eRw) ρ2 := by
        rw [List.map_cons]
        conv => lhs; unfold forM
        rw [h1, Option.bind_some, h3, Option.bind_some]
      rw [e]
      exact ih
theorem while_law {rs : List Rw} {m0 : List Int} {n lim : Nat} (hr : ∀ r ∈ rs, okRw n r) (hrl : rs.length ≤ 9) (hn : n < 100) (hlim : lim < 1000) : ∀ {F k : Nat} {s : St} {ρ : En}, lim < F + k → k ≤ s.1.length → s.1.length ≤ lim → okLen n s.1 → s.2.length ≤ 9 * k → EL rs m0 lim k s ρ → (match wR lim rs F k s with
      | none => whileM (t2 D.lt (eVar 5) (e1 D.len (eVar 3))) (sSeq (sFor (wSeq (eSh 0)) (gT [gN 6, gN 7, gN 8]) bL) (sSet 5 (e2 D.add (eSh 5) (eC (.int 1))))) F ρ = some (.rt .non)
      | some s' => ∃ k' ρ2, whileM (t2 D.lt (eVar 5) (e1 D.len (eVar 3))) (sSeq (sFor (wSeq (eSh 0)) (gT [gN 6, gN 7, gN 8]) bL) (sSet 5 (e2 D.add (eSh 5) (eC (.int 1))))) F ρ = some (.nx ρ2) ∧ EL rs m0 lim k' s' ρ2)
  | 0, k, s, ρ, h1, h2, h3, _, _, _ => by omega
  | F + 1, k, s, ρ, h1, h2, h3, hi, ha, hE => by
    have ht : (t2 D.lt (eVar 5) (e1 D.len (eVar 3))) ρ = some (decide (k < s.1.length)) := by
      obtain ⟨x, y, z, w, rfl⟩ := hE
      simp [t2, tE, e2, e1, eVar, len_eMk, D.lt]
    unfold wR whileM
    by_cases hk : k < s.1.length
    · rw [if_pos hk, ht, decide_eq_true hk]
      simp only [Option.bind_some, if_true]
      have fl := for_law (all := rs) hn hlim (l := rs) (s := s) (ρ := ρ) hr hk h3 hi (by omega) hE
      have hw : wSeq (eSh 0) ρ = some (rs.map eRw) := by
        obtain ⟨x, y, z, w, rfl⟩ := hE
        simp [wSeq, eSh, eRs]
      cases hf : fR lim k rs s with
      | none =>
        rw [hf] at fl
        simp only [Option.bind_none]
        rw [seq_rt (d := .non) (by unfold sFor; rw [hw, Option.bind_some]; exact fl)]
        rfl
      | some s1 =>
        rw [hf] at fl
        obtain ⟨ρ2, f1, f2⟩ := fl
        simp only [Option.bind_some]
        obtain ⟨d1, d2, ⟨l1, d3⟩, d4, _⟩ := fR_spec (keeps_len (rs := rs) (n := n)) (fun _ h => h) hk h3 hi hf
        obtain ⟨ρ3, g1, g2⟩ : ∃ ρ3, sSet 5 (e2 D.add (eSh 5) (eC (.int 1))) ρ2 = some (.nx ρ3) ∧ EL rs m0 lim (k + 1) s1 ρ3 := by
          obtain ⟨x, y, z, w, rfl⟩ := f2
          exact ⟨_, by simp only [sSet, e2, eSh, eC, List.getElem?_cons_zero, List.getElem?_cons_succ, Option.bind_some, add_at, List.set_cons_succ, List.set_cons_zero], x, y, z, w, rfl⟩
        rw [seq_nx (for_nx hw f1), g1, Option.bind_some]
        exact while_law hr hrl hn hlim (by omega) (by rw [d3, List.length_append]; omega) d2 d1 (by omega) g2
    · rw [if_neg hk, ht, decide_eq_false hk]
      simp only [Option.bind_some, Bool.false_eq_true, if_false]
      exact ⟨k, ρ, rfl, hE⟩
theorem law_reached_eq {rs : List Rw} {m0 : List Int} {n : Nat} (hr : ∀ r ∈ rs, okRw n r) (hrl : rs.length ≤ 9) (hn : n < 100) (hm : m0.length = n) : (match wR 30 rs 1000000 0 ([m0], []) with
      | none => g__law_reached [eRs rs, tupI m0, .int 30] = some .non
      | some s' => g__law_reached [eRs rs, tupI m0, .int 30] = some (.tup [eMk s'.1, eArs s'.2])) := by
  have wl := while_law (m0 := m0) hr hrl hn (lim := 30) (by omega) (F := 1000000) (k := 0) (s := ([m0], [])) (ρ := [some (S.sh (eRs rs)), some (S.sh (tupI m0)), some (S.sh (.int (30 : Nat))), some (S.ow (eMk [m0])), some (S.ow (eArs [])), some (S.sh (.int (0 : Nat))), none, none, none, none]) (by omega) (by simp) (by simp) (by intro m hm'; rw [List.mem_singleton.mp hm']; exact hm) (by simp) ⟨none, none, none, none, rfl⟩
  have st : ∀ o : Option Out, whileM (t2 D.lt (eVar 5) (e1 D.len (eVar 3))) (sSeq (sFor (wSeq (eSh 0)) (gT [gN 6, gN 7, gN 8]) bL) (sSet 5 (e2 D.add (eSh 5) (eC (.int 1))))) 1000000 [some (S.sh (eRs rs)), some (S.sh (tupI m0)), some (S.sh (.int (30 : Nat))), some (S.ow (eMk [m0])), some (S.ow (eArs [])), some (S.sh (.int (0 : Nat))), none, none, none, none] = o → g__law_reached [eRs rs, tupI m0, .int 30] = (o.bind fun o => match o with
      | .nx ρ' => (sFrz [3, 4] (sRet (eTup (aCons (eSh 3) (aCons (eSh 4) (aNil)))))) ρ'
      | o => some o).bind fun o => match o with
    | .rt d => some d
    | .nx _ => some .non
    | _ => none := by
    rintro o rfl
    unfold g__law_reached fnB b__law_reached
    simp only [List.length_cons, List.length_nil, if_true, List.map_cons, List.map_nil, List.cons_append, List.nil_append, List.replicate]
    rw [seq_nx (ρ' := [some (S.sh (eRs rs)), some (S.sh (tupI m0)), some (S.sh (.int (30 : Nat))), some (S.ow (eMk [m0])), none, none, none, none, none, none]) (by simp [sOwn, eLst, aCons, aNil, eSh]), seq_nx (ρ' := [some (S.sh (eRs rs)), some (S.sh (tupI m0)), some (S.sh (.int (30 : Nat))), some (S.ow (eMk [m0])), some (S.ow (eArs [])), none, none, none, none, none]) (by simp [sOwn, eLst, aNil]), seq_nx (ρ' := [some (S.sh (eRs rs)), some (S.sh (tupI m0)), some (S.sh (.int (30 : Nat))), some (S.ow (eMk [m0])), some (S.ow (eArs [])), some (S.sh (.int (0 : Nat))), none, none, none, none]) (by simp [sSet, eC])]
    rfl
  cases hw : wR 30 rs 1000000 0 ([m0], []) with
  | none =>
    rw [hw] at wl
    simp only at wl ⊢
    rw [st _ wl]
    rfl
  | some s' =>
    rw [hw] at wl
    obtain ⟨k', ρ2, h1, h2⟩ := wl
    simp only
    rw [st _ h1]
    obtain ⟨x, y, z, w, rfl⟩ := h2
    simp [sFrz, frz, sRet, eTup, aCons, aNil, eSh]
end F15
end Vl
end
section
set_option Elab.async false
set_option linter.all false
set_option maxRecDepth 100000
/-! what the defs of k15 compute: explored, reached -/
namespace Vl
namespace F15
theorem for_exp {N : D} {rs : List Rw} {m0 : List Int} {n lim k : Nat} (hn : n < 100) (hlim : lim < 1000) : ∀ {l : List Rw} {s s' : St} {ρ : En}, (∀ r ∈ l, okRw n r) → k < s.1.length → s.1.length ≤ lim → okLen n s.1 → s.2.length + l.length < 100000 → EX N rs m0 lim k s ρ → fR lim k l s = some s' → ∃ ρ2, forM (gT [gN 9, gN 10, gN 11]) bX (l.map eRw) ρ = some (.nx ρ2) ∧ EX N rs m0 lim k s' ρ2
  | [], s, s', ρ, _, _, _, _, _, hE, h => by cases h; exact ⟨ρ, rfl, hE⟩
  | r :: l, s, s', ρ, hr, hk, hl, hi, hs, hE, h => by
    unfold fR at h
    obtain ⟨s1, hst, h2⟩ := Option.bind_eq_some_iff.mp h
    rw [List.length_cons] at hs
    obtain ⟨ρ1, h1, ρ2, h3, h4⟩ := bX_ok (hr r List.mem_cons_self) hn hlim hk ⟨hi, hl, by omega⟩ hE hst
    obtain ⟨d1, d2, ⟨l1, d3⟩, d4, _⟩ := fR_spec (all := [r]) (lim := lim) (k := k) (Inv := okLen n) keeps_len (rs := [r]) (s := s) (s' := s1) (fun _ h => h) hk hl hi (by unfold fR; rw [hst]; rfl)
    rw [List.length_singleton] at d4
    obtain ⟨ρ3, q1, q2⟩ := for_exp hn hlim (l := l) (s := s1) (ρ := ρ2) (fun q hq => hr q (List.mem_cons_of_mem _ hq)) (by rw [d3, List.length_append]; omega) d2 d1 (by omega) h4 h2
    refine ⟨ρ3, ?_, q2⟩
    rw [List.map_cons]
    unfold forM
    rw [h1, Option.bind_some, h3, Option.bind_some]
    exact q1
theorem while_exp {N : D} {rs : List Rw} {m0 : List Int} {n lim : Nat} (hr : ∀ r ∈ rs, okRw n r) (hrl : rs.length ≤ 9) (hn : n < 100) (hlim : lim < 1000) : ∀ {F k : Nat} {s s' : St} {ρ : En}, lim < F + k → k ≤ s.1.length → s.1.length ≤ lim → okLen n s.1 → s.2.length ≤ 9 * k → EX N rs m0 lim k s ρ → wR lim rs F k s = some s' → ∃ k' ρ2, whileM (t2 D.lt (eVar 8) (e1 D.len (eVar 4))) (sSeq (sFor (wSeq (eSh 3)) (gT [gN 9, gN 10, gN 11]) bX) (sAug 8 (eC (.int 1)))) F ρ = some (.nx ρ2) ∧ EX N rs m0 lim k' s' ρ2
  | 0, k, s, s', ρ, h1, h2, h3, _, _, _, _ => by omega
  | F + 1, k, s, s', ρ, h1, h2, h3, hi, ha, hE, h => by
    have ht : (t2 D.lt (eVar 8) (e1 D.len (eVar 4))) ρ = some (decide (k < s.1.length)) := by
      obtain ⟨bf, x, y, z, w, _, rfl⟩ := hE
      simp [t2, tE, e2, e1, eVar, len_eMk, D.lt]
    unfold wR at h
    unfold whileM
    by_cases hk : k < s.1.length
    · rw [if_pos hk] at h
      rw [ht, decide_eq_true hk]
      simp only [Option.bind_some, if_true]
      obtain ⟨s1, hf, h5⟩ := Option.bind_eq_some_iff.mp h
      obtain ⟨ρ2, f1, f2⟩ := for_exp hn hlim (l := rs) (s := s) (ρ := ρ) hr hk h3 hi (by omega) hE hf
      have hw : wSeq (eSh 3) ρ = some (rs.map eRw) := by
        obtain ⟨bf, x, y, z, w, _, rfl⟩ := hE
        simp [wSeq, eSh, eRs]
      obtain ⟨d1, d2, ⟨l1, d3⟩, d4, _⟩ := fR_spec (keeps_len (rs := rs) (n := n)) (fun _ h => h) hk h3 hi hf
      obtain ⟨ρ3, g1, g2⟩ : ∃ ρ3, sAug 8 (eC (.int 1)) ρ2 = some (.nx ρ3) ∧ EX N rs m0 lim (k + 1) s1 ρ3 := by
        obtain ⟨bf, x, y, z, w, hb, rfl⟩ := f2
        exact ⟨_, rfl, bf, x, y, z, w, hb, rfl⟩
      rw [seq_nx (for_nx hw f1), g1, Option.bind_some]
      exact while_exp hr hrl hn hlim (by omega) (by rw [d3, List.length_append]; omega) d2 d1 (by omega) g2 h5
    · rw [if_neg hk] at h
      cases h
      rw [ht, decide_eq_false hk]
      simp only [Option.bind_some, Bool.false_eq_true, if_false]
      exact ⟨k, ρ, rfl, hE⟩
theorem explored_eq {ps : List Nm} {ms : List Mv} {m0 : List Int} {s' : St} (h : okNet ps ms) (hm : m0.length = ps.length) (hw : wR 500 (vrows ps ms) 1000000 0 ([m0], []) = some s') : ∃ bf, g_explored [eN ps ms, tupI m0, .int 500] = some (.tup [eMk s'.1, .lst bf, eArs s'.2]) := by
  have hl : (vrows ps ms).length ≤ 9 := by rw [vrows, List.length_map]; exact h.2.2.2.2.2
  obtain ⟨k', ρ2, h1, bf, x, y, z, w, hb, rfl⟩ := while_exp (N := eN ps ms) (m0 := m0) (rs := vrows ps ms) (n := ps.length) vrows_ok hl (by have := h.2.2.2.2.1; omega) (lim := 500) (by omega) (F := 1000000) (k := 0) (s := ([m0], [])) (ρ := [some (S.sh (eN ps ms)), some (S.sh (tupI m0)), some (S.sh (.int (500 : Nat))), some (S.sh (eRs (vrows ps ms))), some (S.ow (eMk [m0])), some (S.ow (.lst [.non])), some (S.ow (eDi [m0])), some (S.ow (eArs [])), some (S.sh (.int (0 : Nat))), none, none, none, none]) (by omega) (by simp) (by simp) (by intro m hm'; rw [List.mem_singleton.mp hm']; exact hm) (by simp) ⟨[.non], none, none, none, none, rfl, rfl⟩ hw
  refine ⟨bf, ?_⟩
  unfold g_explored fnB b_explored
  simp only [List.length_cons, List.length_nil, if_true, List.map_cons, List.map_nil, List.cons_append, List.nil_append, List.replicate]
  rw [seq_nx (ρ' := [some (S.sh (eN ps ms)), some (S.sh (tupI m0)), some (S.sh (.int (500 : Nat))), some (S.sh (eRs (vrows ps ms))), none, none, none, none, none, none, none, none, none]) (by simp [sSet, eCall, aCons, aNil, eSh, rows_eq h]),
    seq_nx (ρ' := [some (S.sh (eN ps ms)), some (S.sh (tupI m0)), some (S.sh (.int (500 : Nat))), some (S.sh (eRs (vrows ps ms))), some (S.ow (eMk [m0])), none, none, none, none, none, none, none, none]) (by simp [sOwn, eLst, aCons, aNil, eSh]),
    seq_nx (ρ' := [some (S.sh (eN ps ms)), some (S.sh (tupI m0)), some (S.sh (.int (500 : Nat))), some (S.sh (eRs (vrows ps ms))), some (S.ow (eMk [m0])), some (S.ow (.lst [.non])), none, none, none, none, none, none, none]) (by simp [sOwn, eLst, aCons, aNil, eC]),
    seq_nx (ρ' := [some (S.sh (eN ps ms)), some (S.sh (tupI m0)), some (S.sh (.int (500 : Nat))), some (S.sh (eRs (vrows ps ms))), some (S.ow (eMk [m0])), some (S.ow (.lst [.non])), some (S.ow (eDi [m0])), none, none, none, none, none, none]) (by simp [sOwn, eDic1, eSh, eC, okKey_tupI]),
    seq_nx (ρ' := [some (S.sh (eN ps ms)), some (S.sh (tupI m0)), some (S.sh (.int (500 : Nat))), some (S.sh (eRs (vrows ps ms))), some (S.ow (eMk [m0])), some (S.ow (.lst [.non])), some (S.ow (eDi [m0])), some (S.ow (eArs [])), none, none, none, none, none]) (by simp [sOwn, eLst, aNil]),
    seq_nx (ρ' := [some (S.sh (eN ps ms)), some (S.sh (tupI m0)), some (S.sh (.int (500 : Nat))), some (S.sh (eRs (vrows ps ms))), some (S.ow (eMk [m0])), some (S.ow (.lst [.non])), some (S.ow (eDi [m0])), some (S.ow (eArs [])), some (S.sh (.int (0 : Nat))), none, none, none, none]) (by simp [sSet, eC])]
  rw [seq_nx (show sWhile (t2 D.lt (eVar 8) (e1 D.len (eVar 4))) (sSeq (sFor (wSeq (eSh 3)) (gT [gN 9, gN 10, gN 11]) (sIf (tE (eCall g_is_enough (aCons (e2 D.get (eVar 4) (eVar 8)) (aCons (eSh 10) (aNil))))) (sSeq (sSet 12 (eCall g_moved (aCons (e2 D.get (eVar 4) (eVar 8)) (aCons (eSh 10) (aCons (eSh 11) (aNil))))))   (sSeq (sIf (t2 (D.has true) (eVar 12) (eVar 6)) (sSeq (sIf (t2 D.ge (e1 D.len (eVar 4)) (eVar 2)) (sNever) (sNext))   (sSeq (sDput 6 (eSh 12) (e1 D.len (eVar 4)))   (sSeq (sApp 4 (eSh 12))   (sApp 5 (eTup (aCons (eSh 8) (aCons (eSh 9) (aNil)))))))) (sNext))   (sApp 7 (eTup (aCons (eSh 8) (aCons (eSh 9) (aCons (e2 D.get (eVar 6) (eVar 12)) (aNil)))))))) (sNext)))   (sAug 8 (eC (.int 1)))) _ = _ from h1)]
  simp [sFrz, frz, sRet, eTup, aCons, aNil, eSh]
theorem reached_eq {ps : List Nm} {ms : List Mv} {m0 : List Int} {s' : St} (h : okNet ps ms) (hm : okM ps m0) (hw : wR 500 (vrows ps ms) 1000000 0 ([m0], []) = some s') : g_reached [eN ps ms, tupI m0, .int 500] = some (.tup (s'.1.map tupI)) := by
  obtain ⟨bf, hx⟩ := explored_eq h hm.1 hw
  unfold g_reached fnB b_reached
  simp only [List.length_cons, List.length_nil, if_true, List.map_cons, List.map_nil, List.cons_append, List.nil_append, List.replicate]
  rw [seq_nx (ρ' := [some (S.sh (eN ps ms)), some (S.sh (tupI m0)), some (S.sh (.int 500)), none, none, none]) (by simp [sDrop, eCall, aCons, aNil, eSh, check_mark_eq hm])]
  rw [seq_nx (ρ' := [some (S.sh (eN ps ms)), some (S.sh (tupI m0)), some (S.sh (.int 500)), some (.sh (eMk s'.1)), some (.sh (.lst bf)), some (.sh (eArs s'.2))]) (by
    simp only [sAsg, eCall, aCons, aNil, eSh, List.getElem?_cons_zero, List.getElem?_cons_succ, Option.bind_some, hx]
    rfl)]
  rfl
end F15
end Vl
end
section
set_option Elab.async false
set_option linter.all false
set_option maxRecDepth 100000
/-! what the defs of k15 compute: run -/
namespace Vl
namespace F15
def runR : List Int → List Rw → Option (List Int)
  | m, [] => some m
  | m, r :: qs => if venough m r.2.1 then runR (vmove m r.2.1 r.2.2) qs else none
theorem runR_append : ∀ {m : List Int} {a b : List Rw}, runR m (a ++ b) = (runR m a).bind fun m' => runR m' b
  | m, [], b => rfl
  | m, r :: a, b => by
    simp only [List.cons_append, runR]
    by_cases h : venough m r.2.1 = true
    · rw [if_pos h, if_pos h]; exact runR_append
    · rw [if_neg h, if_neg h]; rfl
theorem venough_get {m t : List Int} (h : venough m t = true) {k : Nat} (hk : k < m.length) : t.getD k 0 ≤ m.getD k 0 := by
  unfold venough at h
  rw [List.all_eq_true] at h
  exact of_decide_eq_true (h k (List.mem_range.mpr hk))
theorem vmove_get {m t g : List Int} {k : Nat} (hk : k < m.length) : (vmove m t g).getD k 0 = m.getD k 0 - t.getD k 0 + g.getD k 0 := by
  unfold vmove
  rw [List.getD_eq_getElem?_getD, List.getElem?_map, List.getElem?_range hk]
  rfl
theorem ext_getD {a b : List Int} (h1 : a.length = b.length) (h2 : ∀ k, k < a.length → a.getD k 0 = b.getD k 0) : a = b := by
  apply List.ext_getElem h1
  intro k ha hb
  have := h2 k ha
  rw [List.getD_eq_getElem?_getD, List.getD_eq_getElem?_getD, List.getElem?_eq_getElem ha, List.getElem?_eq_getElem hb] at this
  exact this
theorem back_step {m : List Int} {r : Rw} (h : venough m r.2.1 = true) : venough (vmove m r.2.1 r.2.2) r.2.2 = true ∧ vmove (vmove m r.2.1 r.2.2) r.2.2 r.2.1 = m := by
  constructor
  · unfold venough
    rw [List.all_eq_true]
    intro k hk
    rw [List.mem_range, vmove_length] at hk
    have := venough_get h hk
    rw [decide_eq_true_eq, vmove_get hk]
    omega
  · apply ext_getD
    · rw [vmove_length, vmove_length]
    · intro k hk
      rw [vmove_length, vmove_length] at hk
      rw [vmove_get (by rw [vmove_length]; exact hk), vmove_get hk]
      omega
theorem run_back : ∀ {qs : List Rw} {m m' : List Int}, runR m qs = some m' → runR m' (qs.reverse.map swR) = some m
  | [], m, m', h => by cases h; rfl
  | r :: qs, m, m', h => by
    unfold runR at h
    by_cases hv : venough m r.2.1 = true
    · rw [if_pos hv] at h
      have ih := run_back h
      obtain ⟨b1, b2⟩ := back_step hv
      rw [List.reverse_cons, List.map_append, runR_append, ih, Option.bind_some]
      simp only [List.map_cons, List.map_nil, runR, swR]
      rw [if_pos b1, b2]
    · rw [if_neg hv] at h; cases h
theorem found_eq {ps : List Nm} {ms : List Mv} {r : Rw} (h : okNet ps ms) (hr : r ∈ vrows ps ms) : g_found_move [eN ps ms, .str r.1] = some (eRw r) := by
  have nd : ((vrows ps ms).map (·.1)).Nodup := by
    have := (List.nodup_append.mp h.2.2.1).2.1
    simp only [vrows, List.map_map]
    exact this
  have loop : ∀ (l : List Rw) (x : Option S), r ∈ l → (l.map (·.1)).Nodup → forM (gN 2) (sIf (t2 D.eq (e2 D.get (eVar 2) (eC (.int 0))) (eVar 1)) (sRet (eSh 2)) (sNext)) (l.map eRw) [some (S.sh (eN ps ms)), some (S.sh (.str r.1)), x] = some (.rt (eRw r)) := by
    intro l
    induction l with
    | nil => intro x h; nomatch h
    | cons q l ih =>
      intro x hq nd
      rw [List.map_cons]
      unfold forM
      have g : gN 2 (eRw q) [some (S.sh (eN ps ms)), some (S.sh (.str r.1)), x] = some [some (S.sh (eN ps ms)), some (S.sh (.str r.1)), some (.sh (eRw q))] := rfl
      rw [g, Option.bind_some]
      have tt : (t2 D.eq (e2 D.get (eVar 2) (eC (.int 0))) (eVar 1)) [some (S.sh (eN ps ms)), some (S.sh (.str r.1)), some (.sh (eRw q))] = some (decide (q.1 = r.1)) := by
        have : D.get (eRw q) (.int 0) = some (.str q.1) := get3.1
        simp only [t2, tE, e2, eVar, eC, List.getElem?_cons_zero, List.getElem?_cons_succ, Option.bind_some, this, eqv_str]
      rw [List.map_cons, List.nodup_cons] at nd
      by_cases e : q.1 = r.1
      · have : q = r := by
          rcases List.mem_cons.mp hq with z | z
          · exact z.symm
          · exact absurd (by rw [e]; exact List.mem_map.mpr ⟨r, z, rfl⟩) nd.1
        subst this
        rw [ifT (by rw [tt, decide_eq_true e])]
        rfl
      · have hq' : r ∈ l := by
          rcases List.mem_cons.mp hq with z | z
          · exact absurd (by rw [z]) e
          · exact z
        rw [ifF (by rw [tt, decide_eq_false e])]
        simp only [sNext, Option.bind_some]
        exact ih _ hq' nd.2
  unfold g_found_move fnB b_found_move
  simp only [List.length_cons, List.length_nil, if_true, List.map_cons, List.map_nil, List.cons_append, List.nil_append, List.replicate]
  rw [seq_rt (d := eRw r) (by
    unfold sFor
    rw [show wSeq (eCall g_rows_of (aCons (eSh 0) aNil)) [some (S.sh (eN ps ms)), some (S.sh (.str r.1)), none] = some ((vrows ps ms).map eRw) by
      simp [wSeq, eCall, aCons, aNil, eSh, rows_eq h, eRs], Option.bind_some]
    exact loop _ _ hr nd)]
  rfl
abbrev eW (w : List Nm) : D := eP w
theorem run_eq {ps : List Nm} {ms : List Mv} {m m' : List Int} {qs : List Rw} (h : okNet ps ms) (hm : okM ps m) (hq : ∀ r ∈ qs, r ∈ vrows ps ms) (hl : qs.length < 1000) (hr : runR m qs = some m') : g_run [eN ps ms, tupI m, eP (qs.map (·.1))] = some (tupI m') := by
  have hlc : eLc (wSeq (eSh 2)) (gN 5) tY (eCall g_found_move (aCons (eSh 0) (aCons (eSh 5) aNil))) [5] [some (S.sh (eN ps ms)), some (S.sh (tupI m)), some (S.sh (eP (qs.map (·.1)))), none, none, none, none, none] = some (eRs qs) := by
    have key : ∀ (l : List Rw), (∀ r ∈ l, r ∈ vrows ps ms) → lcM (gN 5) tY (eCall g_found_move (aCons (eSh 0) (aCons (eSh 5) aNil))) [some (S.sh (eN ps ms)), some (S.sh (tupI m)), some (S.sh (eP (qs.map (·.1)))), none, none, none, none, none] (l.map fun r => D.str r.1) = some (l.map eRw) := by
      intro l
      induction l with
      | nil => intro _; rfl
      | cons r l ih =>
        intro hl
        rw [List.map_cons]
        unfold lcM
        have e1 : gN 5 (.str r.1) [some (S.sh (eN ps ms)), some (S.sh (tupI m)), some (S.sh (eP (qs.map (·.1)))), none, none, none, none, none] = some [some (S.sh (eN ps ms)), some (S.sh (tupI m)), some (S.sh (eP (qs.map (·.1)))), none, none, some (.sh (.str r.1)), none, none] := rfl
        have e2 : eCall g_found_move (aCons (eSh 0) (aCons (eSh 5) aNil)) [some (S.sh (eN ps ms)), some (S.sh (tupI m)), some (S.sh (eP (qs.map (·.1)))), none, none, some (.sh (.str r.1)), none, none] = some (eRw r) := by
          simp [eCall, aCons, aNil, eSh, found_eq h (hl r List.mem_cons_self)]
        rw [e1, Option.bind_some]
        simp only [tY, Option.bind_some, if_true, e2, ih (fun q hq => hl q (List.mem_cons_of_mem _ hq)), List.map_cons]
    simp only [eLc, wSeq, eSh, eP, List.getElem?_cons_zero, List.getElem?_cons_succ, Option.bind_some, List.map_map]
    have := key qs hq
    simp only [eP, List.map_map] at this
    have w : wipeE [some (S.sh (eN ps ms)), some (S.sh (tupI m)), some (S.sh (.tup (qs.map (D.str ∘ fun x => x.1)))), none, none, none, none, none] [5] = [some (S.sh (eN ps ms)), some (S.sh (tupI m)), some (S.sh (.tup (qs.map (D.str ∘ fun x => x.1)))), none, none, none, none, none] := rfl
    rw [w]
    rw [show (qs.map (D.str ∘ fun x => x.1)) = qs.map fun r => D.str r.1 from rfl] at this ⊢
    rw [this]
    rfl
  have loop := forM_ok (g := gN 4) (xs := (List.range qs.length).map fun (k : Nat) => D.int (k : Int)) (b := (sSeq (sAsg (gT [gN 5, gN 6, gN 7]) (e2 D.get (eVar 3) (eVar 4)))
  (sSeq (sIf (tNot (tE (eCall g_is_enough (aCons (eSh 1) (aCons (eSh 6) (aNil)))))) (sNever) (sNext))
  (sSet 1 (eCall g_moved (aCons (eSh 1) (aCons (eSh 6) (aCons (eSh 7) (aNil)))))))))
    (fun i ρ => ∃ (u : List Int) (x y z w : Option S), u.length = ps.length ∧ runR u (qs.drop i) = some m' ∧ ρ = [some (S.sh (eN ps ms)), some (S.sh (tupI u)), some (S.sh (eP (qs.map (·.1)))), some (.sh (eRs qs)), x, y, z, w]) ?_
    (ρ := [some (S.sh (eN ps ms)), some (S.sh (tupI m)), some (S.sh (eP (qs.map (·.1)))), some (.sh (eRs qs)), none, none, none, none]) ⟨m, none, none, none, none, hm.1, hr, rfl⟩
  · obtain ⟨ρ', h1, u, x, y, z, w, _, h2, rfl⟩ := loop
    rw [List.length_map, List.length_range, List.drop_length] at h2
    cases h2
    unfold g_run fnB b_run
    simp only [List.length_cons, List.length_nil, if_true, List.map_cons, List.map_nil, List.cons_append, List.nil_append, List.replicate]
    rw [seq_nx (ρ' := [some (S.sh (eN ps ms)), some (S.sh (tupI m)), some (S.sh (eP (qs.map (·.1)))), none, none, none, none, none]) (by simp [sDrop, eCall, aCons, aNil, eSh, check_mark_eq hm])]
    rw [seq_nx (ρ' := [some (S.sh (eN ps ms)), some (S.sh (tupI m)), some (S.sh (eP (qs.map (·.1)))), some (.sh (eRs qs)), none, none, none, none]) (by
      unfold sSet
      rw [hlc]
      rfl)]
    rw [seq_nx (for_nx (by
      simp only [wRange, e1, eVar, List.getElem?_cons_zero, List.getElem?_cons_succ, Option.bind_some, eRs, D.len, List.length_map]
      rw [if_pos (by omega)]
      rfl) h1)]
    rfl
  · rintro i d ρ hx ⟨u, x, y, z, w, hu, hru, rfl⟩
    rw [List.getElem?_map] at hx
    obtain ⟨k, hk, rfl⟩ := Option.map_eq_some_iff.mp hx
    obtain ⟨hi2, hk2⟩ := List.getElem?_eq_some_iff.mp hk
    rw [List.length_range] at hi2
    rw [List.getElem_range] at hk2
    subst hk2
    have hrk := hq qs[i] (List.getElem_mem hi2)
    obtain ⟨o1, o2⟩ := vrows_ok _ hrk
    have hd : qs.drop i = qs[i] :: qs.drop (i + 1) := List.drop_eq_getElem_cons hi2
    rw [hd] at hru
    have h8 := h.2.2.2.2.1
    generalize hr : qs[i] = r at *
    have gk : D.get (eRs qs) (.int (i : Int)) = some (eRw r) := get_lst (by rw [List.getElem?_map, List.getElem?_eq_getElem hi2, hr]; rfl)
    unfold runR at hru
    by_cases hv : venough u r.2.1 = true
    · rw [if_pos hv] at hru
      have q1 := is_enough_eq (m := u) (t := r.2.1) (by omega) (by omega)
      have q2 := moved_eq (m := u) (t := r.2.1) (g := r.2.2) (by omega) (by omega) (by omega)
      refine ⟨[some (S.sh (eN ps ms)), some (S.sh (tupI u)), some (S.sh (eP (qs.map (·.1)))), some (.sh (eRs qs)), some (.sh (.int (i : Int))), y, z, w], rfl, [some (S.sh (eN ps ms)), some (S.sh (tupI (vmove u r.2.1 r.2.2))), some (S.sh (eP (qs.map (·.1)))), some (.sh (eRs qs)), some (.sh (.int (i : Int))), some (.sh (.str r.1)), some (.sh (tupI r.2.1)), some (.sh (tupI r.2.2))], .inl ?_, vmove u r.2.1 r.2.2, _, _, _, _, by rw [vmove_length]; exact hu, hru, rfl⟩
      rw [seq_nx (ρ' := [some (S.sh (eN ps ms)), some (S.sh (tupI u)), some (S.sh (eP (qs.map (·.1)))), some (.sh (eRs qs)), some (.sh (.int (i : Int))), some (.sh (.str r.1)), some (.sh (tupI r.2.1)), some (.sh (tupI r.2.2))]) (by
        simp only [sAsg, e2, eVar, List.getElem?_cons_zero, List.getElem?_cons_succ, Option.bind_some, gk]
        rfl), seq_nx (ρ' := [some (S.sh (eN ps ms)), some (S.sh (tupI u)), some (S.sh (eP (qs.map (·.1)))), some (.sh (eRs qs)), some (.sh (.int (i : Int))), some (.sh (.str r.1)), some (.sh (tupI r.2.1)), some (.sh (tupI r.2.2))]) (by
        rw [ifF (by simp [tNot, tE, eCall, aCons, aNil, eSh, q1, hv])]
        rfl)]
      simp only [sSet, eCall, aCons, aNil, eSh, List.getElem?_cons_zero, List.getElem?_cons_succ, Option.bind_some, q2, List.set_cons_succ, List.set_cons_zero]
    · rw [if_neg hv] at hru; cases hru
end F15
end Vl
end
section
set_option Elab.async false
set_option linter.all false
set_option maxRecDepth 100000
/-! what the defs of k15 compute: way -/
namespace Vl
namespace F15
theorem whileM_q {t : FT} {b : FS} (I : Nat → En → Prop) (Q : En → Prop) (h : ∀ m ρ, I m ρ → (∃ m' ρ2, m = m' + 1 ∧ t ρ = some true ∧ b ρ = some (.nx ρ2) ∧ I m' ρ2) ∨ (t ρ = some false ∧ Q ρ)) : ∀ (n m : Nat) {ρ : En}, m < n → I m ρ → ∃ ρ', whileM t b n ρ = some (.nx ρ') ∧ Q ρ'
  | 0, _, _, hn, _ => absurd hn (Nat.not_lt_zero _)
  | n + 1, m, ρ, hn, hi => by
    unfold whileM
    rcases h m ρ hi with ⟨m', ρ2, e, h1, h2, h3⟩ | ⟨h1, h2⟩
    · subst e
      obtain ⟨ρ', h4, h5⟩ := whileM_q I Q h n m' (Nat.lt_of_succ_lt_succ hn) h3
      refine ⟨ρ', ?_, h5⟩
      rw [h1, Option.bind_some, if_pos rfl, h2, Option.bind_some]
      exact h4
    · refine ⟨ρ, ?_, h2⟩
      rw [h1, Option.bind_some, if_neg (by decide)]
theorem while_q {t : FT} {b : FS} (I : Nat → En → Prop) (Q : En → Prop) (h : ∀ m ρ, I m ρ → (∃ m' ρ2, m = m' + 1 ∧ t ρ = some true ∧ b ρ = some (.nx ρ2) ∧ I m' ρ2) ∨ (t ρ = some false ∧ Q ρ)) {m : Nat} {ρ : En} (hm : m < 1000000) (hi : I m ρ) : ∃ ρ', sWhile t b ρ = some (.nx ρ') ∧ Q ρ' := whileM_q I Q h fuel m hm hi
abbrev Bf := List (Option (Nat × Nm))
abbrev eBfs (bf : Bf) : D := .lst (bf.map eBf)
/-- where each mark came from -/
def Ch (rs : List Rw) (m0 : List Int) (ms : List (List Int)) (bf : Bf) : Prop := ms.length = bf.length ∧ ∀ i, i < ms.length → (ms.getD i [] = m0 ∧ bf.getD i none = none) ∨ ∃ j r, j < i ∧ r ∈ rs ∧ bf.getD i none = some (j, r.1) ∧ venough (ms.getD j []) r.2.1 = true ∧ ms.getD i [] = vmove (ms.getD j []) r.2.1 r.2.2
theorem word_eq {rs : List Rw} {m0 : List Int} {ms : List (List Int)} {bf : Bf} (hc : Ch rs m0 ms bf) (hl : ms.length < 1000) {i : Nat} (hi : i < ms.length) : ∃ qs : List Rw, (∀ r ∈ qs, r ∈ rs) ∧ qs.length < 1000 ∧ runR m0 qs = some (ms.getD i []) ∧ g_word_to [eBfs bf, .int i] = some (eP (qs.map (·.1))) := by
  have gb : ∀ j, j < ms.length → D.get (eBfs bf) (.int (j : Int)) = some (eBf (bf.getD j none)) := by
    intro j hj
    have hj' : j < bf.length := by rw [← hc.1]; exact hj
    exact get_lst (by rw [List.getElem?_map, List.getElem?_eq_getElem hj', List.getD_eq_getElem?_getD, List.getElem?_eq_getElem hj']; rfl)
  have wl := while_q (t := tE (e1 D.isntNon (e2 D.get (eVar 0) (eVar 1)))) (b := sSeq (sAsg (gT [gN 1, gN 3]) (e2 D.get (eVar 0) (eVar 1))) (sApp 2 (eSh 3)))
    (fun m ρ => ∃ (j : Nat) (qs : List Rw) (x : Option S), j ≤ m ∧ j < ms.length ∧ qs.length + j < 1000 ∧ (∀ r ∈ qs, r ∈ rs) ∧ runR (ms.getD j []) qs = some (ms.getD i []) ∧ ρ = [some (S.sh (eBfs bf)), some (S.sh (.int (j : Nat))), some (S.ow (.lst (qs.reverse.map fun r => D.str r.1))), x])
    (fun ρ => ∃ (qs : List Rw) (x y : Option S), qs.length < 1000 ∧ (∀ r ∈ qs, r ∈ rs) ∧ runR m0 qs = some (ms.getD i []) ∧ ρ = [some (S.sh (eBfs bf)), y, some (S.ow (.lst (qs.reverse.map fun r => D.str r.1))), x]) ?_ (m := i) (by omega)
    (ρ := [some (S.sh (eBfs bf)), some (S.sh (.int (i : Nat))), some (S.ow (.lst [])), none]) ⟨i, [], none, Nat.le_refl _, hi, by simp; omega, fun _ h => (nomatch h), rfl, rfl⟩
  · obtain ⟨ρ', h1, qs, x, y, h2, h3, h4, rfl⟩ := wl
    refine ⟨qs, h3, h2, h4, ?_⟩
    unfold g_word_to fnB b_word_to
    simp only [List.length_cons, List.length_nil, if_true, List.map_cons, List.map_nil, List.cons_append, List.nil_append, List.replicate]
    rw [seq_nx (ρ' := [some (S.sh (eBfs bf)), some (S.sh (.int (i : Nat))), some (S.ow (.lst [])), none]) (by simp [sOwn, eLst, aNil]), seq_nx h1]
    simp [sRet, e1, eVar, D.revTup, eP, List.map_reverse, Function.comp_def]
  · rintro m ρ ⟨j, qs, x, hjm, hj, hql, hq, hr, rfl⟩
    have g := gb j hj
    rcases hc.2 j hj with ⟨e1', e2'⟩ | ⟨j', r, hjj, hrm, hb, hv, hmv⟩
    · right
      refine ⟨?_, qs, x, _, by omega, hq, by rw [← e1']; exact hr, rfl⟩
      simp only [tE, e1, e2, eVar, List.getElem?_cons_zero, List.getElem?_cons_succ, Option.bind_some, g, e2', eBf, D.isntNon]
    · left
      obtain ⟨m', rfl⟩ : ∃ m', m = m' + 1 := ⟨m - 1, by omega⟩
      refine ⟨m', [some (S.sh (eBfs bf)), some (S.sh (.int (j' : Nat))), some (S.ow (.lst ((r :: qs).reverse.map fun r => D.str r.1))), some (.sh (.str r.1))], rfl, ?_, ?_, j', r :: qs, _, by omega, by omega, by rw [List.length_cons]; omega, ?_, ?_, rfl⟩
      · simp only [tE, e1, e2, eVar, List.getElem?_cons_zero, List.getElem?_cons_succ, Option.bind_some, g, hb, eBf, D.isntNon]
      · rw [seq_nx (ρ' := [some (S.sh (eBfs bf)), some (S.sh (.int (j' : Nat))), some (S.ow (.lst (qs.reverse.map fun r => D.str r.1))), some (.sh (.str r.1))]) (by
          simp only [sAsg, e2, eVar, List.getElem?_cons_zero, List.getElem?_cons_succ, Option.bind_some, g, hb, eBf]
          rfl)]
        have rm : room (qs.reverse.map fun r => D.str r.1).length = true := decide_eq_true (by simp; omega)
        simp only [sApp, eSh, List.getElem?_cons_zero, List.getElem?_cons_succ, Option.bind_some, rm, if_true]
        simp
      · intro q hq'
        rcases List.mem_cons.mp hq' with rfl | z
        · exact hrm
        · exact hq q z
      · unfold runR
        rw [if_pos hv, ← hmv]
        exact hr
/-- what holds while a way is looked for: R is what is reached -/
def WI (rs : List Rw) (m0 : List Int) (n : Nat) (R ms : List (List Int)) (bf : Bf) : Prop := okLen n ms ∧ ms.Nodup ∧ (∀ m ∈ ms, m ∈ R) ∧ Ch rs m0 ms bf ∧ m0 ∈ ms
def EW (N : D) (rs : List Rw) (m0 goal : List Int) (k : Nat) (ms : List (List Int)) (bf : Bf) (ρ : En) : Prop := ∃ (x y z w : Option S), ρ = [some (S.sh N), some (S.sh (tupI m0)), some (S.sh (tupI goal)), some (S.sh (.int 500)), some (S.sh (eRs rs)), some (S.ow (eMk ms)), some (S.ow (eBfs bf)), some (S.ow (eDi ms)), some (S.sh (.int (k : Int))), x, y, z, w]
def bW : FS := (sIf (tE (eCall g_is_enough (aCons (e2 D.get (eVar 5) (eVar 8)) (aCons (eSh 10) (aNil))))) (sSeq (sSet 12 (eCall g_moved (aCons (e2 D.get (eVar 5) (eVar 8)) (aCons (eSh 10) (aCons (eSh 11) (aNil))))))
  (sIf (tAnd (t2 (D.has true) (eVar 12) (eVar 7)) (t2 (D.has true) (eVar 2) (eVar 7))) (sSeq (sIf (t2 D.ge (e1 D.len (eVar 5)) (eVar 3)) (sNever) (sNext))
  (sSeq (sDput 7 (eSh 12) (e1 D.len (eVar 5)))
  (sSeq (sApp 5 (eSh 12))
  (sApp 6 (eTup (aCons (eSh 8) (aCons (eSh 9) (aNil)))))))) (sNext))) (sNext))
theorem nodup_sub_len : ∀ {a b : List (List Int)}, a.Nodup → (∀ m ∈ a, m ∈ b) → a.length ≤ b.length
  | [], _, _, _ => Nat.zero_le _
  | x :: a, b, nd, h => by
    rw [List.nodup_cons] at nd
    have hx : x ∈ b := h x List.mem_cons_self
    have := nodup_sub_len (a := a) (b := b.erase x) nd.2 fun m hm => (List.mem_erase_of_ne (fun e => nd.1 (by rw [← e]; exact hm))).mpr (h m (List.mem_cons_of_mem _ hm))
    rw [List.length_erase_of_mem hx] at this
    have : 0 < b.length := List.length_pos_of_mem hx
    rw [List.length_cons]
    omega
theorem find_isSome {ms : List (List Int)} {a : List Int} : (ms.findIdx? (· == a)).isSome = decide (a ∈ ms) := by
  rw [List.findIdx?_isSome, Bool.eq_iff_iff]
  simp
theorem getD_last {ms : List (List Int)} {a : List Int} : (ms ++ [a]).getD ms.length [] = a := by
  rw [List.getD_eq_getElem?_getD, List.getElem?_append_right (Nat.le_refl _)]
  simp
theorem bgetD_app {ms l : Bf} {k : Nat} (h : k < ms.length) : (ms ++ l).getD k none = ms.getD k none := by
  rw [List.getD_eq_getElem?_getD, List.getD_eq_getElem?_getD, List.getElem?_append_left h]
theorem bgetD_last {ms : Bf} {a : Option (Nat × Nm)} : (ms ++ [a]).getD ms.length none = a := by
  rw [List.getD_eq_getElem?_getD, List.getElem?_append_right (Nat.le_refl _)]
  simp
theorem bW_ok {N : D} {rs : List Rw} {m0 goal : List Int} {n k : Nat} {R ms : List (List Int)} {bf : Bf} {r : Rw} {ρ : En} (hR : R.length ≤ 30) (hRc : closedTo rs R.length R) (hrs : r ∈ rs) (hr : okRw n r) (hn : n < 100) (hk : k < ms.length) (hI : WI rs m0 n R ms bf) (hE : EW N rs m0 goal k ms bf ρ) :
    ∃ ρ1, gT [gN 9, gN 10, gN 11] (eRw r) ρ = some ρ1 ∧ ∃ ρ2 ms' bf', bW ρ1 = some (.nx ρ2) ∧ EW N rs m0 goal k ms' bf' ρ2 ∧ WI rs m0 n R ms' bf' ∧ (∃ l, ms' = ms ++ l) ∧ (goal ∈ ms' ∨ (venough (ms.getD k []) r.2.1 = true → vmove (ms.getD k []) r.2.1 r.2.2 ∈ ms')) := by
  obtain ⟨x, y, z, w, rfl⟩ := hE
  refine ⟨[some (S.sh N), some (S.sh (tupI m0)), some (S.sh (tupI goal)), some (S.sh (.int 500)), some (S.sh (eRs rs)), some (S.ow (eMk ms)), some (S.ow (eBfs bf)), some (S.ow (eDi ms)), some (S.sh (.int (k : Int))), some (.sh (.str r.1)), some (.sh (tupI r.2.1)), some (.sh (tupI r.2.2)), w], rfl, ?_⟩
  obtain ⟨i1, i2, i3, i4, i5⟩ := hI
  have hml : (ms.getD k []).length = n := i1 _ (getD_mem hk)
  have hlen := nodup_sub_len i2 i3
  have q0 := get_eMk hk
  have q1 := is_enough_eq (m := ms.getD k []) (t := r.2.1) (by rw [hml, hr.1]) (by omega)
  have q3 := moved_eq (m := ms.getD k []) (t := r.2.1) (g := r.2.2) (by rw [hml, hr.1]) (by rw [hml, hr.2]) (by omega)
  have tt : ∀ ρ : En, ρ = [some (S.sh N), some (S.sh (tupI m0)), some (S.sh (tupI goal)), some (S.sh (.int 500)), some (S.sh (eRs rs)), some (S.ow (eMk ms)), some (S.ow (eBfs bf)), some (S.ow (eDi ms)), some (S.sh (.int (k : Int))), some (.sh (.str r.1)), some (.sh (tupI r.2.1)), some (.sh (tupI r.2.2)), w] → (tE (eCall g_is_enough (aCons (e2 D.get (eVar 5) (eVar 8)) (aCons (eSh 10) (aNil))))) ρ = some (venough (ms.getD k []) r.2.1) := by
    rintro ρ rfl
    simp only [tE, eCall, aCons, aNil, e2, eSh, eVar, List.getElem?_cons_zero, List.getElem?_cons_succ, Option.bind_some, q0, q1]
  by_cases hv : venough (ms.getD k []) r.2.1 = true
  · generalize hnx : vmove (ms.getD k []) r.2.1 r.2.2 = nx at *
    have A1 : ∀ ρ : En, ρ = [some (S.sh N), some (S.sh (tupI m0)), some (S.sh (tupI goal)), some (S.sh (.int 500)), some (S.sh (eRs rs)), some (S.ow (eMk ms)), some (S.ow (eBfs bf)), some (S.ow (eDi ms)), some (S.sh (.int (k : Int))), some (.sh (.str r.1)), some (.sh (tupI r.2.1)), some (.sh (tupI r.2.2)), w] → sSet 12 (eCall g_moved (aCons (e2 D.get (eVar 5) (eVar 8)) (aCons (eSh 10) (aCons (eSh 11) (aNil))))) ρ = some (.nx [some (S.sh N), some (S.sh (tupI m0)), some (S.sh (tupI goal)), some (S.sh (.int 500)), some (S.sh (eRs rs)), some (S.ow (eMk ms)), some (S.ow (eBfs bf)), some (S.ow (eDi ms)), some (S.sh (.int (k : Int))), some (.sh (.str r.1)), some (.sh (tupI r.2.1)), some (.sh (tupI r.2.2)), some (.sh (tupI nx))]) := by
      rintro ρ rfl
      simp only [sSet, eCall, aCons, aNil, e2, eSh, eVar, List.getElem?_cons_zero, List.getElem?_cons_succ, Option.bind_some, q0, q3, List.set_cons_succ, List.set_cons_zero]
    have th := has_eDi (neg := true) (ms := ms) (a := nx)
    have tg := has_eDi (neg := true) (ms := ms) (a := goal)
    rw [find_isSome] at th tg
    have tt2 : ∀ ρ : En, ρ = [some (S.sh N), some (S.sh (tupI m0)), some (S.sh (tupI goal)), some (S.sh (.int 500)), some (S.sh (eRs rs)), some (S.ow (eMk ms)), some (S.ow (eBfs bf)), some (S.ow (eDi ms)), some (S.sh (.int (k : Int))), some (.sh (.str r.1)), some (.sh (tupI r.2.1)), some (.sh (tupI r.2.2)), some (.sh (tupI nx))] → (tAnd (t2 (D.has true) (eVar 12) (eVar 7)) (t2 (D.has true) (eVar 2) (eVar 7))) ρ = some (decide (nx ∉ ms ∧ goal ∉ ms)) := by
      rintro ρ rfl
      simp only [tAnd, t2, tE, e2, eVar, List.getElem?_cons_zero, List.getElem?_cons_succ, Option.bind_some, th, tg]
      by_cases a1 : nx ∈ ms <;> simp [a1]
    by_cases hc : nx ∉ ms ∧ goal ∉ ms
    · have rm1 : room ms.length = true := decide_eq_true (by omega)
      have hf : ms.findIdx? (· == nx) = none := by
        have := find_isSome (ms := ms) (a := nx)
        rw [decide_eq_false hc.1] at this
        simpa using this
      have hbl : bf.length = ms.length := i4.1.symm
      have hmR : nx ∈ R := by
        have hkR := i3 _ (getD_mem hk)
        obtain ⟨j, hj, ej⟩ := List.mem_iff_getElem.mp hkR
        have := hRc j hj r hrs
        rw [List.getD_eq_getElem?_getD, List.getElem?_eq_getElem hj, Option.getD_some, ej] at this
        rw [← hnx]
        exact this hv
      have nd' : (ms ++ [nx]).Nodup := by
        rw [List.nodup_append]
        refine ⟨i2, by simp, fun a ha b hb e => ?_⟩
        rw [List.mem_singleton] at hb
        exact hc.1 (by rw [← hb, ← e]; exact ha)
      have sub' : ∀ m ∈ ms ++ [nx], m ∈ R := fun m hm => by
        rcases List.mem_append.mp hm with q | q
        · exact i3 m q
        · rw [List.mem_singleton.mp q]; exact hmR
      have ge : D.ge (.int (ms.length : Int)) (.int 500) = some (.bl false) := by
        simp only [D.ge]
        rw [decide_eq_false (by omega)]
      refine ⟨_, ms ++ [nx], bf ++ [some (k, r.1)], ?_, ⟨some (.sh (.str r.1)), some (.sh (tupI r.2.1)), some (.sh (tupI r.2.2)), some (.sh (tupI nx)), rfl⟩, ⟨?_, nd', sub', ⟨by simp [hbl], ?_⟩, List.mem_append_left _ i5⟩, ⟨_, rfl⟩, .inr fun _ => by simp⟩
      · unfold bW
        rw [ifT (by rw [tt _ rfl, hv]), seq_nx (A1 _ rfl), ifT (by rw [tt2 _ rfl, decide_eq_true hc])]
        rw [seq_nx (ρ' := [some (S.sh N), some (S.sh (tupI m0)), some (S.sh (tupI goal)), some (S.sh (.int 500)), some (S.sh (eRs rs)), some (S.ow (eMk ms)), some (S.ow (eBfs bf)), some (S.ow (eDi ms)), some (S.sh (.int (k : Int))), some (.sh (.str r.1)), some (.sh (tupI r.2.1)), some (.sh (tupI r.2.2)), some (.sh (tupI nx))]) (by
          rw [ifF (by simp only [t2, tE, e2, e1, eVar, List.getElem?_cons_zero, List.getElem?_cons_succ, Option.bind_some, len_eMk, ge])]
          rfl)]
        rw [seq_nx (ρ' := [some (S.sh N), some (S.sh (tupI m0)), some (S.sh (tupI goal)), some (S.sh (.int 500)), some (S.sh (eRs rs)), some (S.ow (eMk ms)), some (S.ow (eBfs bf)), some (S.ow (eDi (ms ++ [nx]))), some (S.sh (.int (k : Int))), some (.sh (.str r.1)), some (.sh (tupI r.2.1)), some (.sh (tupI r.2.2)), some (.sh (tupI nx))]) (by
          simp only [sDput, e1, eSh, eVar, List.getElem?_cons_zero, List.getElem?_cons_succ, Option.bind_some, len_eMk, okKey_tupI, List.length_map, List.length_zipIdx, rm1, Bool.and_self, if_true, put_eDi hf, List.set_cons_succ, List.set_cons_zero])]
        simp only [sSeq, sApp, eTup, aCons, aNil, eSh, List.getElem?_cons_zero, List.getElem?_cons_succ, Option.bind_some, List.length_map, rm1, if_true, List.set_cons_succ, List.set_cons_zero, hbl]
        simp [eBf]
      · intro m hm
        rcases List.mem_append.mp hm with q | q
        · exact i1 m q
        · rw [List.mem_singleton.mp q, ← hnx, vmove_length]; exact hml
      · intro i hi
        rw [List.length_append, List.length_singleton] at hi
        by_cases hil : i = ms.length
        · subst hil
          right
          refine ⟨k, r, hk, hrs, ?_, ?_, ?_⟩
          · rw [← hbl]; exact bgetD_last
          · rw [getD_app hk]; exact hv
          · rw [getD_app hk, getD_last, hnx]
        · have hi' : i < ms.length := by omega
          rw [getD_app hi', bgetD_app (by omega)]
          rcases i4.2 i hi' with q | ⟨j, r', a1, a2, a3, a4, a5⟩
          · exact .inl q
          · refine .inr ⟨j, r', a1, a2, a3, ?_, ?_⟩
            · rw [getD_app (by omega)]; exact a4
            · rw [getD_app (by omega)]; exact a5
    · refine ⟨_, ms, bf, ?_, ⟨some (.sh (.str r.1)), some (.sh (tupI r.2.1)), some (.sh (tupI r.2.2)), some (.sh (tupI nx)), rfl⟩, ⟨i1, i2, i3, i4, i5⟩, ⟨[], by simp⟩, ?_⟩
      · unfold bW
        rw [ifT (by rw [tt _ rfl, hv]), seq_nx (A1 _ rfl), ifF (by rw [tt2 _ rfl, decide_eq_false hc])]
        rfl
      · by_cases a1 : goal ∈ ms
        · exact .inl a1
        · right
          intro _
          by_cases a2 : nx ∈ ms
          · exact a2
          · exact absurd ⟨a2, a1⟩ hc
  · refine ⟨_, ms, bf, ?_, ⟨some (.sh (.str r.1)), some (.sh (tupI r.2.1)), some (.sh (tupI r.2.2)), w, rfl⟩, ⟨i1, i2, i3, i4, i5⟩, ⟨[], by simp⟩, .inr fun h => absurd h hv⟩
    unfold bW
    rw [ifF (by rw [tt _ rfl, Bool.eq_false_iff.mpr hv])]
    rfl
end F15
end Vl
end
section
set_option Elab.async false
set_option linter.all false
set_option maxRecDepth 100000
/-! what the defs of k15 compute: way, the loops -/
namespace Vl
namespace F15
theorem for_way {N : D} {rs : List Rw} {m0 goal : List Int} {n k : Nat} {R : List (List Int)} (hR : R.length ≤ 30) (hRc : closedTo rs R.length R) (hn : n < 100) : ∀ {l : List Rw} {ms : List (List Int)} {bf : Bf} {ρ : En}, (∀ r ∈ l, r ∈ rs ∧ okRw n r) → k < ms.length → WI rs m0 n R ms bf → EW N rs m0 goal k ms bf ρ → ∃ ρ2 ms' bf', forM (gT [gN 9, gN 10, gN 11]) bW (l.map eRw) ρ = some (.nx ρ2) ∧ EW N rs m0 goal k ms' bf' ρ2 ∧ WI rs m0 n R ms' bf' ∧ (∃ l, ms' = ms ++ l) ∧ (goal ∈ ms' ∨ ∀ r ∈ l, venough (ms.getD k []) r.2.1 = true → vmove (ms.getD k []) r.2.1 r.2.2 ∈ ms')
  | [], ms, bf, ρ, _, hk, hI, hE => ⟨ρ, ms, bf, rfl, hE, hI, ⟨[], by simp⟩, .inr fun _ h => nomatch h⟩
  | r :: l, ms, bf, ρ, hr, hk, hI, hE => by
    obtain ⟨r1, r2⟩ := hr r List.mem_cons_self
    obtain ⟨ρ1, h1, ρ2, ms1, bf1, h2, h3, h4, ⟨l1, h5⟩, h6⟩ := bW_ok hR hRc r1 r2 hn hk hI hE
    obtain ⟨ρ3, ms2, bf2, g1, g2, g3, ⟨l2, g4⟩, g5⟩ := for_way (goal := goal) hR hRc hn (l := l) (fun q hq => hr q (List.mem_cons_of_mem _ hq)) (by rw [h5, List.length_append]; omega) h4 h3
    refine ⟨ρ3, ms2, bf2, ?_, g2, g3, ⟨l1 ++ l2, by rw [g4, h5, List.append_assoc]⟩, ?_⟩
    · rw [List.map_cons]
      unfold forM
      rw [h1, Option.bind_some, h2, Option.bind_some]
      exact g1
    · rcases g5 with g5 | g5
      · exact .inl g5
      · rcases h6 with h6 | h6
        · exact .inl (by rw [g4]; exact List.mem_append_left _ h6)
        · right
          intro q hq hv
          rcases List.mem_cons.mp hq with rfl | z
          · rw [g4]; exact List.mem_append_left _ (h6 hv)
          · have := g5 q z
            rw [h5, getD_app hk] at this
            exact this hv
theorem while_way {N : D} {rs : List Rw} {m0 goal : List Int} {n : Nat} {R : List (List Int)} (hr : ∀ r ∈ rs, okRw n r) (hn : n < 100) (hR : R.length ≤ 30) (hRc : closedTo rs R.length R) (hmin : ∀ C, okLen n C → m0 ∈ C → closedTo rs C.length C → ∀ m ∈ R, m ∈ C) (hg : goal ∈ R) {ρ : En} {ms : List (List Int)} {bf : Bf} (hI : WI rs m0 n R ms bf) (hE : EW N rs m0 goal 0 ms bf ρ) : ∃ ρ' k ms' bf', sWhile (tAnd (t2 D.lt (eVar 8) (e1 D.len (eVar 5))) (t2 (D.has true) (eVar 2) (eVar 7))) (sSeq (sFor (wSeq (eSh 4)) (gT [gN 9, gN 10, gN 11]) bW) (sAug 8 (eC (.int 1)))) ρ = some (.nx ρ') ∧ WI rs m0 n R ms' bf' ∧ EW N rs m0 goal k ms' bf' ρ' ∧ goal ∈ ms' := by
  have wl := while_q (t := tAnd (t2 D.lt (eVar 8) (e1 D.len (eVar 5))) (t2 (D.has true) (eVar 2) (eVar 7))) (b := sSeq (sFor (wSeq (eSh 4)) (gT [gN 9, gN 10, gN 11]) bW) (sAug 8 (eC (.int 1))))
    (fun m ρ => ∃ k ms bf, k + m = R.length ∧ k ≤ ms.length ∧ WI rs m0 n R ms bf ∧ EW N rs m0 goal k ms bf ρ ∧ (goal ∈ ms ∨ closedTo rs k ms))
    (fun ρ => ∃ k ms bf, WI rs m0 n R ms bf ∧ EW N rs m0 goal k ms bf ρ ∧ goal ∈ ms) ?_ (m := R.length) (by omega) (ρ := ρ) ⟨0, ms, bf, by omega, Nat.zero_le _, hI, hE, .inr fun i hi => by omega⟩
  · obtain ⟨ρ', h1, k, ms', bf', h2, h3, h4⟩ := wl
    exact ⟨ρ', k, ms', bf', h1, h2, h3, h4⟩
  · rintro m ρ ⟨k, ms, bf, hkm, hk, hI, hE, hc⟩
    have hlen := nodup_sub_len hI.2.1 hI.2.2.1
    have ht : (tAnd (t2 D.lt (eVar 8) (e1 D.len (eVar 5))) (t2 (D.has true) (eVar 2) (eVar 7))) ρ = some (decide (k < ms.length ∧ goal ∉ ms)) := by
      obtain ⟨x, y, z, w, rfl⟩ := hE
      have tg := has_eDi (neg := true) (ms := ms) (a := goal)
      rw [find_isSome] at tg
      simp only [tAnd, t2, tE, e2, e1, eVar, List.getElem?_cons_zero, List.getElem?_cons_succ, Option.bind_some, len_eMk, D.lt, tg]
      by_cases a1 : k < ms.length
      · simp [a1]
      · simp [a1]
    by_cases hb : k < ms.length ∧ goal ∉ ms
    · left
      obtain ⟨ρ2, ms1, bf1, f1, f2, f3, ⟨l1, f4⟩, f5⟩ := for_way (goal := goal) (k := k) hR hRc hn (l := rs) (fun r h => ⟨h, hr r h⟩) hb.1 hI hE
      have hw : wSeq (eSh 4) ρ = some (rs.map eRw) := by
        obtain ⟨x, y, z, w, rfl⟩ := hE
        simp [wSeq, eSh, eRs]
      obtain ⟨ρ3, g1, g2⟩ : ∃ ρ3, sAug 8 (eC (.int 1)) ρ2 = some (.nx ρ3) ∧ EW N rs m0 goal (k + 1) ms1 bf1 ρ3 := by
        obtain ⟨x, y, z, w, rfl⟩ := f2
        exact ⟨_, rfl, x, y, z, w, rfl⟩
      refine ⟨m - 1, ρ3, by omega, by rw [ht, decide_eq_true hb], by rw [seq_nx (for_nx hw f1)]; exact g1, k + 1, ms1, bf1, by omega, by rw [f4, List.length_append]; omega, f3, g2, ?_⟩
      rcases f5 with f5 | f5
      · exact .inl f5
      · right
        intro i hi r hrm hv
        rcases hc with hc | hc
        · exact absurd hc hb.2
        have eg : ms1.getD i [] = ms.getD i [] := by rw [f4]; exact getD_app (by omega)
        rw [eg] at hv ⊢
        by_cases hik : i = k
        · subst hik; exact f5 r hrm hv
        · rw [f4]; exact List.mem_append_left _ (hc i (by omega) r hrm hv)
    · right
      refine ⟨by rw [ht, decide_eq_false hb], k, ms, bf, hI, hE, ?_⟩
      rcases hc with hc | hc
      · exact hc
      · by_cases hgm : goal ∈ ms
        · exact hgm
        · have : ¬ k < ms.length := fun z => hb ⟨z, hgm⟩
          have hkl : k = ms.length := by omega
          rw [hkl] at hc
          exact hmin ms hI.1 hI.2.2.2.2 hc goal hg
theorem way_eq {ps : List Nm} {ms : List Mv} {m0 goal : List Int} {R : List (List Int)} (h : okNet ps ms) (hm : okM ps m0) (hgm : okM ps goal) (hR : R.length ≤ 30) (hRc : closedTo (vrows ps ms) R.length R) (hmin : ∀ C, okLen ps.length C → m0 ∈ C → closedTo (vrows ps ms) C.length C → ∀ m ∈ R, m ∈ C) (h0 : m0 ∈ R) (hg : goal ∈ R) : ∃ qs : List Rw, (∀ r ∈ qs, r ∈ vrows ps ms) ∧ qs.length < 1000 ∧ runR m0 qs = some goal ∧ g_way [eN ps ms, tupI m0, tupI goal, .int 500] = some (eP (qs.map (·.1))) := by
  obtain ⟨ρ', k, ms', bf', h1, h2, ⟨x, y, z, w, rfl⟩, h4⟩ := while_way (N := eN ps ms) (goal := goal) (rs := vrows ps ms) vrows_ok (by have := h.2.2.2.2.1; omega) hR hRc hmin hg (ms := [m0]) (bf := [none]) (ρ := [some (S.sh (eN ps ms)), some (S.sh (tupI m0)), some (S.sh (tupI goal)), some (S.sh (.int 500)), some (S.sh (eRs (vrows ps ms))), some (S.ow (eMk [m0])), some (S.ow (eBfs [none])), some (S.ow (eDi [m0])), some (S.sh (.int (0 : Nat))), none, none, none, none])
    ⟨by intro m hm'; rw [List.mem_singleton.mp hm']; exact hm.1, by simp, by intro m hm'; rw [List.mem_singleton.mp hm']; exact h0, ⟨rfl, fun i hi => by
      have : i = 0 := by simpa using hi
      subst this
      exact .inl ⟨rfl, rfl⟩⟩, by simp⟩ ⟨none, none, none, none, rfl⟩
  obtain ⟨j, hj, ej⟩ : ∃ j, ms'.findIdx? (· == goal) = some j ∧ ∃ hj : j < ms'.length, ms'[j] = goal := by
    have := find_isSome (ms := ms') (a := goal)
    rw [decide_eq_true h4, Option.isSome_iff_exists] at this
    obtain ⟨j, hj⟩ := this
    obtain ⟨a1, a2, _⟩ := List.findIdx?_eq_some_iff_getElem.mp hj
    exact ⟨j, hj, a1, beq_iff_eq.mp a2⟩
  obtain ⟨hjl, ej⟩ := ej
  have hlen := nodup_sub_len h2.2.1 h2.2.2.1
  obtain ⟨qs, w1, w2, w3, w4⟩ := word_eq h2.2.2.2.1 (by omega) hjl
  have eg : ms'.getD j [] = goal := by rw [List.getD_eq_getElem?_getD, List.getElem?_eq_getElem hjl]; exact ej
  rw [eg] at w3
  refine ⟨qs, w1, w2, w3, ?_⟩
  have gd := get_eDi (ms := ms') (a := goal)
  rw [hj, Option.map_some] at gd
  have tg := has_eDi (neg := true) (ms := ms') (a := goal)
  rw [hj] at tg
  unfold g_way fnB b_way
  simp only [List.length_cons, List.length_nil, if_true, List.map_cons, List.map_nil, List.cons_append, List.nil_append, List.replicate]
  rw [seq_nx (ρ' := [some (S.sh (eN ps ms)), some (S.sh (tupI m0)), some (S.sh (tupI goal)), some (S.sh (.int 500)), none, none, none, none, none, none, none, none, none]) (by simp [sDrop, eCall, aCons, aNil, eSh, check_mark_eq hm]),
    seq_nx (ρ' := [some (S.sh (eN ps ms)), some (S.sh (tupI m0)), some (S.sh (tupI goal)), some (S.sh (.int 500)), none, none, none, none, none, none, none, none, none]) (by simp [sDrop, eCall, aCons, aNil, eSh, check_mark_eq hgm]),
    seq_nx (ρ' := [some (S.sh (eN ps ms)), some (S.sh (tupI m0)), some (S.sh (tupI goal)), some (S.sh (.int 500)), some (S.sh (eRs (vrows ps ms))), none, none, none, none, none, none, none, none]) (by simp [sSet, eCall, aCons, aNil, eSh, rows_eq h]),
    seq_nx (ρ' := [some (S.sh (eN ps ms)), some (S.sh (tupI m0)), some (S.sh (tupI goal)), some (S.sh (.int 500)), some (S.sh (eRs (vrows ps ms))), some (S.ow (eMk [m0])), none, none, none, none, none, none, none]) (by simp [sOwn, eLst, aCons, aNil, eSh]),
    seq_nx (ρ' := [some (S.sh (eN ps ms)), some (S.sh (tupI m0)), some (S.sh (tupI goal)), some (S.sh (.int 500)), some (S.sh (eRs (vrows ps ms))), some (S.ow (eMk [m0])), some (S.ow (eBfs [none])), none, none, none, none, none, none]) (by simp [sOwn, eLst, aCons, aNil, eC, eBf]),
    seq_nx (ρ' := [some (S.sh (eN ps ms)), some (S.sh (tupI m0)), some (S.sh (tupI goal)), some (S.sh (.int 500)), some (S.sh (eRs (vrows ps ms))), some (S.ow (eMk [m0])), some (S.ow (eBfs [none])), some (S.ow (eDi [m0])), none, none, none, none, none]) (by simp [sOwn, eDic1, eSh, eC, okKey_tupI]),
    seq_nx (ρ' := [some (S.sh (eN ps ms)), some (S.sh (tupI m0)), some (S.sh (tupI goal)), some (S.sh (.int 500)), some (S.sh (eRs (vrows ps ms))), some (S.ow (eMk [m0])), some (S.ow (eBfs [none])), some (S.ow (eDi [m0])), some (S.sh (.int (0 : Nat))), none, none, none, none]) (by simp [sSet, eC])]
  unfold bW at h1
  rw [seq_nx h1]
  rw [seq_nx (ρ' := [some (S.sh (eN ps ms)), some (S.sh (tupI m0)), some (S.sh (tupI goal)), some (S.sh (.int 500)), some (S.sh (eRs (vrows ps ms))), some (S.ow (eMk ms')), some (S.ow (eBfs bf')), some (S.ow (eDi ms')), some (S.sh (.int (k : Int))), x, y, z, w]) (by
    rw [ifF]
    · rfl
    · simp only [t2, tE, e2, eVar, List.getElem?_cons_zero, List.getElem?_cons_succ, Option.bind_some, tg]
      rfl)]
  have w4' : g_word_to [.lst (bf'.map eBf), .int (j : Int)] = some (eP (qs.map (·.1))) := w4
  simp only [sFrz, frz, List.foldl, List.getElem?_cons_zero, List.getElem?_cons_succ, List.set_cons_succ, List.set_cons_zero, sRet, eCall, aCons, aNil, e2, eSh, eVar, Option.bind_some, gd, w4']
end F15
end Vl
end
section
set_option Elab.async false
set_option linter.all false
set_option maxRecDepth 100000
/-! least solutions: the mathematics (no program in sight) -/
namespace Vl
namespace F15
def sumN : Nat → (Nat → Int) → Int
  | 0, _ => 0
  | n + 1, f => sumN n f + f n
theorem sumN_congr : ∀ {n : Nat} {f g : Nat → Int}, (∀ i, i < n → f i = g i) → sumN n f = sumN n g
  | 0, _, _, _ => rfl
  | n + 1, f, g, h => by
    unfold sumN
    rw [sumN_congr fun i hi => h i (by omega), h n (by omega)]
theorem sumN_lin (a b : Int) : ∀ (n : Nat) (f g : Nat → Int), sumN n (fun i => a * f i + b * g i) = a * sumN n f + b * sumN n g
  | 0, _, _ => by simp [sumN]
  | n + 1, f, g => by
    show sumN n (fun i => a * f i + b * g i) + (a * f n + b * g n) = a * (sumN n f + f n) + b * (sumN n g + g n)
    rw [sumN_lin a b n f g, Int.mul_add, Int.mul_add]
    omega
theorem sumN_zero (n : Nat) : sumN n (fun _ => 0) = 0 := by
  induction n with
  | zero => rfl
  | succ n ih => unfold sumN; rw [ih]; rfl
abbrev g0 (l : List Int) (i : Nat) : Int := l.getD i 0
def vdot (V : List (List Int)) (w : List Int) (c : Nat) : Int := sumN V.length fun i => g0 w i * g0 (V.getD i []) c
theorem vdot_lin {V : List (List Int)} {z x y : List Int} {a b : Int} (h : ∀ i, g0 z i = a * g0 x i + b * g0 y i) (c : Nat) : vdot V z c = a * vdot V x c + b * vdot V y c := by
  unfold vdot
  rw [← sumN_lin]
  apply sumN_congr
  intro i _
  rw [h, Int.add_mul, Int.mul_assoc, Int.mul_assoc]
theorem vdot_scale {V : List (List Int)} {z x : List Int} {a : Int} (h : ∀ i, g0 z i = a * g0 x i) (c : Nat) : vdot V z c = a * vdot V x c := by
  have := vdot_lin (V := V) (z := z) (x := x) (y := x) (a := a) (b := 0) (fun i => by rw [h]; omega) c
  omega
/-! lists of numbers -/
theorem g0_ge {l : List Int} {i : Nat} (h : l.length ≤ i) : g0 l i = 0 := by
  unfold g0
  rw [List.getD_eq_getElem?_getD, List.getElem?_eq_none h]
  rfl
theorem g0_lt {l : List Int} {i : Nat} (h : g0 l i ≠ 0) : i < l.length := by
  by_cases hl : i < l.length
  · exact hl
  · exact absurd (g0_ge (by omega)) h
theorem g0_mem {l : List Int} {i : Nat} (h : i < l.length) : g0 l i ∈ l := by
  unfold g0
  rw [List.getD_eq_getElem?_getD, List.getElem?_eq_getElem h]
  exact List.getElem_mem h
theorem g0_ext {a b : List Int} (h1 : a.length = b.length) (h2 : ∀ i, g0 a i = g0 b i) : a = b := by
  apply List.ext_getElem h1
  intro k ha hb
  have := h2 k
  unfold g0 at this
  rw [List.getD_eq_getElem?_getD, List.getD_eq_getElem?_getD, List.getElem?_eq_getElem ha, List.getElem?_eq_getElem hb] at this
  exact this
def comb (N : Nat) (a : Int) (x : List Int) (b : Int) (y : List Int) : List Int := (List.range N).map fun i => a * g0 x i + b * g0 y i
theorem comb_length {N : Nat} {a b : Int} {x y : List Int} : (comb N a x b y).length = N := by simp [comb]
theorem g0_comb {N : Nat} {a b : Int} {x y : List Int} (hx : x.length = N) (hy : y.length = N) (i : Nat) : g0 (comb N a x b y) i = a * g0 x i + b * g0 y i := by
  by_cases h : i < N
  · unfold g0 comb
    rw [List.getD_eq_getElem?_getD, List.getElem?_map, List.getElem?_range h]
    rfl
  · rw [g0_ge (by rw [comb_length]; omega), g0_ge (l := x) (by omega), g0_ge (l := y) (by omega)]
    simp
def dv (l : List Int) (g : Int) : List Int := l.map (· / g)
theorem dv_length {l : List Int} {g : Int} : (dv l g).length = l.length := by simp [dv]
theorem g0_dv {l : List Int} {g : Int} (i : Nat) : g0 (dv l g) i = g0 l i / g := by
  unfold g0 dv
  rw [List.getD_eq_getElem?_getD, List.getD_eq_getElem?_getD, List.getElem?_map]
  cases l[i]? <;> simp
/-! gcd -/
def gcdF (g : Nat) (l : List Int) : Nat := l.foldl (fun g x => Nat.gcd g x.natAbs) g
def gcdL (l : List Int) : Nat := gcdF 0 l
theorem gcdF_dvd : ∀ {l : List Int} {g : Nat}, gcdF g l ∣ g ∧ ∀ x ∈ l, gcdF g l ∣ x.natAbs
  | [], g => ⟨Nat.dvd_refl _, fun _ h => nomatch h⟩
  | y :: l, g => by
    obtain ⟨h1, h2⟩ := gcdF_dvd (l := l) (g := Nat.gcd g y.natAbs)
    have e : gcdF g (y :: l) = gcdF (Nat.gcd g y.natAbs) l := rfl
    rw [e]
    refine ⟨Nat.dvd_trans h1 (Nat.gcd_dvd_left _ _), fun x hx => ?_⟩
    rcases List.mem_cons.mp hx with rfl | z
    · exact Nat.dvd_trans h1 (Nat.gcd_dvd_right _ _)
    · exact h2 x z
theorem dvd_gcdF {d p : Nat} : ∀ {l : List Int} {g : Nat}, d ∣ p * g → (∀ x ∈ l, d ∣ p * x.natAbs) → d ∣ p * gcdF g l
  | [], g, h, _ => h
  | y :: l, g, h, hl => by
    have e : gcdF g (y :: l) = gcdF (Nat.gcd g y.natAbs) l := rfl
    rw [e]
    apply dvd_gcdF
    · rw [← Nat.gcd_mul_left]
      exact Nat.dvd_gcd h (hl y List.mem_cons_self)
    · exact fun x hx => hl x (List.mem_cons_of_mem _ hx)
theorem gcdL_dvd {l : List Int} (i : Nat) : ((gcdL l : Nat) : Int) ∣ g0 l i := by
  by_cases h : i < l.length
  · exact Int.ofNat_dvd_left.mpr (gcdF_dvd.2 _ (g0_mem h))
  · rw [g0_ge (by omega)]; exact Int.dvd_zero _
theorem dvd_gcdL {d p : Nat} {l : List Int} (h : ∀ i, d ∣ p * (g0 l i).natAbs) : d ∣ p * gcdL l := by
  apply dvd_gcdF
  · exact Nat.dvd_zero d |> fun h => by simpa using h
  · intro x hx
    obtain ⟨i, hi, rfl⟩ := List.mem_iff_getElem.mp hx
    have := h i
    unfold g0 at this
    rw [List.getD_eq_getElem?_getD, List.getElem?_eq_getElem hi] at this
    exact this
def nz (x : List Int) : Prop := ∃ i, g0 x i ≠ 0
def sub (x y : List Int) : Prop := ∀ i, g0 x i ≠ 0 → g0 y i ≠ 0
theorem sub_trans {x y z : List Int} (h1 : sub x y) (h2 : sub y z) : sub x z := fun i hi => h2 i (h1 i hi)
theorem gcdL_pos {l : List Int} (h : nz l) : 0 < gcdL l := by
  obtain ⟨i, hi⟩ := h
  rcases Nat.eq_zero_or_pos (gcdL l) with z | z
  · have := gcdL_dvd (l := l) i
    rw [z] at this
    exact absurd (Int.zero_dvd.mp this) hi
  · exact z
theorem nz_of_gcd {l : List Int} (h : gcdL l = 1) : nz l := by
  apply Classical.byContradiction
  intro hn
  have h0 : ∀ i, g0 l i = 0 := fun i => Classical.byContradiction fun hi => hn ⟨i, hi⟩
  have := dvd_gcdL (d := 0) (p := 1) (l := l) fun i => by rw [h0]; simp
  rw [h] at this
  simp at this
theorem mul_dv {l : List Int} (i : Nat) : (gcdL l : Int) * g0 (dv l (gcdL l)) i = g0 l i := by
  rw [g0_dv]
  exact Int.mul_ediv_cancel' (gcdL_dvd i)
theorem gcd_dv {l : List Int} (h : nz l) : gcdL (dv l (gcdL l)) = 1 := by
  have hp := gcdL_pos h
  have : gcdL (dv l (gcdL l)) * gcdL l ∣ 1 * gcdL l := by
    apply dvd_gcdL
    intro i
    have h1 := gcdL_dvd (l := dv l (gcdL l)) i
    rw [Int.ofNat_dvd_left] at h1
    have h2 := mul_dv (l := l) i
    rw [← h2, Int.natAbs_mul, Int.natAbs_natCast, Nat.one_mul, Nat.mul_comm]
    exact Nat.mul_dvd_mul_left _ h1
  have := Nat.dvd_of_mul_dvd_mul_right hp this
  exact Nat.dvd_one.mp this
/-! counting -/
def cnt : Nat → (Nat → Bool) → Nat
  | 0, _ => 0
  | n + 1, p => cnt n p + if p n then 1 else 0
theorem cnt_le : ∀ {n : Nat} {p q : Nat → Bool}, (∀ i, p i = true → q i = true) → cnt n p ≤ cnt n q
  | 0, _, _, _ => Nat.le_refl _
  | n + 1, p, q, h => by
    have := cnt_le (n := n) h
    unfold cnt
    by_cases hp : p n = true
    · rw [if_pos hp, if_pos (h n hp)]; omega
    · rw [if_neg hp]; omega
theorem cnt_lt : ∀ {n : Nat} {p q : Nat → Bool} {k : Nat}, (∀ i, p i = true → q i = true) → k < n → p k = false → q k = true → cnt n p < cnt n q
  | 0, _, _, _, _, hk, _, _ => by omega
  | n + 1, p, q, k, h, hk, h1, h2 => by
    unfold cnt
    by_cases e : k = n
    · subst e
      rw [h1, h2]
      have := cnt_le (n := k) h
      simp
      omega
    · have := cnt_lt (n := n) h (by omega) h1 h2
      by_cases hp : p n = true
      · rw [if_pos hp, if_pos (h n hp)]; omega
      · rw [if_neg hp]; omega
def card (N : Nat) (x : List Int) : Nat := cnt N fun i => decide (g0 x i ≠ 0)
theorem card_le {N : Nat} {x y : List Int} (h : sub x y) : card N x ≤ card N y := cnt_le fun i hi => decide_eq_true (h i (of_decide_eq_true hi))
theorem card_lt {N : Nat} {x y : List Int} (h : sub x y) {k : Nat} (hy : y.length = N) (h1 : g0 x k = 0) (h2 : g0 y k ≠ 0) : card N x < card N y :=
  cnt_lt (k := k) (fun i hi => decide_eq_true (h i (of_decide_eq_true hi))) (by rw [← hy]; exact g0_lt h2) (decide_eq_false fun h => h h1) (decide_eq_true h2)
/-! the least ratio -/
theorem minratio {x r : Nat → Int} (hr : ∀ i, 0 ≤ r i) : ∀ {N : Nat}, (∃ i, i < N ∧ 0 < r i) → ∃ i0, i0 < N ∧ 0 < r i0 ∧ ∀ i, i < N → 0 < r i → x i0 * r i ≤ x i * r i0
  | 0, ⟨i, h, _⟩ => by omega
  | N + 1, ⟨i, hi, hri⟩ => by
    by_cases hex : ∃ i, i < N ∧ 0 < r i
    · obtain ⟨j, hj, hrj, hall⟩ := minratio (x := x) hr hex
      by_cases hN : 0 < r N
      · by_cases hc : x j * r N ≤ x N * r j
        · refine ⟨j, by omega, hrj, fun k hk hrk => ?_⟩
          by_cases e : k = N
          · subst e; exact hc
          · exact hall k (by omega) hrk
        · refine ⟨N, by omega, hN, fun k hk hrk => ?_⟩
          by_cases e : k = N
          · subst e; exact Int.le_refl _
          · have h1 := hall k (by omega) hrk
            have h2 : x N * r j ≤ x j * r N := by omega
            -- x N * r k ≤ x k * r N, times r j
            have h3 : (x N * r j) * r k ≤ (x j * r N) * r k := Int.mul_le_mul_of_nonneg_right h2 (hr k)
            have h4 : (x j * r k) * r N ≤ (x k * r j) * r N := Int.mul_le_mul_of_nonneg_right h1 (hr N)
            have h5 : (x N * r k) * r j ≤ (x k * r N) * r j := by
              have e1 : (x N * r k) * r j = (x N * r j) * r k := by rw [Int.mul_assoc, Int.mul_comm (r k), ← Int.mul_assoc]
              have e2 : (x k * r N) * r j = (x k * r j) * r N := by rw [Int.mul_assoc, Int.mul_comm (r N), ← Int.mul_assoc]
              have e3 : (x j * r N) * r k = (x j * r k) * r N := by rw [Int.mul_assoc, Int.mul_comm (r N), ← Int.mul_assoc]
              omega
            exact Int.le_of_mul_le_mul_right h5 hrj
      · refine ⟨j, by omega, hrj, fun k hk hrk => ?_⟩
        by_cases e : k = N
        · subst e; exact absurd hrk hN
        · exact hall k (by omega) hrk
    · have e : i = N := by
        apply Classical.byContradiction
        intro hne
        exact hex ⟨i, by omega, hri⟩
      subst e
      refine ⟨i, by omega, hri, fun k hk hrk => ?_⟩
      by_cases e : k = i
      · subst e; exact Int.le_refl _
      · exact absurd ⟨k, by omega, hrk⟩ hex
/-! cones -/
def Cone (V : List (List Int)) (k : Nat) (x : List Int) : Prop := x.length = V.length ∧ (∀ i, 0 ≤ g0 x i) ∧ ∀ c, c < k → vdot V x c = 0
theorem Cone.mono {V : List (List Int)} {k : Nat} {x : List Int} (h : Cone V (k + 1) x) : Cone V k x := ⟨h.1, h.2.1, fun c hc => h.2.2 c (by omega)⟩
/-- x less as much of r as goes -/
theorem less {V : List (List Int)} {k : Nat} {x r : List Int} (hx : Cone V k x) (hr : Cone V k r) (hn : nz r) (hs : sub r x) : ∃ (z : List Int) (i0 : Nat), 0 < g0 r i0 ∧ 0 < g0 x i0 ∧ Cone V k z ∧ sub z x ∧ g0 z i0 = 0 ∧ (∀ i, g0 z i = g0 r i0 * g0 x i + (-g0 x i0) * g0 r i) ∧ card V.length z < card V.length x ∧ ∀ c, vdot V z c = g0 r i0 * vdot V x c + (-g0 x i0) * vdot V r c := by
  obtain ⟨j, hj⟩ := hn
  have hj2 : j < V.length := by rw [← hr.1]; exact g0_lt hj
  obtain ⟨i0, hi0, hr0, hall⟩ := minratio (x := g0 x) (r := g0 r) hr.2.1 (N := V.length) ⟨j, hj2, by have := hr.2.1 j; omega⟩
  have hx0 : 0 < g0 x i0 := by have h1 := hs i0 (by omega); have := hx.2.1 i0; omega
  have hz := g0_comb (a := g0 r i0) (b := -g0 x i0) hx.1 hr.1
  refine ⟨comb V.length (g0 r i0) x (-g0 x i0) r, i0, hr0, hx0, ⟨comb_length, fun i => ?_, fun c hc => ?_⟩, ?_, ?_, hz, ?_, fun c => vdot_lin hz c⟩
  · rw [hz]
    by_cases hi : i < V.length
    · by_cases hri : 0 < g0 r i
      · have := hall i hi hri
        rw [Int.neg_mul, Int.mul_comm (g0 r i0)]
        omega
      · have h0 : g0 r i = 0 := by have := hr.2.1 i; omega
        rw [h0, Int.mul_zero, Int.add_zero]
        exact Int.mul_nonneg (by omega) (hx.2.1 i)
    · rw [g0_ge (l := x) (i := i) (by rw [hx.1]; omega), g0_ge (l := r) (i := i) (by rw [hr.1]; omega)]
      simp
  · rw [vdot_lin hz, hx.2.2 c hc, hr.2.2 c hc]
    simp
  · intro i hi hxi
    rw [hz, hxi] at hi
    have : g0 r i = 0 := Classical.byContradiction fun h => hs i h hxi
    rw [this] at hi
    simp at hi
  · rw [hz, Int.neg_mul, Int.mul_comm]
    omega
  · apply card_lt (k := i0) ?_ hx.1 ?_ (by omega)
    · intro i hi hxi
      rw [hz, hxi] at hi
      have : g0 r i = 0 := Classical.byContradiction fun h => hs i h hxi
      rw [this] at hi
      simp at hi
    · rw [hz, Int.neg_mul, Int.mul_comm]
      omega
/-- two of equal least support are equal -/
theorem uniq {V : List (List Int)} {k : Nat} {w r : List Int} (hw : Cone V k w) (hr : Cone V k r) (g1 : gcdL w = 1) (g2 : gcdL r = 1) (hmin : ∀ x, Cone V k x → nz x → sub x w → sub w x) (hs : sub r w) : r = w := by
  obtain ⟨z, i0, a1, a2, a3, a4, a5, a6, _, _⟩ := less hw hr (nz_of_gcd g2) hs
  have hz : ∀ i, g0 z i = 0 := by
    intro i
    apply Classical.byContradiction
    intro hi
    exact hmin z a3 ⟨i, hi⟩ a4 i0 (by omega) a5
  have he : ∀ i, g0 r i0 * g0 w i = g0 w i0 * g0 r i := by
    intro i
    have := a6 i
    rw [hz, Int.neg_mul] at this
    omega
  have hn : ∀ i, (g0 r i0).natAbs * (g0 w i).natAbs = (g0 w i0).natAbs * (g0 r i).natAbs := by
    intro i
    rw [← Int.natAbs_mul, ← Int.natAbs_mul, he]
  have d1 : (g0 w i0).natAbs ∣ (g0 r i0).natAbs * gcdL w := dvd_gcdL fun i => by rw [hn]; exact Nat.dvd_mul_right _ _
  have d2 : (g0 r i0).natAbs ∣ (g0 w i0).natAbs * gcdL r := dvd_gcdL fun i => by rw [← hn]; exact Nat.dvd_mul_right _ _
  rw [g1, Nat.mul_one] at d1
  rw [g2, Nat.mul_one] at d2
  have e := Nat.dvd_antisymm d1 d2
  have e2 : g0 w i0 = g0 r i0 := by omega
  apply g0_ext
  · rw [hw.1, hr.1]
  · intro i
    have := he i
    rw [e2] at this
    exact (Int.eq_of_mul_eq_mul_left (by omega) this).symm
/-! the stages -/
abbrev LR := List Int × List Int
def Compl (V : List (List Int)) (k : Nat) (rows : List LR) : Prop := ∀ x, Cone V k x → nz x → ∃ r ∈ rows, sub r.1 x
/-- a row -/
structure OkR (V : List (List Int)) (n k : Nat) (r : LR) : Prop where
  lw : r.1.length = V.length
  ls : r.2.length = n
  nn : ∀ i, 0 ≤ g0 r.1 i
  dt : ∀ c, c < n → g0 r.2 c = vdot V r.1 c
  gc : gcdL r.1 = 1
  zr : ∀ c, c < k → g0 r.2 c = 0
theorem OkR.cone {V : List (List Int)} {n k : Nat} {r : LR} (h : OkR V n k r) (hk : k ≤ n) : Cone V k r.1 := ⟨h.lw, h.nn, fun c hc => by rw [← h.dt c (by omega)]; exact h.zr c hc⟩
/-- one of each sign -/
theorem signed {V : List (List Int)} {n k : Nat} {rows : List LR} (hk : k < n) (hc : Compl V k rows) (ho : ∀ r ∈ rows, OkR V n k r) (σ : Int) : ∀ (N : Nat) (x : List Int), card V.length x < N → Cone V k x → vdot V x k * σ < 0 → ∃ r ∈ rows, sub r.1 x ∧ g0 r.2 k * σ < 0
  | 0, _, h, _, _ => by omega
  | N + 1, x, h, hx, hd => by
    have hn : nz x := by
      apply Classical.byContradiction
      intro hn
      have h0 : ∀ i, g0 x i = 0 := fun i => Classical.byContradiction fun hi => hn ⟨i, hi⟩
      have := vdot_scale (V := V) (z := x) (x := x) (a := 0) (fun i => by rw [h0]; simp) k
      rw [this] at hd
      simp at hd
    obtain ⟨r, hr, hs⟩ := hc x hx hn
    by_cases hneg : g0 r.2 k * σ < 0
    · exact ⟨r, hr, hs, hneg⟩
    · have o := ho r hr
      obtain ⟨z, i0, a1, a2, a3, a4, a5, a6, a7, a8⟩ := less hx (o.cone (by omega)) (nz_of_gcd o.gc) hs
      have hd2 : vdot V z k * σ < 0 := by
        rw [a8 k, ← o.dt k hk, Int.add_mul, Int.mul_assoc, Int.mul_assoc]
        have p1 : g0 r.1 i0 * (vdot V x k * σ) < 0 := Int.mul_neg_of_pos_of_neg a1 hd
        have p2 : 0 ≤ g0 x i0 * (g0 r.2 k * σ) := Int.mul_nonneg (by omega) (by omega)
        rw [Int.neg_mul]
        omega
      obtain ⟨r', b1, b2, b3⟩ := signed hk hc ho σ N z (by omega) a3 hd2
      exact ⟨r', b1, sub_trans b2 a4, b3⟩
def join (N n : Nat) (c : Nat) (f s : LR) : LR :=
  let w := comb N (-g0 s.2 c) f.1 (g0 f.2 c) s.1
  let t := comb n (-g0 s.2 c) f.2 (g0 f.2 c) s.2
  (dv w (gcdL w), dv t (gcdL w))
theorem join_ok {V : List (List Int)} {n k : Nat} {f s : LR} (hf : OkR V n k f) (hs : OkR V n k s) (hk : k < n) (h1 : 0 < g0 f.2 k) (h2 : g0 s.2 k < 0) : OkR V n (k + 1) (join V.length n k f s) ∧ (∀ x, sub f.1 x → sub s.1 x → sub (join V.length n k f s).1 x) ∧ nz (comb V.length (-g0 s.2 k) f.1 (g0 f.2 k) s.1) := by
  have hw := g0_comb (a := -g0 s.2 k) (b := g0 f.2 k) hf.lw hs.lw
  have ht := g0_comb (a := -g0 s.2 k) (b := g0 f.2 k) hf.ls hs.ls
  have nw : nz (comb V.length (-g0 s.2 k) f.1 (g0 f.2 k) s.1) := by
    obtain ⟨i, hi⟩ := nz_of_gcd hf.gc
    refine ⟨i, ?_⟩
    rw [hw]
    have p1 : 0 < -g0 s.2 k * g0 f.1 i := Int.mul_pos (by omega) (by have := hf.nn i; omega)
    have p2 : 0 ≤ g0 f.2 k * g0 s.1 i := Int.mul_nonneg (by omega) (hs.nn i)
    omega
  have gp := gcdL_pos nw
  have nnw : ∀ i, 0 ≤ g0 (comb V.length (-g0 s.2 k) f.1 (g0 f.2 k) s.1) i := by
    intro i
    rw [hw]
    have p1 : 0 ≤ -g0 s.2 k * g0 f.1 i := Int.mul_nonneg (by omega) (hf.nn i)
    have p2 : 0 ≤ g0 f.2 k * g0 s.1 i := Int.mul_nonneg (by omega) (hs.nn i)
    omega
  have tdot : ∀ c, c < n → g0 (comb n (-g0 s.2 k) f.2 (g0 f.2 k) s.2) c = vdot V (comb V.length (-g0 s.2 k) f.1 (g0 f.2 k) s.1) c := by
    intro c hc
    rw [ht, vdot_lin hw, hf.dt c hc, hs.dt c hc]
  have tk : g0 (comb n (-g0 s.2 k) f.2 (g0 f.2 k) s.2) k = 0 := by
    rw [ht, Int.neg_mul, Int.mul_comm (g0 s.2 k)]
    omega
  have tz : ∀ c, c < k + 1 → g0 (comb n (-g0 s.2 k) f.2 (g0 f.2 k) s.2) c = 0 := by
    intro c hc
    by_cases e : c = k
    · subst e; exact tk
    · rw [ht, hf.zr c (by omega), hs.zr c (by omega)]; simp
  have ws : ∀ x, sub f.1 x → sub s.1 x → sub (comb V.length (-g0 s.2 k) f.1 (g0 f.2 k) s.1) x := by
    intro x a1 a2 i hi
    rw [hw] at hi
    by_cases e1 : g0 f.1 i = 0
    · by_cases e2 : g0 s.1 i = 0
      · rw [e1, e2] at hi; simp at hi
      · exact a2 i e2
    · exact a1 i e1
  have wl : (comb V.length (-g0 s.2 k) f.1 (g0 f.2 k) s.1).length = V.length := comb_length
  have tl : (comb n (-g0 s.2 k) f.2 (g0 f.2 k) s.2).length = n := comb_length
  unfold join
  generalize comb V.length (-g0 s.2 k) f.1 (g0 f.2 k) s.1 = w at *
  generalize comb n (-g0 s.2 k) f.2 (g0 f.2 k) s.2 = t at *
  have dvt : ∀ c, c < n → g0 t c = (gcdL w : Int) * vdot V (dv w (gcdL w)) c := by
    intro c hc
    rw [tdot c hc]
    exact vdot_scale (fun i => (mul_dv i).symm) c
  refine ⟨⟨?_, ?_, ?_, ?_, gcd_dv nw, ?_⟩, ?_, nw⟩
  · rw [dv_length]; exact wl
  · rw [dv_length]; exact tl
  · intro i
    rw [g0_dv]
    exact Int.ediv_nonneg (nnw i) (by omega)
  · intro c hc
    rw [g0_dv, dvt c hc]
    exact Int.mul_ediv_cancel_left _ (by omega)
  · intro c hc
    rw [g0_dv, tz c hc]
    simp
  · intro x a1 a2 i hi
    apply ws x a1 a2 i
    intro h0
    rw [g0_dv, h0] at hi
    simp at hi
def kept (N n c : Nat) (rows : List LR) : List LR := rows.filter (fun r => decide (g0 r.2 c = 0)) ++ rows.flatMap fun f => rows.flatMap fun s => if 0 < g0 f.2 c ∧ g0 s.2 c < 0 then [join N n c f s] else []
theorem mem_kept {N n c : Nat} {rows : List LR} {r : LR} : r ∈ kept N n c rows ↔ (r ∈ rows ∧ g0 r.2 c = 0) ∨ ∃ f ∈ rows, ∃ s ∈ rows, 0 < g0 f.2 c ∧ g0 s.2 c < 0 ∧ r = join N n c f s := by
  unfold kept
  rw [List.mem_append, List.mem_filter, List.mem_flatMap]
  constructor
  · rintro (⟨h1, h2⟩ | ⟨f, hf, h⟩)
    · exact .inl ⟨h1, of_decide_eq_true h2⟩
    · obtain ⟨s, hs, h⟩ := List.mem_flatMap.mp h
      by_cases hc : 0 < g0 f.2 c ∧ g0 s.2 c < 0
      · rw [if_pos hc] at h
        exact .inr ⟨f, hf, s, hs, hc.1, hc.2, List.mem_singleton.mp h⟩
      · rw [if_neg hc] at h; nomatch h
  · rintro (⟨h1, h2⟩ | ⟨f, hf, s, hs, h1, h2, rfl⟩)
    · exact .inl ⟨h1, decide_eq_true h2⟩
    · refine .inr ⟨f, hf, List.mem_flatMap.mpr ⟨s, hs, ?_⟩⟩
      rw [if_pos ⟨h1, h2⟩]
      exact List.mem_singleton.mpr rfl
theorem kept_ok {V : List (List Int)} {n k : Nat} {rows : List LR} (hk : k < n) (ho : ∀ r ∈ rows, OkR V n k r) : ∀ r ∈ kept V.length n k rows, OkR V n (k + 1) r := by
  intro r hr
  rcases mem_kept.mp hr with ⟨h1, h2⟩ | ⟨f, hf, s, hs, h1, h2, rfl⟩
  · have o := ho r h1
    refine ⟨o.lw, o.ls, o.nn, o.dt, o.gc, fun c hc => ?_⟩
    by_cases e : c = k
    · subst e; exact h2
    · exact o.zr c (by omega)
  · exact (join_ok (ho f hf) (ho s hs) hk h1 h2).1
theorem kept_compl {V : List (List Int)} {n k : Nat} {rows : List LR} (hk : k < n) (hc : Compl V k rows) (ho : ∀ r ∈ rows, OkR V n k r) : Compl V (k + 1) (kept V.length n k rows) := by
  intro x hx hn
  obtain ⟨r, hr, hs⟩ := hc x hx.mono hn
  have o := ho r hr
  by_cases h0 : g0 r.2 k = 0
  · exact ⟨r, mem_kept.mpr (.inl ⟨hr, h0⟩), hs⟩
  · obtain ⟨z, i0, a1, a2, a3, a4, a5, a6, a7, a8⟩ := less hx.mono (o.cone (by omega)) (nz_of_gcd o.gc) hs
    have hz := a8 k
    rw [hx.2.2 k (by omega), ← o.dt k hk, Int.mul_zero, Int.zero_add, Int.neg_mul] at hz
    by_cases hp : 0 < g0 r.2 k
    · have p1 : 0 < g0 x i0 * g0 r.2 k := Int.mul_pos a2 hp
      obtain ⟨s, hsr, b1, b2⟩ := signed hk hc ho 1 _ z (Nat.lt_succ_self _) a3 (by omega)
      have j := join_ok o (ho s hsr) hk hp (by omega)
      exact ⟨_, mem_kept.mpr (.inr ⟨r, hr, s, hsr, hp, by omega, rfl⟩), j.2.1 x hs (sub_trans b1 a4)⟩
    · have p1 : 0 < g0 x i0 * (- g0 r.2 k) := Int.mul_pos a2 (by omega)
      rw [Int.mul_neg] at p1
      obtain ⟨f, hfr, b1, b2⟩ := signed hk hc ho (-1) _ z (Nat.lt_succ_self _) a3 (by omega)
      have j := join_ok (ho f hfr) o hk (by omega) (by omega)
      exact ⟨_, mem_kept.mpr (.inr ⟨f, hfr, r, hr, by omega, by omega, rfl⟩), j.2.1 x (sub_trans b1 a4) hs⟩
/-! the least rows -/
def hw (a b : List Int) : Bool := (List.range a.length).all fun i => decide (g0 a i = 0) || decide (0 < g0 b i)
theorem hw_sub {a b : List Int} (hb : ∀ i, 0 ≤ g0 b i) : hw a b = true ↔ sub a b := by
  unfold hw
  rw [List.all_eq_true]
  constructor
  · intro h i hi
    have := h i (List.mem_range.mpr (g0_lt hi))
    rw [Bool.or_eq_true] at this
    rcases this with z | z
    · exact absurd (of_decide_eq_true z) hi
    · have := of_decide_eq_true z; omega
  · intro h i _
    rw [Bool.or_eq_true]
    by_cases e : g0 a i = 0
    · exact .inl (decide_eq_true e)
    · have h1 := h i e
      have h2 := hb i
      exact .inr (decide_eq_true (by omega))
abbrev gr (rows : List LR) (i : Nat) : LR := rows.getD i ([], [])
def keepI (rows : List LR) (i : Nat) : Bool := (List.range rows.length).all fun j => !(decide (j ≠ i) && hw (gr rows j).1 (gr rows i).1 && (!hw (gr rows i).1 (gr rows j).1 || decide (j < i)))
def least (rows : List LR) : List LR := ((List.range rows.length).filter (keepI rows)).map (gr rows)
theorem gr_mem {rows : List LR} {i : Nat} (h : i < rows.length) : gr rows i ∈ rows := by
  unfold gr
  rw [List.getD_eq_getElem?_getD, List.getElem?_eq_getElem h]
  exact List.getElem_mem h
theorem mem_gr {rows : List LR} {r : LR} (h : r ∈ rows) : ∃ i, i < rows.length ∧ gr rows i = r := by
  obtain ⟨i, hi, rfl⟩ := List.mem_iff_getElem.mp h
  exact ⟨i, hi, by unfold gr; rw [List.getD_eq_getElem?_getD, List.getElem?_eq_getElem hi]; rfl⟩
theorem mem_least {rows : List LR} {r : LR} : r ∈ least rows ↔ ∃ i, i < rows.length ∧ keepI rows i = true ∧ gr rows i = r := by
  unfold least
  rw [List.mem_map]
  constructor
  · rintro ⟨i, hi, rfl⟩
    obtain ⟨h1, h2⟩ := List.mem_filter.mp hi
    exact ⟨i, List.mem_range.mp h1, h2, rfl⟩
  · rintro ⟨i, h1, h2, rfl⟩
    exact ⟨i, List.mem_filter.mpr ⟨List.mem_range.mpr h1, h2⟩, rfl⟩
theorem least_mem {rows : List LR} {r : LR} (h : r ∈ least rows) : r ∈ rows := by
  obtain ⟨i, h1, _, rfl⟩ := mem_least.mp h
  exact gr_mem h1
theorem keepI_no {rows : List LR} {i : Nat} (h : keepI rows i = false) : ∃ j, j < rows.length ∧ j ≠ i ∧ hw (gr rows j).1 (gr rows i).1 = true ∧ (hw (gr rows i).1 (gr rows j).1 = false ∨ j < i) := by
  unfold keepI at h
  rw [List.all_eq_false] at h
  obtain ⟨j, hj, hh⟩ := h
  rw [Bool.not_eq_true, Bool.not_eq_false', Bool.and_eq_true, Bool.and_eq_true, Bool.or_eq_true] at hh
  refine ⟨j, List.mem_range.mp hj, of_decide_eq_true hh.1.1, hh.1.2, ?_⟩
  rcases hh.2 with z | z
  · exact .inl (by simpa using z)
  · exact .inr (of_decide_eq_true z)
theorem keepI_yes {rows : List LR} {i : Nat} (h : keepI rows i = true) {j : Nat} (hj : j < rows.length) (hne : j ≠ i) (hh : hw (gr rows j).1 (gr rows i).1 = true) : hw (gr rows i).1 (gr rows j).1 = true ∧ ¬ j < i := by
  unfold keepI at h
  rw [List.all_eq_true] at h
  have := h j (List.mem_range.mpr hj)
  rw [decide_eq_true hne, hh] at this
  simp only [Bool.true_and, Bool.not_eq_true', Bool.or_eq_false_iff, Bool.not_eq_false', decide_eq_false_iff_not] at this
  exact this
theorem least_below {V : List (List Int)} {n k : Nat} {rows : List LR} (ho : ∀ r ∈ rows, OkR V n k r) : ∀ (μ i : Nat), i < rows.length → card V.length (gr rows i).1 * (rows.length + 1) + i < μ → ∃ r ∈ least rows, sub r.1 (gr rows i).1
  | 0, _, _, h => by omega
  | μ + 1, i, hi, h => by
    cases hk : keepI rows i with
    | true => exact ⟨_, mem_least.mpr ⟨i, hi, hk, rfl⟩, fun _ h => h⟩
    | false =>
      obtain ⟨j, hj, hne, hs, hc⟩ := keepI_no hk
      have oi := ho _ (gr_mem hi)
      have oj := ho _ (gr_mem hj)
      have s1 := (hw_sub oi.nn).mp hs
      have cl := card_le (N := V.length) s1
      have : card V.length (gr rows j).1 * (rows.length + 1) + j < card V.length (gr rows i).1 * (rows.length + 1) + i := by
        rcases hc with hc | hc
        · have ns : ¬ sub (gr rows i).1 (gr rows j).1 := fun z => by
            rw [(hw_sub oj.nn).mpr z] at hc; cases hc
          have : ∃ p, g0 (gr rows i).1 p ≠ 0 ∧ g0 (gr rows j).1 p = 0 := by
            apply Classical.byContradiction
            intro hh
            exact ns fun p hp => fun z => hh ⟨p, hp, z⟩
          obtain ⟨p, hp1, hp2⟩ := this
          have cl2 := card_lt (N := V.length) s1 oi.lw hp2 hp1
          have := Nat.mul_le_mul_right (rows.length + 1) (show card V.length (gr rows j).1 + 1 ≤ card V.length (gr rows i).1 by omega)
          rw [Nat.add_mul] at this
          omega
        · have := Nat.mul_le_mul_right (rows.length + 1) cl
          omega
      obtain ⟨r, hr, s2⟩ := least_below ho μ j hj (by omega)
      exact ⟨r, hr, sub_trans s2 s1⟩
theorem least_compl {V : List (List Int)} {n k : Nat} {rows : List LR} (ho : ∀ r ∈ rows, OkR V n k r) (hc : Compl V k rows) : Compl V k (least rows) := by
  intro x hx hn
  obtain ⟨r, hr, hs⟩ := hc x hx hn
  obtain ⟨i, hi, rfl⟩ := mem_gr hr
  obtain ⟨r', hr', hs'⟩ := least_below ho _ i hi (Nat.lt_succ_self _)
  exact ⟨r', hr', sub_trans hs' hs⟩
theorem least_nodup {V : List (List Int)} {n k : Nat} {rows : List LR} (ho : ∀ r ∈ rows, OkR V n k r) : ((least rows).map (·.1)).Nodup := by
  unfold least
  rw [List.map_map, List.nodup_iff_pairwise_ne, List.pairwise_map]
  have pw : ((List.range rows.length).filter (keepI rows)).Pairwise (· < ·) := List.Pairwise.filter _ List.pairwise_lt_range
  apply List.Pairwise.imp_of_mem ?_ pw
  intro i j hi hj hlt e
  obtain ⟨hi1, hi2⟩ := List.mem_filter.mp hi
  obtain ⟨hj1, hj2⟩ := List.mem_filter.mp hj
  have e' : (gr rows i).1 = (gr rows j).1 := e
  have oj := ho _ (gr_mem (List.mem_range.mp hj1))
  have := keepI_yes hj2 (List.mem_range.mp hi1) (by omega) (by rw [e']; exact (hw_sub oj.nn).mpr fun _ h => h)
  exact this.2 hlt
def Mn (V : List (List Int)) (k : Nat) (w : List Int) : Prop := Cone V k w ∧ gcdL w = 1 ∧ ∀ x, Cone V k x → nz x → sub x w → sub w x
theorem least_iff {V : List (List Int)} {n k : Nat} {rows : List LR} (hk : k ≤ n) (ho : ∀ r ∈ rows, OkR V n k r) (hc : Compl V k rows) (w : List Int) : w ∈ (least rows).map (·.1) ↔ Mn V k w := by
  constructor
  · intro h
    obtain ⟨r, hr, rfl⟩ := List.mem_map.mp h
    obtain ⟨i, hi, hk', rfl⟩ := mem_least.mp hr
    have o := ho _ (gr_mem hi)
    refine ⟨o.cone hk, o.gc, fun x hx hn hs => ?_⟩
    obtain ⟨q, hq, hqs⟩ := hc x hx hn
    obtain ⟨j, hj, rfl⟩ := mem_gr hq
    have oj := ho _ (gr_mem hj)
    by_cases e : j = i
    · subst e; exact hqs
    · have := (keepI_yes hk' hj e ((hw_sub o.nn).mpr (sub_trans hqs hs))).1
      exact sub_trans ((hw_sub oj.nn).mp this) hqs
  · rintro ⟨h1, h2, h3⟩
    obtain ⟨r, hr, hs⟩ := least_compl ho hc w h1 (nz_of_gcd h2)
    have o := ho r (least_mem hr)
    have := uniq h1 (o.cone hk) h2 o.gc h3 hs
    exact List.mem_map.mpr ⟨r, hr, this⟩
end F15
end Vl
end
section
set_option Elab.async false
set_option linter.all false
set_option maxRecDepth 100000
/-! least solutions: bounds, stages, the turned net's are the same -/
namespace Vl
namespace F15
def unit (N i : Nat) : List Int := (List.range N).map fun j => if j = i then 1 else 0
theorem unit_length {N i : Nat} : (unit N i).length = N := by simp [unit]
theorem g0_unit {N i : Nat} (hi : i < N) (j : Nat) : g0 (unit N i) j = if j = i then 1 else 0 := by
  by_cases h : j < N
  · unfold g0 unit
    rw [List.getD_eq_getElem?_getD, List.getElem?_map, List.getElem?_range h]
    rfl
  · rw [g0_ge (by rw [unit_length]; omega), if_neg (by omega)]
theorem sumN_unit (h : Nat → Int) (i : Nat) : ∀ (n : Nat), sumN n (fun j => (if j = i then 1 else 0) * h j) = if i < n then h i else 0
  | 0 => by simp [sumN]
  | n + 1 => by
    show sumN n _ + (if n = i then 1 else 0) * h n = _
    rw [sumN_unit h i n]
    by_cases e : n = i
    · subst e
      rw [if_neg (by omega), if_pos rfl, if_pos (by omega)]
      omega
    · rw [if_neg e]
      by_cases hl : i < n
      · rw [if_pos hl, if_pos (by omega)]; omega
      · rw [if_neg hl, if_neg (by omega)]; omega
def initR (V : List (List Int)) : List LR := (List.range V.length).map fun i => (unit V.length i, V.getD i [])
theorem getD_memV {V : List (List Int)} {i : Nat} (h : i < V.length) : V.getD i [] ∈ V := by
  rw [List.getD_eq_getElem?_getD, List.getElem?_eq_getElem h]
  exact List.getElem_mem _
theorem init_ok {V : List (List Int)} {n : Nat} (hV : ∀ v ∈ V, v.length = n) : ∀ r ∈ initR V, OkR V n 0 r := by
  intro r hr
  obtain ⟨i, hi, rfl⟩ := List.mem_map.mp hr
  have hi := List.mem_range.mp hi
  refine ⟨unit_length, hV _ (getD_memV hi), fun j => ?_, fun c hc => ?_, ?_, fun c hc => by omega⟩
  · simp only [g0_unit hi]
    split <;> decide
  · show g0 (V.getD i []) c = vdot V (unit V.length i) c
    unfold vdot
    rw [sumN_congr (g := fun j => (if j = i then 1 else 0) * g0 (V.getD j []) c) (fun j _ => by rw [g0_unit hi])]
    rw [sumN_unit (fun j => g0 (V.getD j []) c), if_pos hi]
  · have := gcdL_dvd (l := unit V.length i) i
    rw [g0_unit hi, if_pos rfl] at this
    have h2 : gcdL (unit V.length i) ∣ 1 := by exact_mod_cast this
    exact Nat.dvd_one.mp h2
theorem init_compl {V : List (List Int)} : Compl V 0 (initR V) := by
  intro x hx ⟨i, hi⟩
  have hl : i < V.length := by rw [← hx.1]; exact g0_lt hi
  refine ⟨_, List.mem_map.mpr ⟨i, List.mem_range.mpr hl, rfl⟩, fun j hj => ?_⟩
  rw [g0_unit hl] at hj
  by_cases e : j = i
  · rw [e]; exact hi
  · rw [if_neg e] at hj; simp at hj
structure Bd (W S : Int) (r : LR) : Prop where
  w : ∀ i, g0 r.1 i ≤ W
  s : ∀ c, -S ≤ g0 r.2 c ∧ g0 r.2 c ≤ S
def Wb : Nat → Int
  | 0 => 1 | 1 => 2 | 2 => 32 | 3 => 8192 | _ => 536870912
def Sb : Nat → Int
  | 0 => 2 | 1 => 8 | 2 => 128 | 3 => 32768 | _ => 2147483648
structure Sg (V : List (List Int)) (n k : Nat) (rows : List LR) : Prop where
  ok : ∀ r ∈ rows, OkR V n k r
  bd : ∀ r ∈ rows, Bd (Wb k) (Sb k) r
  co : Compl V k rows
  le : rows.length ≤ 4
  di : k = 0 → ∀ f ∈ rows, ∀ s ∈ rows, f ≠ s → ∀ i, g0 f.1 i = 0 ∨ g0 s.1 i = 0
theorem init_sg {V : List (List Int)} {n : Nat} (hV : ∀ v ∈ V, v.length = n) (h2 : ∀ v ∈ V, ∀ c, -2 ≤ g0 v c ∧ g0 v c ≤ 2) (h4 : V.length ≤ 4) : Sg V n 0 (initR V) := by
  refine ⟨init_ok hV, fun r hr => ?_, init_compl, by simp [initR]; exact h4, fun _ f hf s hs hne i => ?_⟩
  · obtain ⟨i, hi, rfl⟩ := List.mem_map.mp hr
    have hi := List.mem_range.mp hi
    refine ⟨fun j => ?_, fun c => h2 _ (getD_memV hi) c⟩
    simp only [g0_unit hi]
    split <;> decide
  · obtain ⟨a, ha, rfl⟩ := List.mem_map.mp hf
    obtain ⟨b, hb, rfl⟩ := List.mem_map.mp hs
    have ha := List.mem_range.mp ha
    have hb := List.mem_range.mp hb
    simp only [g0_unit ha, g0_unit hb]
    by_cases e : i = a
    · right
      rw [if_neg]
      intro e2
      exact hne (by rw [← e, ← e2])
    · left
      rw [if_neg e]
theorem mul_bd {a b A B : Int} (h1 : 0 ≤ a) (h2 : a ≤ A) (h3 : 0 ≤ b) (h4 : b ≤ B) : a * b ≤ A * B := Int.mul_le_mul h2 h4 h3 (by omega)
theorem mul_bd2 {a b A B : Int} (h1 : 0 ≤ a) (h2 : a ≤ A) (h3 : -B ≤ b) (h4 : b ≤ B) : -(A * B) ≤ a * b ∧ a * b ≤ A * B := by
  by_cases hb : 0 ≤ b
  · have p1 := mul_bd h1 h2 hb h4
    have p2 := Int.mul_nonneg h1 hb
    omega
  · have p1 := mul_bd h1 h2 (b := -b) (B := B) (by omega) (by omega)
    have p2 := Int.mul_nonneg h1 (b := -b) (by omega)
    rw [Int.mul_neg] at p1 p2
    omega
theorem div_bd {y B g : Int} (hg : 0 < g) (hB : 0 ≤ B) (h1 : -B ≤ y) (h2 : y ≤ B) : -B ≤ y / g ∧ y / g ≤ B := by
  have hg1 : 1 ≤ g := hg
  constructor
  · apply (Int.le_ediv_iff_mul_le hg).mpr
    have := Int.mul_le_mul_of_nonneg_left hg1 hB
    rw [Int.neg_mul]
    omega
  · have : y / g < B + 1 := by
      apply Int.ediv_lt_of_lt_mul hg
      have := Int.mul_le_mul_of_nonneg_left hg1 (show 0 ≤ B + 1 by omega)
      omega
    omega
/-- the weights of two joined, before they are made small -/
theorem jw_bd {V : List (List Int)} {n k : Nat} {rows : List LR} (h : Sg V n k rows) (hk : k < 4) {f s : LR} (hf : f ∈ rows) (hs : s ∈ rows) (h1 : 0 < g0 f.2 k) (h2 : g0 s.2 k < 0) (i : Nat) : 0 ≤ (-g0 s.2 k) * g0 f.1 i + g0 f.2 k * g0 s.1 i ∧ (-g0 s.2 k) * g0 f.1 i + g0 f.2 k * g0 s.1 i ≤ Wb (k + 1) := by
  have of := h.ok f hf
  have os := h.ok s hs
  have bf := h.bd f hf
  have bs := h.bd s hs
  have nf := of.nn i
  have ns := os.nn i
  have p1 : 0 ≤ -g0 s.2 k * g0 f.1 i := Int.mul_nonneg (by omega) nf
  have p2 : 0 ≤ g0 f.2 k * g0 s.1 i := Int.mul_nonneg (by omega) ns
  have q1 := mul_bd (a := -g0 s.2 k) (A := Sb k) (by omega) (by have := (bs.s k).1; omega) nf (bf.w i)
  have q2 := mul_bd (a := g0 f.2 k) (A := Sb k) (by omega) ((bf.s k).2) ns (bs.w i)
  refine ⟨by omega, ?_⟩
  match k, hk, h, h1, h2, p1, p2, q1, q2 with
  | 0, _, h, h1, h2, p1, p2, q1, q2 =>
    have hne : f ≠ s := fun e => by rw [e] at h1; omega
    simp only [Sb, Wb] at q1 q2 ⊢
    rcases h.di rfl f hf s hs hne i with z | z
    · rw [z, Int.mul_zero]; omega
    · rw [z, Int.mul_zero]; omega
  | 1, _, h, h1, h2, p1, p2, q1, q2 => simp only [Sb, Wb] at q1 q2 ⊢; omega
  | 2, _, h, h1, h2, p1, p2, q1, q2 => simp only [Sb, Wb] at q1 q2 ⊢; omega
  | 3, _, h, h1, h2, p1, p2, q1, q2 => simp only [Sb, Wb] at q1 q2 ⊢; omega
theorem js_bd {V : List (List Int)} {n k : Nat} {rows : List LR} (h : Sg V n k rows) (hk : k < 4) {f s : LR} (hf : f ∈ rows) (hs : s ∈ rows) (h1 : 0 < g0 f.2 k) (h2 : g0 s.2 k < 0) (c : Nat) : -Sb (k + 1) ≤ (-g0 s.2 k) * g0 f.2 c + g0 f.2 k * g0 s.2 c ∧ (-g0 s.2 k) * g0 f.2 c + g0 f.2 k * g0 s.2 c ≤ Sb (k + 1) := by
  have bf := h.bd f hf
  have bs := h.bd s hs
  have q1 := mul_bd2 (a := -g0 s.2 k) (A := Sb k) (by omega) (by have := (bs.s k).1; omega) (bf.s c).1 (bf.s c).2
  have q2 := mul_bd2 (a := g0 f.2 k) (A := Sb k) (by omega) ((bf.s k).2) (bs.s c).1 (bs.s c).2
  match k, hk, q1, q2 with
  | 0, _, q1, q2 => simp only [Sb] at q1 q2 ⊢; omega
  | 1, _, q1, q2 => simp only [Sb] at q1 q2 ⊢; omega
  | 2, _, q1, q2 => simp only [Sb] at q1 q2 ⊢; omega
  | 3, _, q1, q2 => simp only [Sb] at q1 q2 ⊢; omega
theorem Sb_mono (k : Nat) (hk : k < 4) : Sb k ≤ Sb (k + 1) ∧ Wb k ≤ Wb (k + 1) ∧ 0 ≤ Sb (k + 1) := by
  match k, hk with
  | 0, _ => decide
  | 1, _ => decide
  | 2, _ => decide
  | 3, _ => decide
/-! how many -/
theorem len_inner (x : Int) (n N c : Nat) (f : LR) (hx : x = g0 f.2 c) : ∀ (rows : List LR), (rows.flatMap fun s => if 0 < g0 f.2 c ∧ g0 s.2 c < 0 then [join N n c f s] else []).length = if 0 < g0 f.2 c then rows.countP (fun s => decide (g0 s.2 c < 0)) else 0
  | [] => by simp
  | s :: rows => by
    rw [List.flatMap_cons, List.length_append, len_inner x n N c f hx rows, List.countP_cons]
    by_cases h1 : 0 < g0 f.2 c
    · by_cases h2 : g0 s.2 c < 0
      · rw [if_pos h1, if_pos h1, if_pos ⟨h1, h2⟩, if_pos (decide_eq_true h2)]; simp; omega
      · rw [if_pos h1, if_pos h1, if_neg (fun z => h2 z.2), if_neg (by simpa using h2)]; simp
    · rw [if_neg h1, if_neg h1, if_neg (fun z => h1 z.1)]; simp
theorem len_outer (n N c : Nat) (r2 : List LR) : ∀ (rows : List LR), (rows.flatMap fun f => r2.flatMap fun s => if 0 < g0 f.2 c ∧ g0 s.2 c < 0 then [join N n c f s] else []).length = rows.countP (fun s => decide (0 < g0 s.2 c)) * r2.countP (fun s => decide (g0 s.2 c < 0))
  | [] => by simp
  | f :: rows => by
    rw [List.flatMap_cons, List.length_append, len_outer n N c r2 rows, len_inner _ n N c f rfl r2, List.countP_cons]
    by_cases h1 : 0 < g0 f.2 c
    · rw [if_pos h1, if_pos (decide_eq_true h1), Nat.add_mul, Nat.one_mul]; omega
    · rw [if_neg h1, if_neg (by simpa using h1)]; simp
theorem count3 (c : Nat) : ∀ (rows : List LR), (rows.filter (fun r => decide (g0 r.2 c = 0))).length + rows.countP (fun s => decide (0 < g0 s.2 c)) + rows.countP (fun s => decide (g0 s.2 c < 0)) = rows.length
  | [] => rfl
  | r :: rows => by
    have := count3 c rows
    rw [List.countP_cons, List.countP_cons, List.length_cons, List.filter_cons]
    simp only [decide_eq_true_eq]
    rcases Int.lt_trichotomy (g0 r.2 c) 0 with h | h | h
    · rw [if_neg (show ¬ g0 r.2 c = 0 by omega), if_neg (show ¬ 0 < g0 r.2 c by omega), if_pos h]; omega
    · rw [if_pos h, List.length_cons, if_neg (show ¬ 0 < g0 r.2 c by omega), if_neg (show ¬ g0 r.2 c < 0 by omega)]; omega
    · rw [if_neg (show ¬ g0 r.2 c = 0 by omega), if_pos h, if_neg (show ¬ g0 r.2 c < 0 by omega)]; omega
theorem small4 {z p q : Nat} (h : z + p + q ≤ 4) : z + p * q ≤ 4 := by
  match p, h with
  | 0, _ => omega
  | 1, h => omega
  | 2, h => omega
  | 3, h => omega
  | 4, h => omega
  | p + 5, h => omega
theorem kept_len {N n c : Nat} {rows : List LR} (h : rows.length ≤ 4) : (kept N n c rows).length ≤ 4 := by
  unfold kept
  rw [List.length_append, len_outer]
  exact small4 (by rw [count3]; exact h)
theorem least_len {rows : List LR} : (least rows).length ≤ rows.length := by
  unfold least
  rw [List.length_map]
  have := List.length_filter_le (keepI rows) (List.range rows.length)
  rw [List.length_range] at this
  exact this
theorem kept_bd {V : List (List Int)} {n k : Nat} {rows : List LR} (h : Sg V n k rows) (hk : k < n) (hn : n ≤ 4) : ∀ r ∈ kept V.length n k rows, Bd (Wb (k + 1)) (Sb (k + 1)) r := by
  intro r hr
  obtain ⟨m1, m2, m3⟩ := Sb_mono k (by omega)
  rcases mem_kept.mp hr with ⟨h1, h2⟩ | ⟨f, hf, s, hs, h1, h2, rfl⟩
  · have b := h.bd r h1
    exact ⟨fun i => by have := b.w i; omega, fun c => by have := b.s c; omega⟩
  · have of := h.ok f hf
    have os := h.ok s hs
    have nw := (join_ok of os hk h1 h2).2.2
    have gp := gcdL_pos nw
    have hw := g0_comb (a := -g0 s.2 k) (b := g0 f.2 k) of.lw os.lw
    have ht := g0_comb (a := -g0 s.2 k) (b := g0 f.2 k) of.ls os.ls
    refine ⟨fun i => ?_, fun c => ?_⟩
    · show g0 (dv _ _) i ≤ _
      rw [g0_dv, hw]
      have := jw_bd h (by omega) hf hs h1 h2 i
      exact (div_bd (by omega) (B := Wb (k + 1)) (by omega) (by omega) this.2).2
    · show _ ≤ g0 (dv _ _) c ∧ g0 (dv _ _) c ≤ _
      rw [g0_dv, ht]
      have := js_bd h (by omega) hf hs h1 h2 c
      exact div_bd (by omega) m3 this.1 this.2
theorem step_sg {V : List (List Int)} {n k : Nat} {rows : List LR} (h : Sg V n k rows) (hk : k < n) (hn : n ≤ 4) : Sg V n (k + 1) (least (kept V.length n k rows)) := by
  have ko := kept_ok hk h.ok
  exact ⟨fun r hr => ko r (least_mem hr), fun r hr => kept_bd h hk hn r (least_mem hr), least_compl ko (kept_compl hk h.co h.ok), Nat.le_trans least_len (kept_len h.le), fun z => nomatch z⟩
def stages (V : List (List Int)) (n : Nat) : Nat → List LR
  | 0 => initR V
  | k + 1 => least (kept V.length n k (stages V n k))
theorem stages_sg {V : List (List Int)} {n : Nat} (hV : ∀ v ∈ V, v.length = n) (h2 : ∀ v ∈ V, ∀ c, -2 ≤ g0 v c ∧ g0 v c ≤ 2) (h4 : V.length ≤ 4) (hn : n ≤ 4) : ∀ k, k ≤ n → Sg V n k (stages V n k)
  | 0, _ => init_sg hV h2 h4
  | k + 1, hk => step_sg (stages_sg hV h2 h4 hn k (by omega)) (by omega) hn
def sols (V : List (List Int)) (n : Nat) : List (List Int) := (stages V n n).map (·.1)
theorem sols_iff {V : List (List Int)} {n : Nat} (hV : ∀ v ∈ V, v.length = n) (h2 : ∀ v ∈ V, ∀ c, -2 ≤ g0 v c ∧ g0 v c ≤ 2) (h4 : V.length ≤ 4) (hn : n ≤ 4) (h0 : 0 < n) : (sols V n).Nodup ∧ ∀ w, w ∈ sols V n ↔ Mn V n w := by
  obtain ⟨k, rfl⟩ : ∃ k, n = k + 1 := ⟨n - 1, by omega⟩
  have sg := stages_sg hV h2 h4 hn k (by omega)
  have ko := kept_ok (by omega : k < k + 1) sg.ok
  exact ⟨least_nodup ko, least_iff (Nat.le_refl _) ko (kept_compl (by omega) sg.co sg.ok)⟩
/-! the negated -/
def neg (v : List Int) : List Int := v.map (- ·)
theorem g0_neg {v : List Int} (c : Nat) : g0 (neg v) c = - g0 v c := by
  unfold g0 neg
  rw [List.getD_eq_getElem?_getD, List.getD_eq_getElem?_getD, List.getElem?_map]
  cases v[c]? <;> simp
theorem getD_map_neg {V : List (List Int)} (i : Nat) : (V.map neg).getD i [] = neg (V.getD i []) := by
  rw [List.getD_eq_getElem?_getD, List.getD_eq_getElem?_getD, List.getElem?_map]
  cases V[i]? <;> rfl
theorem vdot_neg {V : List (List Int)} {w : List Int} (c : Nat) : vdot (V.map neg) w c = - vdot V w c := by
  unfold vdot
  rw [List.length_map]
  have := sumN_lin (-1) 0 V.length (fun i => g0 w i * g0 (V.getD i []) c) (fun _ => 0)
  rw [sumN_zero] at this
  have e : sumN V.length (fun i => g0 w i * g0 ((V.map neg).getD i []) c) = sumN V.length (fun i => -1 * (g0 w i * g0 (V.getD i []) c) + 0 * 0) := by
    apply sumN_congr
    intro i _
    rw [getD_map_neg, g0_neg, Int.mul_neg]
    omega
  rw [e, this]
  omega
theorem cone_neg {V : List (List Int)} {k : Nat} {x : List Int} : Cone (V.map neg) k x ↔ Cone V k x := by
  unfold Cone
  rw [List.length_map]
  constructor
  · rintro ⟨h1, h2, h3⟩
    exact ⟨h1, h2, fun c hc => by have := h3 c hc; rw [vdot_neg] at this; omega⟩
  · rintro ⟨h1, h2, h3⟩
    exact ⟨h1, h2, fun c hc => by rw [vdot_neg, h3 c hc]; rfl⟩
theorem mn_neg {V : List (List Int)} {k : Nat} {w : List Int} : Mn (V.map neg) k w ↔ Mn V k w := by
  unfold Mn
  constructor
  · rintro ⟨h1, h2, h3⟩
    exact ⟨cone_neg.mp h1, h2, fun x hx => h3 x (cone_neg.mpr hx)⟩
  · rintro ⟨h1, h2, h3⟩
    exact ⟨cone_neg.mpr h1, h2, fun x hx => h3 x (cone_neg.mp hx)⟩
theorem sols_perm {V : List (List Int)} {n : Nat} (hV : ∀ v ∈ V, v.length = n) (h2 : ∀ v ∈ V, ∀ c, -2 ≤ g0 v c ∧ g0 v c ≤ 2) (h4 : V.length ≤ 4) (hn : n ≤ 4) (h0 : 0 < n) : (sols (V.map neg) n).Perm (sols V n) := by
  obtain ⟨a1, a2⟩ := sols_iff hV h2 h4 hn h0
  obtain ⟨b1, b2⟩ := sols_iff (V := V.map neg) (n := n) (fun v hv => by
    obtain ⟨u, hu, rfl⟩ := List.mem_map.mp hv
    rw [neg, List.length_map]; exact hV u hu) (fun v hv c => by
    obtain ⟨u, hu, rfl⟩ := List.mem_map.mp hv
    rw [g0_neg]
    have := h2 u hu c
    omega) (by rw [List.length_map]; exact h4) hn h0
  exact (List.perm_ext_iff_of_nodup b1 a1).mpr fun w => by rw [b2, a2, mn_neg]
/-! the order -/
theorem leL_total : ∀ (a b : List Int), (leL a b || leL b a) = true
  | [], b => by simp [leL]
  | _ :: _, [] => by simp [leL]
  | x :: a, y :: b => by
    have := leL_total a b
    rw [Bool.or_eq_true] at this ⊢
    simp only [leL, Bool.or_eq_true, decide_eq_true_eq, Bool.and_eq_true]
    rcases Int.lt_trichotomy x y with h | h | h
    · exact .inl (.inl h)
    · rcases this with t | t
      · exact .inl (.inr ⟨h, t⟩)
      · exact .inr (.inr ⟨h.symm, t⟩)
    · exact .inr (.inl h)
theorem leL_trans : ∀ (a b c : List Int), leL a b = true → leL b c = true → leL a c = true
  | [], _, _, _, _ => by simp [leL]
  | x :: a, [], _, h, _ => by simp [leL] at h
  | x :: a, y :: b, [], _, h => by simp [leL] at h
  | x :: a, y :: b, z :: c, h1, h2 => by
    simp only [leL, Bool.or_eq_true, decide_eq_true_eq, Bool.and_eq_true] at h1 h2 ⊢
    rcases h1 with h1 | ⟨h1, t1⟩
    · rcases h2 with h2 | ⟨h2, t2⟩
      · left; omega
      · left; omega
    · rcases h2 with h2 | ⟨h2, t2⟩
      · left; omega
      · right; exact ⟨by omega, leL_trans a b c t1 t2⟩
theorem leL_antisymm : ∀ (a b : List Int), leL a b = true → leL b a = true → a = b
  | [], [], _, _ => rfl
  | [], _ :: _, _, h => by simp [leL] at h
  | _ :: _, [], h, _ => by simp [leL] at h
  | x :: a, y :: b, h1, h2 => by
    simp only [leL, Bool.or_eq_true, decide_eq_true_eq, Bool.and_eq_true] at h1 h2
    rcases h1 with h1 | ⟨h1, t1⟩
    · rcases h2 with h2 | ⟨h2, t2⟩ <;> omega
    · rcases h2 with h2 | ⟨h2, t2⟩
      · omega
      · rw [h1, leL_antisymm a b t1 t2]
theorem sort_perm {a b : List (List Int)} (h : a.Perm b) : a.mergeSort leL = b.mergeSort leL := by
  have p : (a.mergeSort leL).Perm (b.mergeSort leL) := (List.mergeSort_perm a leL).trans (h.trans (List.mergeSort_perm b leL).symm)
  exact p.eq_of_pairwise (le := fun x y => leL x y = true) (fun x y _ _ h1 h2 => leL_antisymm x y h1 h2) (List.pairwise_mergeSort leL_trans leL_total a) (List.pairwise_mergeSort leL_trans leL_total b)
end F15
end Vl
end
section
set_option Elab.async false
set_option linter.all false
set_option maxRecDepth 100000
/-! what the defs of k15 compute: common, joined -/
namespace Vl
namespace F15
abbrev enC (a b : Nat) : En := [some (S.sh (.int (a : Int))), some (S.sh (.int (b : Int)))]
def bC : FS := sPar 0 1 (eSh 1) (e2 D.mod (eVar 0) (eVar 1))
def tC : FT := t2 D.gt (eVar 1) (eC (.int 0))
theorem tC_eq {a b : Nat} : tC (enC a b) = some (decide (0 < b)) := by
  simp [tC, t2, tE, e2, eVar, eC, D.gt]
theorem bC_eq {a b : Nat} (h : 0 < b) : bC (enC a b) = some (.nx (enC b (a % b))) := by
  have : D.mod (.int (a : Int)) (.int (b : Int)) = some (.int ((a % b : Nat) : Int)) := by
    rw [mod_r (by omega)]; simp
  simp only [bC, sPar, eSh, e2, eVar, List.getElem?_cons_zero, List.getElem?_cons_succ, Option.bind_some, this, List.set_cons_zero, List.set_cons_succ]
theorem common_loop : ∀ (n F a b : Nat), b < 2 ^ n → 2 * n + 1 ≤ F → whileM tC bC F (enC a b) = some (.nx (enC (Nat.gcd a b) 0))
  | n, 0, _, _, _, hF => by omega
  | n, F + 1, a, b, hb, hF => by
    unfold whileM
    rw [tC_eq, Option.bind_some]
    by_cases h0 : 0 < b
    · rw [decide_eq_true h0, if_pos rfl, bC_eq h0, Option.bind_some]
      simp only
      obtain ⟨n, rfl⟩ : ∃ m, n = m + 1 := ⟨n - 1, by
        rcases n with _ | n
        · simp at hb; omega
        · omega⟩
      obtain ⟨F, rfl⟩ : ∃ G, F = G + 1 := ⟨F - 1, by omega⟩
      unfold whileM
      rw [tC_eq, Option.bind_some]
      by_cases h1 : 0 < a % b
      · rw [decide_eq_true h1, if_pos rfl, bC_eq h1, Option.bind_some]
        simp only
        have hlt : b % (a % b) < 2 ^ n := by
          have h2 := Nat.div_add_mod b (a % b)
          have h3 := Nat.mod_lt b h1
          have h4 := Nat.mod_lt a h0
          have h5 : 0 < b / (a % b) := Nat.div_pos (by omega) h1
          have h6 := Nat.mul_le_mul_left (a % b) (show 1 ≤ b / (a % b) from h5)
          rw [Nat.pow_succ] at hb
          omega
        rw [common_loop n F _ _ hlt (by omega)]
        have e : Nat.gcd (a % b) (b % (a % b)) = Nat.gcd a b := by
          rw [Nat.gcd_comm, ← Nat.gcd_rec (a % b) b, ← Nat.gcd_rec b a, Nat.gcd_comm]
        rw [e]
      · rw [decide_eq_false h1, if_neg (by decide)]
        have hz : a % b = 0 := by omega
        have e : Nat.gcd a b = b := by rw [Nat.gcd_comm, Nat.gcd_rec, hz, Nat.gcd_zero_left]
        rw [hz, e]
    · rw [decide_eq_false h0, if_neg (by decide)]
      have hz : b = 0 := by omega
      rw [hz, Nat.gcd_zero_right]
theorem common_eq {a b : Nat} (hb : b < 2 ^ 64) : g_common [.int (a : Int), .int (b : Int)] = some (.int ((Nat.gcd a b : Nat) : Int)) := by
  have h := common_loop 64 1000000 a b hb (by omega)
  unfold g_common fnB b_common
  simp only [List.length_cons, List.length_nil, if_true, List.map_cons, List.map_nil, List.cons_append, List.nil_append, List.replicate, Nat.sub_self]
  rw [seq_nx (show sWhile (t2 D.gt (eVar 1) (eC (.int 0))) (sPar 0 1 (eSh 1) (e2 D.mod (eVar 0) (eVar 1))) (enC a b) = _ from h)]
  rfl
abbrev eLR (r : LR) : D := .tup [tupI r.1, tupI r.2]
theorem g0_tupI {xs : List Int} {k : Nat} (h : k < xs.length) : D.get (tupI xs) (.int (k : Int)) = some (.int (g0 xs k)) := get_tupD h
theorem len_tupIz {xs : List Int} : D.len (tupI xs) = some (.int xs.length) := len_tupI
/-- a·x + b·y, item by item -/
theorem comb_lc {ρ : En} {i : Nat} {fx fy : FE} {x y : List Int} {a b : Int} {N : Nat} (ha : -18446744073709551616 < a ∧ a < 18446744073709551616) (hb : -18446744073709551616 < b ∧ b < 18446744073709551616) (hx : x.length = N) (hy : y.length = N) (hN : N < 100)
    (h9 : (wipeE ρ [9]).length = 10) (e3 : ∀ d, ((wipeE ρ [9]).set 9 d)[3]? = some (some (.sh (.int a)))) (e4 : ∀ d, ((wipeE ρ [9]).set 9 d)[4]? = some (some (.sh (.int b)))) (ex : fx ρ = some (tupI x)) (ex' : ∀ d, fx ((wipeE ρ [9]).set 9 d) = some (tupI x)) (ey' : ∀ d, fy ((wipeE ρ [9]).set 9 d) = some (tupI y)) : eLc (wRange (e1 D.len fx)) (gN 9) (tY) (e2 D.add (e2 D.mul (eVar 3) (e2 D.get fx (eVar 9))) (e2 D.mul (eVar 4) (e2 D.get fy (eVar 9)))) [9] ρ = some (.lst ((comb N a x b y).map .int)) := by
  simp only [eLc, wRange, e1, ex, Option.bind_some, len_tupIz]
  rw [if_pos (by omega)]
  simp only [Option.bind_some, Int.toNat_natCast]
  rw [lcM_all (F := fun d => match d with | .int k => .int (a * g0 x k.toNat + b * g0 y k.toNat) | _ => .non)]
  · simp [comb, Function.comp_def, hx]
  · intro d hd
    obtain ⟨k, hk, rfl⟩ := List.mem_map.mp hd
    have hk' : k < x.length := by simpa using hk
    refine ⟨_, rfl, ?_⟩
    have e9 : ((wipeE ρ [9]).set 9 (some (S.sh (.int (k : Int)))))[9]? = some (some (.sh (.int (k : Int)))) := by
      rw [List.getElem?_set_self (by omega)]
    simp only [e2, eVar, e3, e4, e9, ex', ey', Option.bind_some, g0_tupI hk', g0_tupI (show k < y.length by omega), mul_l ha.1 ha.2, mul_l hb.1 hb.2, D.add, Int.toNat_natCast]
theorem div_lc {ρ : En} {x : List Int} {g : Int} {j : Nat} (h0 : 0 < g) (hg : g < 1073741824) (e5 : ρ[j]? = some (some (.sh (.lst (x.map .int))))) (h9 : (wipeE ρ [8]).length = 10) (e7 : ∀ d, ((wipeE ρ [8]).set 8 d)[7]? = some (some (.sh (.int g)))) : e1 D.toTup (eLc (wSeq (eSh j)) (gN 8) (tY) (e2 D.fdiv (eVar 8) (eVar 7)) [8]) ρ = some (tupI (dv x g)) := by
  simp only [e1, eLc, wSeq, eSh, e5, Option.bind_some]
  rw [lcM_all (F := fun d => match d with | .int k => .int (k / g) | _ => .non)]
  · simp [D.toTup, tupI, dv, Function.comp_def]
  · intro d hd
    obtain ⟨k, hk, rfl⟩ := List.mem_map.mp hd
    refine ⟨_, rfl, ?_⟩
    have e8 : ((wipeE ρ [8]).set 8 (some (S.sh (.int k))))[8]? = some (some (.sh (.int k))) := by
      rw [List.getElem?_set_self (by omega)]
    simp only [e2, eVar, e7, e8, Option.bind_some, D.fdiv]
    rw [if_pos ⟨h0, hg⟩]
theorem gcd_loop : ∀ (l : List Int) (g : Nat) (A : En) (u : Option S), A.length = 7 → g < 2 ^ 64 → (∀ x ∈ l, 0 ≤ x ∧ x < 18446744073709551616) → ∃ v, forM (gN 8) (sSet 7 (eIf (t2 D.gt (eVar 7) (eVar 8)) (eCall g_common (aCons (eSh 7) (aCons (eSh 8) (aNil)))) (eCall g_common (aCons (eSh 8) (aCons (eSh 7) (aNil)))))) (l.map .int) (A ++ [some (.sh (.int (g : Int))), u, none]) = some (.nx (A ++ [some (.sh (.int (gcdF g l : Nat))), v, none]))
  | [], g, A, u, _, _, _ => ⟨u, rfl⟩
  | x :: l, g, A, u, hA, hg, hl => by
    obtain ⟨h1, h2⟩ := hl x List.mem_cons_self
    obtain ⟨y, rfl⟩ : ∃ y : Nat, x = (y : Int) := ⟨x.toNat, by omega⟩
    have hy : y < 2 ^ 64 := by omega
    have hgy : Nat.gcd g y < 2 ^ 64 := by
      rcases Nat.eq_zero_or_pos y with z | z
      · rw [z, Nat.gcd_zero_right]; exact hg
      · exact Nat.lt_of_le_of_lt (Nat.gcd_le_right _ z) hy
    obtain ⟨v, ih⟩ := gcd_loop l (Nat.gcd g y) A (some (.sh (.int (y : Int)))) hA hgy fun z hz => hl z (List.mem_cons_of_mem _ hz)
    refine ⟨v, ?_⟩
    have eA : ∀ (p q r : Option S), (A ++ [p, q, r])[7]? = some p ∧ (A ++ [p, q, r])[8]? = some q := fun p q r => by
      rw [List.getElem?_append_right (by omega), List.getElem?_append_right (by omega), hA]
      exact ⟨rfl, rfl⟩
    have sA : ∀ (p q r s : Option S), (A ++ [p, q, r]).set 8 s = A ++ [p, s, r] := fun p q r s => by
      rw [List.set_append_right _ _ (by omega), hA]; rfl
    have sA7 : ∀ (p q r s : Option S), (A ++ [p, q, r]).set 7 s = A ++ [s, q, r] := fun p q r s => by
      rw [List.set_append_right _ _ (by omega), hA]; rfl
    rw [List.map_cons]
    unfold forM
    simp only [gN, sA, Option.bind_some]
    have e7 := (eA (some (.sh (.int (g : Int)))) (some (.sh (.int (y : Int)))) none).1
    have e8 := (eA (some (.sh (.int (g : Int)))) (some (.sh (.int (y : Int)))) none).2
    have st : (sSet 7 (eIf (t2 D.gt (eVar 7) (eVar 8)) (eCall g_common (aCons (eSh 7) (aCons (eSh 8) (aNil)))) (eCall g_common (aCons (eSh 8) (aCons (eSh 7) (aNil)))))) (A ++ [some (.sh (.int (g : Int))), some (.sh (.int (y : Int))), none]) = some (.nx (A ++ [some (.sh (.int ((Nat.gcd g y : Nat) : Int))), some (.sh (.int (y : Int))), none])) := by
      simp only [sSet, eIf, t2, tE, e2, eVar, e7, e8, Option.bind_some, D.gt]
      by_cases hgt : (y : Int) < (g : Int)
      · rw [decide_eq_true hgt]
        simp only [if_true, eCall, aCons, aNil, eSh, e7, e8, Option.bind_some, common_eq hy, sA7]
      · rw [decide_eq_false hgt]
        simp only [Bool.false_eq_true, if_false, eCall, aCons, aNil, eSh, e7, e8, Option.bind_some, common_eq hg, sA7]
        rw [Nat.gcd_comm]
    rw [st, Option.bind_some]
    have e : gcdF g ((y : Int) :: l) = gcdF (Nat.gcd g y) l := by
      show gcdF (Nat.gcd g ((y : Int)).natAbs) l = _
      rw [Int.natAbs_natCast]
    rw [e]
    exact ih
theorem joined_eq {N n c : Nat} {f s : LR} {W : Int} (lf : f.1.length = N) (lf2 : f.2.length = n) (ls : s.1.length = N) (ls2 : s.2.length = n) (hN : N < 100) (hn : n < 100) (hc : c < n) (h1 : 0 < g0 f.2 c) (h1' : g0 f.2 c < 18446744073709551616) (h2 : g0 s.2 c < 0) (h2' : -18446744073709551616 < g0 s.2 c) (hw : ∀ i, 0 ≤ g0 (comb N (-g0 s.2 c) f.1 (g0 f.2 c) s.1) i ∧ g0 (comb N (-g0 s.2 c) f.1 (g0 f.2 c) s.1) i < 1073741824) (nw : nz (comb N (-g0 s.2 c) f.1 (g0 f.2 c) s.1)) : g_joined [eLR f, eLR s, .int (c : Int)] = some (eLR (join N n c f s)) := by
  have gs : D.get (tupI s.2) (.int (c : Int)) = some (.int (g0 s.2 c)) := g0_tupI (by omega)
  have gf : D.get (tupI f.2) (.int (c : Int)) = some (.int (g0 f.2 c)) := g0_tupI (by omega)
  have f0 : D.get (eLR f) (.int 0) = some (tupI f.1) := get2.1
  have f1 : D.get (eLR f) (.int 1) = some (tupI f.2) := get2.2
  have s0 : D.get (eLR s) (.int 0) = some (tupI s.1) := get2.1
  have s1 : D.get (eLR s) (.int 1) = some (tupI s.2) := get2.2
  generalize ha : -g0 s.2 c = a at *
  have ha0 : 0 < a := by omega
  have ha1 : a < 18446744073709551616 := by omega
  generalize hb : g0 f.2 c = b at *
  have gp := gcdL_pos nw
  have gl : gcdL (comb N a f.1 b s.1) < 1073741824 := by
    obtain ⟨i, hi⟩ := nw
    have hd := gcdL_dvd (l := comb N a f.1 b s.1) i
    have := Int.le_of_dvd (by have := (hw i).1; omega) hd
    have := (hw i).2
    omega
  unfold g_joined fnB b_joined
  simp only [List.length_cons, List.length_nil, if_true, List.map_cons, List.map_nil, List.cons_append, List.nil_append, List.replicate]
  rw [seq_nx (ρ' := [some (S.sh (eLR f)), some (S.sh (eLR s)), some (S.sh (.int (c : Int))), some (S.sh (.int a)), none, none, none, none, none, none]) (by
      simp only [sSet, e1, e2, eVar, eC, List.getElem?_cons_zero, List.getElem?_cons_succ, Option.bind_some, s1, gs, D.neg, ha, List.set_cons_succ, List.set_cons_zero]),
    seq_nx (ρ' := [some (S.sh (eLR f)), some (S.sh (eLR s)), some (S.sh (.int (c : Int))), some (S.sh (.int a)), some (S.sh (.int b)), none, none, none, none, none]) (by
      simp only [sSet, e1, e2, eVar, eC, List.getElem?_cons_zero, List.getElem?_cons_succ, Option.bind_some, f1, gf, List.set_cons_succ, List.set_cons_zero]),
    seq_nx (ρ' := [some (S.sh (eLR f)), some (S.sh (eLR s)), some (S.sh (.int (c : Int))), some (S.sh (.int a)), some (S.sh (.int b)), some (S.sh (.lst ((comb N a f.1 b s.1).map .int))), none, none, none, none]) (by
      unfold sSet
      rw [comb_lc (a := a) (b := b) (x := f.1) (y := s.1) (N := N) (i := 0) ⟨by omega, ha1⟩ ⟨by omega, h1'⟩ lf ls hN rfl (fun _ => rfl) (fun _ => rfl) (by simp only [e2, eVar, eC, List.getElem?_cons_zero, List.getElem?_cons_succ, Option.bind_some, f0]) (fun d => by simp only [wipeE, List.set_cons_succ, List.set_cons_zero, e2, eVar, eC, List.getElem?_cons_zero, List.getElem?_cons_succ, Option.bind_some, f0]) (fun d => by simp only [wipeE, List.set_cons_succ, List.set_cons_zero, e2, eVar, eC, List.getElem?_cons_zero, List.getElem?_cons_succ, Option.bind_some, s0])]
      rfl),
    seq_nx (ρ' := [some (S.sh (eLR f)), some (S.sh (eLR s)), some (S.sh (.int (c : Int))), some (S.sh (.int a)), some (S.sh (.int b)), some (S.sh (.lst ((comb N a f.1 b s.1).map .int))), some (S.sh (.lst ((comb n a f.2 b s.2).map .int))), none, none, none]) (by
      unfold sSet
      rw [comb_lc (a := a) (b := b) (x := f.2) (y := s.2) (N := n) (i := 0) ⟨by omega, ha1⟩ ⟨by omega, h1'⟩ lf2 ls2 hn rfl (fun _ => rfl) (fun _ => rfl) (by simp only [e2, eVar, eC, List.getElem?_cons_zero, List.getElem?_cons_succ, Option.bind_some, f1]) (fun d => by simp only [wipeE, List.set_cons_succ, List.set_cons_zero, e2, eVar, eC, List.getElem?_cons_zero, List.getElem?_cons_succ, Option.bind_some, f1]) (fun d => by simp only [wipeE, List.set_cons_succ, List.set_cons_zero, e2, eVar, eC, List.getElem?_cons_zero, List.getElem?_cons_succ, Option.bind_some, s1])]
      rfl),
    seq_nx (ρ' := [some (S.sh (eLR f)), some (S.sh (eLR s)), some (S.sh (.int (c : Int))), some (S.sh (.int a)), some (S.sh (.int b)), some (S.sh (.lst ((comb N a f.1 b s.1).map .int))), some (S.sh (.lst ((comb n a f.2 b s.2).map .int))), some (S.sh (.int ((0 : Nat) : Int))), none, none]) (by simp [sSet, eC])]
  obtain ⟨v, hv⟩ := gcd_loop (comb N a f.1 b s.1) 0 [some (S.sh (eLR f)), some (S.sh (eLR s)), some (S.sh (.int (c : Int))), some (S.sh (.int a)), some (S.sh (.int b)), some (S.sh (.lst ((comb N a f.1 b s.1).map .int))), some (S.sh (.lst ((comb n a f.2 b s.2).map .int)))] none rfl (by omega) (fun x hx => by
    obtain ⟨i, hi, rfl⟩ := List.mem_iff_getElem.mp hx
    have := hw i
    unfold g0 at this
    rw [List.getD_eq_getElem?_getD, List.getElem?_eq_getElem hi, Option.getD_some] at this
    omega)
  simp only [List.cons_append, List.nil_append] at hv
  rw [seq_nx (for_nx (by rfl) hv)]
  have d1 := div_lc (ρ := [some (S.sh (eLR f)), some (S.sh (eLR s)), some (S.sh (.int (c : Int))), some (S.sh (.int a)), some (S.sh (.int b)), some (S.sh (.lst ((comb N a f.1 b s.1).map .int))), some (S.sh (.lst ((comb n a f.2 b s.2).map .int)))] ++ [some (.sh (.int (gcdF 0 (comb N a f.1 b s.1) : Nat))), v, none]) (x := comb N a f.1 b s.1) (j := 5) (g := (gcdL (comb N a f.1 b s.1) : Int)) (by omega) (by omega) rfl rfl (fun _ => rfl)
  have d2 := div_lc (ρ := [some (S.sh (eLR f)), some (S.sh (eLR s)), some (S.sh (.int (c : Int))), some (S.sh (.int a)), some (S.sh (.int b)), some (S.sh (.lst ((comb N a f.1 b s.1).map .int))), some (S.sh (.lst ((comb n a f.2 b s.2).map .int)))] ++ [some (.sh (.int (gcdF 0 (comb N a f.1 b s.1) : Nat))), v, none]) (x := comb n a f.2 b s.2) (j := 6) (g := (gcdL (comb N a f.1 b s.1) : Int)) (by omega) (by omega) rfl rfl (fun _ => rfl)
  simp only [List.cons_append, List.nil_append] at d1 d2
  simp only [sRet, eTup, aCons, d1, d2, aNil, Option.bind_some, List.length_cons, List.length_nil]
  rw [if_pos (by omega)]
  simp only [join, ha, hb]
  rfl
end F15
end Vl
end
section
set_option Elab.async false
set_option linter.all false
set_option maxRecDepth 100000
/-! what the defs of k15 compute: least_rows -/
namespace Vl
namespace F15
theorem holds_eq {a b : List Int} (h : b.length = a.length) (hl : a.length < 100) : g_holds_within [tupI a, tupI b] = some (.bl (hw a b)) := by
  unfold g_holds_within fnB b_holds_within
  simp only [List.length_cons, List.length_nil, if_true, List.map_cons, List.map_nil, List.cons_append, List.nil_append, List.replicate, sRet, e1, eGx, wRange, eVar, List.getElem?_cons_zero, Option.bind_some, len_tupIz, wipeE]
  rw [if_pos (by omega)]
  simp only [Option.bind_some]
  rw [gxM_all (p := fun d => match d with | .int k => decide (g0 a k.toNat = 0) || decide (0 < g0 b k.toNat) | _ => false)]
  · simp [hw, List.all_map, Function.comp_def]
  · intro x hx
    obtain ⟨k, hk, rfl⟩ := List.mem_map.mp hx
    have hk' : k < a.length := by simpa using hk
    refine ⟨_, rfl, ?_⟩
    simp only [eOr, e2, eSh, eVar, eC, List.set_cons_succ, List.set_cons_zero, List.getElem?_cons_zero, List.getElem?_cons_succ, Option.bind_some, g0_tupI hk', g0_tupI (show k < b.length by omega), D.eq, D.isScal, if_true, D.eqv, D.gt, Int.toNat_natCast]
    by_cases e : g0 a k = 0
    · simp only [e]; rfl
    · rw [show (g0 a k == 0) = false from by simpa using e, decide_eq_false e]; rfl
abbrev eLRs (rows : List LR) : D := .lst (rows.map eLR)
theorem get_eLRs {rows : List LR} {i : Nat} (h : i < rows.length) : D.get (eLRs rows) (.int (i : Int)) = some (eLR (gr rows i)) := get_lst (by rw [List.getElem?_map, List.getElem?_eq_getElem h]; unfold gr; rw [List.getD_eq_getElem?_getD, List.getElem?_eq_getElem h]; rfl)
theorem least_eq {rows : List LR} {N : Nat} (hN : N < 100) (hr : rows.length < 1000) (hl : ∀ r ∈ rows, r.1.length = N) : g_least_rows [eLRs rows] = some (eLRs (least rows)) := by
  have inner : ∀ (i : Nat) (x : Option S) (ap : D), i < rows.length → ∃ y, forM (gN 5) (sIf (tAnd (t2 D.ne (eVar 5) (eVar 2)) (tE (eCall g_holds_within (aCons (e2 D.get (e2 D.get (eVar 0) (eVar 5)) (eC (.int 0))) (aCons (eSh 3) (aNil)))))) (sIf (tOr (tNot (tE (eCall g_holds_within (aCons (eSh 3) (aCons (e2 D.get (e2 D.get (eVar 0) (eVar 5)) (eC (.int 0))) (aNil)))))) (t2 D.lt (eVar 5) (eVar 2))) (sSet 4 (eC (.bl false))) (sNext)) (sNext)) ((List.range rows.length).map fun (k : Nat) => D.int (k : Int)) [some (S.sh (eLRs rows)), some (S.ow ap), some (S.sh (.int (i : Int))), some (S.sh (tupI (gr rows i).1)), some (S.sh (.bl true)), x] = some (.nx [some (S.sh (eLRs rows)), some (S.ow ap), some (S.sh (.int (i : Int))), some (S.sh (tupI (gr rows i).1)), some (S.sh (.bl (keepI rows i))), y]) := by
    intro i x ap hi
    have hli := hl _ (gr_mem hi)
    have loop := forM_ok (g := gN 5) (xs := (List.range rows.length).map fun (k : Nat) => D.int (k : Int)) (b := sIf (tAnd (t2 D.ne (eVar 5) (eVar 2)) (tE (eCall g_holds_within (aCons (e2 D.get (e2 D.get (eVar 0) (eVar 5)) (eC (.int 0))) (aCons (eSh 3) (aNil)))))) (sIf (tOr (tNot (tE (eCall g_holds_within (aCons (eSh 3) (aCons (e2 D.get (e2 D.get (eVar 0) (eVar 5)) (eC (.int 0))) (aNil)))))) (t2 D.lt (eVar 5) (eVar 2))) (sSet 4 (eC (.bl false))) (sNext)) (sNext))
      (fun j ρ => ∃ y, ρ = [some (S.sh (eLRs rows)), some (S.ow ap), some (S.sh (.int (i : Int))), some (S.sh (tupI (gr rows i).1)), some (S.sh (.bl ((List.range j).all fun j => !(decide (j ≠ i) && hw (gr rows j).1 (gr rows i).1 && (!hw (gr rows i).1 (gr rows j).1 || decide (j < i)))))), y]) ?_ (ρ := [some (S.sh (eLRs rows)), some (S.ow ap), some (S.sh (.int (i : Int))), some (S.sh (tupI (gr rows i).1)), some (S.sh (.bl true)), x]) ⟨x, rfl⟩
    · obtain ⟨ρ', h1, y, rfl⟩ := loop
      rw [List.length_map, List.length_range] at h1
      exact ⟨y, h1⟩
    · rintro j d ρ hx ⟨u, rfl⟩
      rw [List.getElem?_map] at hx
      obtain ⟨k, hk, rfl⟩ := Option.map_eq_some_iff.mp hx
      obtain ⟨hj, hk2⟩ := List.getElem?_eq_some_iff.mp hk
      rw [List.length_range] at hj
      rw [List.getElem_range] at hk2
      subst hk2
      have hlj := hl _ (gr_mem hj)
      have gj := get_eLRs hj
      have g0' : D.get (eLR (gr rows j)) (.int 0) = some (tupI (gr rows j).1) := get2.1
      have q1 := holds_eq (a := (gr rows j).1) (b := (gr rows i).1) (by omega) (by omega)
      have q2 := holds_eq (a := (gr rows i).1) (b := (gr rows j).1) (by omega) (by omega)
      have ne : D.ne (.int (j : Int)) (.int (i : Int)) = some (.bl (decide (j ≠ i))) := by
        simp only [D.ne, D.isScal, if_true, D.eqv]
        by_cases e : j = i
        · simp [e]
        · have : ¬ ((j : Int) = (i : Int)) := by omega
          simp [e, this]
      have lt : D.lt (.int (j : Int)) (.int (i : Int)) = some (.bl (decide (j < i))) := by simp [D.lt]
      rw [List.range_succ, List.all_append]
      generalize (List.range j).all (fun j => !(decide (j ≠ i) && hw (gr rows j).1 (gr rows i).1 && (!hw (gr rows i).1 (gr rows j).1 || decide (j < i)))) = bb
      simp only [List.all_cons, List.all_nil, Bool.and_true]
      refine ⟨[some (S.sh (eLRs rows)), some (S.ow ap), some (S.sh (.int (i : Int))), some (S.sh (tupI (gr rows i).1)), some (S.sh (.bl bb)), some (.sh (.int (j : Int)))], rfl, ?_⟩
      have tt : ∀ ρ : En, ρ = [some (S.sh (eLRs rows)), some (S.ow ap), some (S.sh (.int (i : Int))), some (S.sh (tupI (gr rows i).1)), some (S.sh (.bl bb)), some (.sh (.int (j : Int)))] → (tAnd (t2 D.ne (eVar 5) (eVar 2)) (tE (eCall g_holds_within (aCons (e2 D.get (e2 D.get (eVar 0) (eVar 5)) (eC (.int 0))) (aCons (eSh 3) (aNil)))))) ρ = some (decide (j ≠ i) && hw (gr rows j).1 (gr rows i).1) := by
        rintro ρ rfl
        simp only [tAnd, t2, tE, e2, eVar, eC, eSh, eCall, aCons, aNil, List.getElem?_cons_zero, List.getElem?_cons_succ, Option.bind_some, ne, gj, g0', q1]
        cases decide (j ≠ i) <;> rfl
      have tt2 : ∀ ρ : En, ρ = [some (S.sh (eLRs rows)), some (S.ow ap), some (S.sh (.int (i : Int))), some (S.sh (tupI (gr rows i).1)), some (S.sh (.bl bb)), some (.sh (.int (j : Int)))] → (tOr (tNot (tE (eCall g_holds_within (aCons (eSh 3) (aCons (e2 D.get (e2 D.get (eVar 0) (eVar 5)) (eC (.int 0))) (aNil)))))) (t2 D.lt (eVar 5) (eVar 2))) ρ = some (!hw (gr rows i).1 (gr rows j).1 || decide (j < i)) := by
        rintro ρ rfl
        simp only [tOr, tNot, t2, tE, e2, eVar, eC, eSh, eCall, aCons, aNil, List.getElem?_cons_zero, List.getElem?_cons_succ, Option.bind_some, gj, g0', q2, lt]
        cases hw (gr rows i).1 (gr rows j).1 <;> rfl
      cases h1 : (decide (j ≠ i) && hw (gr rows j).1 (gr rows i).1) with
      | false =>
        refine ⟨_, .inl ?_, some (.sh (.int (j : Int))), rfl⟩
        rw [ifF (by rw [tt _ rfl, h1])]
        simp [sNext]
      | true =>
        cases h2 : (!hw (gr rows i).1 (gr rows j).1 || decide (j < i)) with
        | false =>
          refine ⟨_, .inl ?_, some (.sh (.int (j : Int))), rfl⟩
          rw [ifT (by rw [tt _ rfl, h1]), ifF (by rw [tt2 _ rfl, h2])]
          simp [sNext]
        | true =>
          refine ⟨_, .inl ?_, some (.sh (.int (j : Int))), rfl⟩
          rw [ifT (by rw [tt _ rfl, h1]), ifT (by rw [tt2 _ rfl, h2])]
          simp [sSet, eC]
  have outer := forM_ok (g := gN 2) (xs := (List.range rows.length).map fun (k : Nat) => D.int (k : Int)) (b := (sSeq (sSet 3 (e2 D.get (e2 D.get (eVar 0) (eVar 2)) (eC (.int 0))))
  (sSeq (sSet 4 (eC (.bl true)))
  (sSeq (sFor (wRange (e1 D.len (eVar 0))) (gN 5) (sIf (tAnd (t2 D.ne (eVar 5) (eVar 2)) (tE (eCall g_holds_within (aCons (e2 D.get (e2 D.get (eVar 0) (eVar 5)) (eC (.int 0))) (aCons (eSh 3) (aNil)))))) (sIf (tOr (tNot (tE (eCall g_holds_within (aCons (eSh 3) (aCons (e2 D.get (e2 D.get (eVar 0) (eVar 5)) (eC (.int 0))) (aNil)))))) (t2 D.lt (eVar 5) (eVar 2))) (sSet 4 (eC (.bl false))) (sNext)) (sNext)))
  (sIf (tE (eVar 4)) (sApp 1 (e2 D.get (eVar 0) (eVar 2))) (sNext))))))
    (fun i ρ => ∃ x y z w, i ≤ rows.length ∧ ρ = [some (S.sh (eLRs rows)), some (S.ow (eLRs (((List.range i).filter (keepI rows)).map (gr rows)))), x, y, z, w]) ?_ (ρ := [some (S.sh (eLRs rows)), some (S.ow (.lst [])), none, none, none, none]) ⟨none, none, none, none, Nat.zero_le _, rfl⟩
  · obtain ⟨ρ', h1, x, y, z, w, _, rfl⟩ := outer
    rw [List.length_map, List.length_range] at h1
    unfold g_least_rows fnB b_least_rows
    simp only [List.length_cons, List.length_nil, if_true, List.map_cons, List.map_nil, List.cons_append, List.nil_append, List.replicate]
    rw [seq_nx (ρ' := [some (S.sh (eLRs rows)), some (S.ow (.lst [])), none, none, none, none]) (by simp [sOwn, eLst, aNil])]
    rw [seq_nx (for_nx (by
      simp only [wRange, e1, eVar, List.getElem?_cons_zero, Option.bind_some, D.len, List.length_map]
      rw [if_pos (by omega)]
      rfl) h1)]
    rfl
  · rintro i d ρ hx ⟨x, y, z, w, hi', rfl⟩
    rw [List.getElem?_map] at hx
    obtain ⟨k, hk, rfl⟩ := Option.map_eq_some_iff.mp hx
    obtain ⟨hi, hk2⟩ := List.getElem?_eq_some_iff.mp hk
    rw [List.length_range] at hi
    rw [List.getElem_range] at hk2
    subst hk2
    have gi := get_eLRs hi
    have g0' : D.get (eLR (gr rows i)) (.int 0) = some (tupI (gr rows i).1) := get2.1
    have hsl : (((List.range i).filter (keepI rows)).map (gr rows)).length ≤ i := by
      rw [List.length_map]
      have := List.length_filter_le (keepI rows) (List.range i)
      rw [List.length_range] at this
      exact this
    rw [List.range_succ, List.filter_append, List.map_append]
    generalize ((List.range i).filter (keepI rows)).map (gr rows) = ap at *
    obtain ⟨v, hv⟩ := inner i w (eLRs ap) hi
    refine ⟨[some (S.sh (eLRs rows)), some (S.ow (eLRs ap)), some (.sh (.int (i : Int))), y, z, w], rfl, [some (S.sh (eLRs rows)), some (S.ow (eLRs (ap ++ ([i].filter (keepI rows)).map (gr rows)))), some (S.sh (.int (i : Int))), some (S.sh (tupI (gr rows i).1)), some (S.sh (.bl (keepI rows i))), v], .inl ?_, _, _, _, _, hi, rfl⟩
    rw [seq_nx (ρ' := [some (S.sh (eLRs rows)), some (S.ow (eLRs ap)), some (S.sh (.int (i : Int))), some (S.sh (tupI (gr rows i).1)), z, w]) (by
        simp only [sSet, e2, eVar, eC, List.getElem?_cons_zero, List.getElem?_cons_succ, Option.bind_some, gi, g0', List.set_cons_succ, List.set_cons_zero]),
      seq_nx (ρ' := [some (S.sh (eLRs rows)), some (S.ow (eLRs ap)), some (S.sh (.int (i : Int))), some (S.sh (tupI (gr rows i).1)), some (S.sh (.bl true)), w]) (by simp [sSet, eC]),
      seq_nx (for_nx (by
        simp only [wRange, e1, eVar, List.getElem?_cons_zero, Option.bind_some, D.len, List.length_map]
        rw [if_pos (by omega)]
        rfl) hv)]
    cases hk' : keepI rows i with
    | false =>
      rw [ifF (by rfl)]
      rw [List.filter_cons_of_neg (by rw [hk']; decide)]
      simp [sNext]
    | true =>
      rw [ifT (by rfl)]
      rw [List.filter_cons_of_pos hk']
      have rm : room (ap.map eLR).length = true := decide_eq_true (by rw [List.length_map]; omega)
      simp only [sApp, e2, eVar, List.getElem?_cons_zero, List.getElem?_cons_succ, Option.bind_some, gi, rm, if_true, List.set_cons_succ, List.set_cons_zero]
      simp
end F15
end Vl
end
section
set_option Elab.async false
set_option linter.all false
set_option maxRecDepth 100000
/-! what the defs of k15 compute: least_solutions -/
namespace Vl
namespace F15
abbrev eVs (V : List (List Int)) : D := .lst (V.map tupI)
theorem get_eVs {V : List (List Int)} {i : Nat} (h : i < V.length) : D.get (eVs V) (.int (i : Int)) = some (tupI (V.getD i [])) := get_lst (by rw [List.getElem?_map, List.getD_eq_getElem?_getD, List.getElem?_eq_getElem h]; rfl)
/-- rows: own or shared -/
def show2 (b : Bool) (d : D) : S := if b then .sh d else .ow d
theorem init_loop {V : List (List Int)} (n : D) (h4 : V.length ≤ 4) : ∃ x, forM (gN 3) (sApp 2 (eTup (aCons (e1 D.toTup (eLc (wRange (e1 D.len (eVar 0))) (gN 9) (tY) (eIf (t2 D.eq (eVar 9) (eVar 3)) (eC (.int 1)) (eC (.int 0))) [9])) (aCons (e2 D.get (eVar 0) (eVar 3)) (aNil))))) ((List.range V.length).map fun (k : Nat) => D.int (k : Int)) [some (S.sh (eVs V)), some (S.sh n), some (S.ow (.lst [])), none, none, none, none, none, none, none] = some (.nx [some (S.sh (eVs V)), some (S.sh n), some (S.ow (eLRs (initR V))), x, none, none, none, none, none, none]) := by
  have loop := forM_ok (g := gN 3) (xs := (List.range V.length).map fun (k : Nat) => D.int (k : Int)) (b := (sApp 2 (eTup (aCons (e1 D.toTup (eLc (wRange (e1 D.len (eVar 0))) (gN 9) (tY) (eIf (t2 D.eq (eVar 9) (eVar 3)) (eC (.int 1)) (eC (.int 0))) [9])) (aCons (e2 D.get (eVar 0) (eVar 3)) (aNil))))))
    (fun i ρ => ∃ x, i ≤ V.length ∧ ρ = [some (S.sh (eVs V)), some (S.sh n), some (S.ow (eLRs ((List.range i).map fun i => (unit V.length i, V.getD i [])))), x, none, none, none, none, none, none]) ?_ (ρ := [some (S.sh (eVs V)), some (S.sh n), some (S.ow (.lst [])), none, none, none, none, none, none, none]) ⟨none, Nat.zero_le _, rfl⟩
  · obtain ⟨ρ', h1, x, _, rfl⟩ := loop
    rw [List.length_map, List.length_range] at h1
    exact ⟨x, h1⟩
  · rintro i d ρ hx ⟨x, hi', rfl⟩
    rw [List.getElem?_map] at hx
    obtain ⟨k, hk, rfl⟩ := Option.map_eq_some_iff.mp hx
    obtain ⟨hi, hk2⟩ := List.getElem?_eq_some_iff.mp hk
    rw [List.length_range] at hi
    rw [List.getElem_range] at hk2
    subst hk2
    have gi := get_eVs hi
    rw [List.range_succ, List.map_append]
    have hal : ((List.range i).map fun i => ((unit V.length i, V.getD i []) : LR)).length = i := by simp
    generalize ((List.range i).map fun i => ((unit V.length i, V.getD i []) : LR)) = ap at *
    refine ⟨[some (S.sh (eVs V)), some (S.sh n), some (S.ow (eLRs ap)), some (.sh (.int (i : Int))), none, none, none, none, none, none], rfl, _, .inl ?_, some (.sh (.int (i : Int))), hi, rfl⟩
    have u : (e1 D.toTup (eLc (wRange (e1 D.len (eVar 0))) (gN 9) (tY) (eIf (t2 D.eq (eVar 9) (eVar 3)) (eC (.int 1)) (eC (.int 0))) [9])) [some (S.sh (eVs V)), some (S.sh n), some (S.ow (eLRs ap)), some (.sh (.int (i : Int))), none, none, none, none, none, none] = some (tupI (unit V.length i)) := by
      simp only [e1, eLc, wRange, eVar, List.getElem?_cons_zero, Option.bind_some, D.len, List.length_map]
      rw [if_pos (by omega)]
      simp only [Option.bind_some, Int.toNat_natCast]
      rw [lcM_all (F := fun d => match d with | .int k => .int (if k.toNat = i then 1 else 0) | _ => .non)]
      · simp [D.toTup, tupI, unit, Function.comp_def]
      · intro d hd
        obtain ⟨k, hk, rfl⟩ := List.mem_map.mp hd
        refine ⟨_, rfl, ?_⟩
        have eq : D.eq (.int (k : Int)) (.int (i : Int)) = some (.bl (decide (k = i))) := by
          simp only [D.eq, D.isScal, if_true, D.eqv]
          by_cases e : k = i
          · simp [e]
          · have : ¬ ((k : Int) = (i : Int)) := by omega
            simp [e, this]
        simp only [eIf, t2, tE, e2, eVar, wipeE, List.set_cons_succ, List.set_cons_zero, List.getElem?_cons_zero, List.getElem?_cons_succ, Option.bind_some, eq, Int.toNat_natCast]
        by_cases e : k = i
        · simp [e, eC]
        · simp [e, eC]
    have rm : room (ap.map eLR).length = true := decide_eq_true (by rw [List.length_map]; omega)
    simp only [sApp, List.getElem?_cons_zero, List.getElem?_cons_succ, eTup, aCons, u, aNil, e2, eVar, Option.bind_some, gi, List.length_cons, List.length_nil]
    rw [if_pos (by omega)]
    simp only [Option.bind_some, rm, if_true, List.set_cons_succ, List.set_cons_zero]
    simp
abbrev eq0 (z : Int) : (z == 0) = decide (z = 0) := by rw [Bool.eq_iff_iff]; simp
/-- the environments of a stage -/
abbrev enS (V : List (List Int)) (n : D) (r2 : S) (k : Nat) (x4 x5 x6 x7 x8 x9 : Option S) : En := [some (S.sh (eVs V)), some (S.sh n), some r2, some (.sh (.int (k : Int))), x4, x5, x6, x7, x8, x9]
def pZ (k : Nat) (d : D) : Bool := match d with
  | .tup [_, .tup s] => (match s[k]? with | some (.int z) => decide (z = 0) | _ => false)
  | _ => false
theorem pZ_eq {k : Nat} {r : LR} (h : k < r.2.length) : pZ k (eLR r) = decide (g0 r.2 k = 0) := by
  unfold pZ eLR tupI g0
  simp only [List.getElem?_map]
  rw [List.getD_eq_getElem?_getD, List.getElem?_eq_getElem h]
  rfl
theorem kept_lc {V : List (List Int)} {n : D} {b : Bool} {k N m : Nat} {rows : List LR} {x4 x5 x6 x7 x8 x9 : Option S} (hl : ∀ r ∈ rows, r.2.length = m) (hk : k < m) : eLc (wVar 2) (gN 7) (t2 D.eq (e2 D.get (e2 D.get (eVar 7) (eC (.int 1))) (eVar 3)) (eC (.int 0))) (eSh 7) [7] (enS V n (show2 b (eLRs rows)) k x4 x5 x6 x7 x8 x9) = some (eLRs (rows.filter fun r => decide (g0 r.2 k = 0))) := by
  have hw : wVar 2 (enS V n (show2 b (eLRs rows)) k x4 x5 x6 x7 x8 x9) = some (rows.map eLR) := by cases b <;> rfl
  simp only [eLc, hw, Option.bind_some]
  rw [lcM_ok (p := pZ k) (F := fun d => d)]
  · simp only [Option.bind_some, List.filter_map, List.map_map]
    congr 3
    apply List.filter_congr
    intro r hr
    have := hl r hr
    exact pZ_eq (by omega)
  · intro x hx
    obtain ⟨r, hr, rfl⟩ := List.mem_map.mp hx
    have hlr := hl r hr
    refine ⟨_, rfl, ?_, fun _ => rfl⟩
    have s1 : D.get (eLR r) (.int 1) = some (tupI r.2) := get2.2
    have gs : D.get (tupI r.2) (.int (k : Int)) = some (.int (g0 r.2 k)) := g0_tupI (by omega)
    rw [pZ_eq (by omega)]
    simp only [t2, tE, e2, eVar, eC, wipeE, List.set_cons_succ, List.set_cons_zero, List.getElem?_cons_zero, List.getElem?_cons_succ, Option.bind_some, s1, gs, D.eq, D.isScal, if_true, D.eqv, eq0]
def bPair : FS := (sIf (tAnd (t2 D.gt (e2 D.get (e2 D.get (eVar 5) (eC (.int 1))) (eVar 3)) (eC (.int 0))) (t2 D.lt (e2 D.get (e2 D.get (eVar 6) (eC (.int 1))) (eVar 3)) (eC (.int 0)))) (sApp 4 (eCall g_joined (aCons (eSh 5) (aCons (eSh 6) (aCons (eSh 3) (aNil)))))) (sNext))
theorem pair_in {V : List (List Int)} {n : D} {m k : Nat} {rows : List LR} (h : Sg V m k rows) (hk : k < m) (hm : m ≤ 4) (hV : V.length ≤ 4) {f : LR} (hf : f ∈ rows) : ∀ (l : List LR) (ap : List LR) (x6 x7 x8 x9 : Option S), (∀ s ∈ l, s ∈ rows) → ap.length + l.length < 1000 → ∃ y6, forM (gN 6) bPair (l.map eLR) (enS V n (S.sh (eLRs rows)) k (some (S.ow (eLRs ap))) (some (S.sh (eLR f))) x6 x7 x8 x9) = some (.nx (enS V n (S.sh (eLRs rows)) k (some (S.ow (eLRs (ap ++ l.flatMap fun s => if 0 < g0 f.2 k ∧ g0 s.2 k < 0 then [join V.length m k f s] else [])))) (some (S.sh (eLR f))) y6 x7 x8 x9))
  | [], ap, x6, x7, x8, x9, _, _ => ⟨x6, by simp [forM]⟩
  | s :: l, ap, x6, x7, x8, x9, hl, hap => by
    have hs := hl s List.mem_cons_self
    have of := h.ok f hf
    have os := h.ok s hs
    have bf := h.bd f hf
    have bs := h.bd s hs
    have hSb : Sb k ≤ 2147483648 := by
      match k, hk, hm with
      | 0, _, _ => decide
      | 1, _, _ => decide
      | 2, _, _ => decide
      | 3, _, _ => decide
      | k + 4, hk, hm => omega
    have hWb : Wb (k + 1) ≤ 536870912 := by
      match k, hk, hm with
      | 0, _, _ => decide
      | 1, _, _ => decide
      | 2, _, _ => decide
      | 3, _, _ => decide
      | k + 4, hk, hm => omega
    have f1 : D.get (eLR f) (.int 1) = some (tupI f.2) := get2.2
    have s1 : D.get (eLR s) (.int 1) = some (tupI s.2) := get2.2
    have gf : D.get (tupI f.2) (.int (k : Int)) = some (.int (g0 f.2 k)) := g0_tupI (by rw [of.ls]; exact hk)
    have gs : D.get (tupI s.2) (.int (k : Int)) = some (.int (g0 s.2 k)) := g0_tupI (by rw [os.ls]; exact hk)
    have tt : ∀ ρ : En, ρ = enS V n (S.sh (eLRs rows)) k (some (S.ow (eLRs ap))) (some (S.sh (eLR f))) (some (S.sh (eLR s))) x7 x8 x9 → (tAnd (t2 D.gt (e2 D.get (e2 D.get (eVar 5) (eC (.int 1))) (eVar 3)) (eC (.int 0))) (t2 D.lt (e2 D.get (e2 D.get (eVar 6) (eC (.int 1))) (eVar 3)) (eC (.int 0)))) ρ = some (decide (0 < g0 f.2 k ∧ g0 s.2 k < 0)) := by
      rintro ρ rfl
      simp only [tAnd, t2, tE, e2, eVar, eC, List.getElem?_cons_zero, List.getElem?_cons_succ, Option.bind_some, f1, s1, gf, gs, D.gt, D.lt]
      by_cases a : 0 < g0 f.2 k
      · by_cases c : g0 s.2 k < 0
        · rw [decide_eq_true a, decide_eq_true c, decide_eq_true ⟨a, c⟩]; rfl
        · rw [decide_eq_true a, decide_eq_false c, decide_eq_false (fun z => c z.2)]; rfl
      · rw [decide_eq_false a, decide_eq_false (fun z : 0 < g0 f.2 k ∧ g0 s.2 k < 0 => a z.1)]; rfl
    rw [List.map_cons]
    unfold forM
    rw [show gN 6 (eLR s) (enS V n (S.sh (eLRs rows)) k (some (S.ow (eLRs ap))) (some (S.sh (eLR f))) x6 x7 x8 x9) = some (enS V n (S.sh (eLRs rows)) k (some (S.ow (eLRs ap))) (some (S.sh (eLR f))) (some (S.sh (eLR s))) x7 x8 x9) from rfl, Option.bind_some]
    rw [List.length_cons] at hap
    by_cases hc : 0 < g0 f.2 k ∧ g0 s.2 k < 0
    · have jn := (join_ok of os hk hc.1 hc.2).2.2
      have hw := g0_comb (a := -g0 s.2 k) (b := g0 f.2 k) of.lw os.lw
      have je := joined_eq (N := V.length) (n := m) (c := k) (f := f) (s := s) (W := 0) of.lw of.ls os.lw os.ls (by omega) (by omega) hk hc.1 (by have := (bf.s k).2; omega) hc.2 (by have := (bs.s k).1; omega) (fun i => by
        rw [hw]
        have := jw_bd h (by omega) hf hs hc.1 hc.2 i
        omega) jn
      have rm : room (ap.map eLR).length = true := decide_eq_true (by rw [List.length_map]; omega)
      obtain ⟨y6, ih⟩ := pair_in (n := n) h hk hm hV hf l (ap ++ [join V.length m k f s]) (some (S.sh (eLR s))) x7 x8 x9 (fun q hq => hl q (List.mem_cons_of_mem _ hq)) (by rw [List.length_append, List.length_singleton]; omega)
      refine ⟨y6, ?_⟩
      have st : bPair (enS V n (S.sh (eLRs rows)) k (some (S.ow (eLRs ap))) (some (S.sh (eLR f))) (some (S.sh (eLR s))) x7 x8 x9) = some (.nx (enS V n (S.sh (eLRs rows)) k (some (S.ow (eLRs (ap ++ [join V.length m k f s])))) (some (S.sh (eLR f))) (some (S.sh (eLR s))) x7 x8 x9)) := by
        unfold bPair
        rw [ifT (by rw [tt _ rfl, decide_eq_true hc])]
        simp only [sApp, eCall, aCons, aNil, eSh, List.getElem?_cons_zero, List.getElem?_cons_succ, Option.bind_some, je, rm, if_true, List.set_cons_succ, List.set_cons_zero]
        simp
      rw [st, Option.bind_some]
      simp only
      rw [ih, List.flatMap_cons, if_pos hc, List.append_assoc]
    · obtain ⟨y6, ih⟩ := pair_in (n := n) h hk hm hV hf l ap (some (S.sh (eLR s))) x7 x8 x9 (fun q hq => hl q (List.mem_cons_of_mem _ hq)) (by omega)
      refine ⟨y6, ?_⟩
      have st : bPair (enS V n (S.sh (eLRs rows)) k (some (S.ow (eLRs ap))) (some (S.sh (eLR f))) (some (S.sh (eLR s))) x7 x8 x9) = some (.nx (enS V n (S.sh (eLRs rows)) k (some (S.ow (eLRs ap))) (some (S.sh (eLR f))) (some (S.sh (eLR s))) x7 x8 x9)) := by
        unfold bPair
        rw [ifF (by rw [tt _ rfl, decide_eq_false hc])]
        rfl
      rw [st, Option.bind_some]
      simp only
      rw [ih, List.flatMap_cons, if_neg hc, List.nil_append]
theorem pair_out {V : List (List Int)} {n : D} {m k : Nat} {rows : List LR} (h : Sg V m k rows) (hk : k < m) (hm : m ≤ 4) (hV : V.length ≤ 4) : ∀ (l : List LR) (ap : List LR) (x5 x6 x7 x8 x9 : Option S), (∀ s ∈ l, s ∈ rows) → ap.length + 5 * l.length < 500 → ∃ y5 y6, forM (gN 5) (sFrz [2] (sFor (wSeq (eSh 2)) (gN 6) bPair)) (l.map eLR) (enS V n (S.sh (eLRs rows)) k (some (S.ow (eLRs ap))) x5 x6 x7 x8 x9) = some (.nx (enS V n (S.sh (eLRs rows)) k (some (S.ow (eLRs (ap ++ l.flatMap fun f => rows.flatMap fun s => if 0 < g0 f.2 k ∧ g0 s.2 k < 0 then [join V.length m k f s] else [])))) y5 y6 x7 x8 x9))
  | [], ap, x5, x6, x7, x8, x9, _, _ => ⟨x5, x6, by simp [forM]⟩
  | f :: l, ap, x5, x6, x7, x8, x9, hl, hap => by
    have hf := hl f List.mem_cons_self
    rw [List.length_cons] at hap
    have hle := h.le
    obtain ⟨y6, hi⟩ := pair_in (n := n) h hk hm hV hf rows ap x6 x7 x8 x9 (fun _ h => h) (by omega)
    have hin : (rows.flatMap fun s => if 0 < g0 f.2 k ∧ g0 s.2 k < 0 then [join V.length m k f s] else []).length ≤ 4 := by
      rw [len_inner _ m V.length k f rfl]
      split
      · exact Nat.le_trans List.countP_le_length hle
      · omega
    obtain ⟨z5, z6, ih⟩ := pair_out (n := n) h hk hm hV l (ap ++ rows.flatMap fun s => if 0 < g0 f.2 k ∧ g0 s.2 k < 0 then [join V.length m k f s] else []) (some (S.sh (eLR f))) y6 x7 x8 x9 (fun q hq => hl q (List.mem_cons_of_mem _ hq)) (by rw [List.length_append]; omega)
    refine ⟨z5, z6, ?_⟩
    rw [List.map_cons]
    unfold forM
    rw [show gN 5 (eLR f) (enS V n (S.sh (eLRs rows)) k (some (S.ow (eLRs ap))) x5 x6 x7 x8 x9) = some (enS V n (S.sh (eLRs rows)) k (some (S.ow (eLRs ap))) (some (S.sh (eLR f))) x6 x7 x8 x9) from rfl, Option.bind_some]
    have st : (sFrz [2] (sFor (wSeq (eSh 2)) (gN 6) bPair)) (enS V n (S.sh (eLRs rows)) k (some (S.ow (eLRs ap))) (some (S.sh (eLR f))) x6 x7 x8 x9) = _ := for_nx (by rfl) hi
    rw [st, Option.bind_some]
    simp only
    rw [ih, List.flatMap_cons, List.append_assoc]
theorem stage_step {V : List (List Int)} {n : D} {m k : Nat} {rows : List LR} (b : Bool) (h : Sg V m k rows) (hk : k < m) (hm : m ≤ 4) (hV : V.length ≤ 4) (x4 x5 x6 x7 x8 x9 : Option S) : ∃ y4 y5 y6 y7 y8 y9, (sSeq (sOwn 4 (eLc (wVar 2) (gN 7) (t2 D.eq (e2 D.get (e2 D.get (eVar 7) (eC (.int 1))) (eVar 3)) (eC (.int 0))) (eSh 7) [7]))
  (sSeq (sFrz [2] (sFor (wSeq (eSh 2)) (gN 5) (sFrz [2] (sFor (wSeq (eSh 2)) (gN 6) bPair))))
  (sFrz [4] (sSet 2 (eCall g_least_rows (aCons (eSh 4) (aNil))))))) (enS V n (show2 b (eLRs rows)) k x4 x5 x6 x7 x8 x9) = some (.nx (enS V n (show2 true (eLRs (least (kept V.length m k rows)))) k y4 y5 y6 y7 y8 y9)) := by
  have hle := h.le
  have hfl := List.length_filter_le (fun r : LR => decide (g0 r.2 k = 0)) rows
  obtain ⟨y5, y6, hp⟩ := pair_out (n := n) h hk hm hV rows (rows.filter fun r => decide (g0 r.2 k = 0)) x5 x6 x7 x8 x9 (fun _ h => h) (by omega)
  have ko := kept_ok hk h.ok
  have kl := kept_len (N := V.length) (n := m) (c := k) h.le
  have le := least_eq (rows := kept V.length m k rows) (N := V.length) (by omega) (by omega) fun r hr => (ko r hr).lw
  refine ⟨some (S.sh (eLRs (kept V.length m k rows))), y5, y6, x7, x8, x9, ?_⟩
  rw [seq_nx (ρ' := enS V n (show2 b (eLRs rows)) k (some (S.ow (eLRs (rows.filter fun r => decide (g0 r.2 k = 0))))) x5 x6 x7 x8 x9) (by
    unfold sOwn
    rw [kept_lc (m := m) (N := 0) (fun r hr => (h.ok r hr).ls) hk]
    rfl)]
  have st : (sFrz [2] (sFor (wSeq (eSh 2)) (gN 5) (sFrz [2] (sFor (wSeq (eSh 2)) (gN 6) bPair)))) (enS V n (show2 b (eLRs rows)) k (some (S.ow (eLRs (rows.filter fun r => decide (g0 r.2 k = 0))))) x5 x6 x7 x8 x9) = some (.nx (enS V n (S.sh (eLRs rows)) k (some (S.ow (eLRs (kept V.length m k rows)))) y5 y6 x7 x8 x9)) := by
    cases b
    · exact for_nx (by rfl) hp
    · exact for_nx (by rfl) hp
  rw [seq_nx st]
  simp only [sFrz, frz, List.foldl, List.getElem?_cons_zero, List.getElem?_cons_succ, List.set_cons_succ, List.set_cons_zero, sSet, eCall, aCons, aNil, eSh, Option.bind_some, le]
  rfl
end F15
end Vl
end
section
set_option Elab.async false
set_option linter.all false
set_option maxRecDepth 100000
/-! what the defs of k15 compute: least_solutions, place_laws, move_laws -/
namespace Vl
namespace F15
theorem getI_map : ∀ (k : List Int), getI (k.map .int) = some k
  | [] => rfl
  | z :: k => by simp [getI, getI_map k]
theorem keysI_map : ∀ (ks : List (List Int)), keysI (ks.map tupI) = some ks
  | [] => rfl
  | k :: ks => by
    simp only [List.map_cons, keysI, tupI, keyI, getI_map, Option.bind_some]
    rw [keysI_map ks]
    rfl
theorem sort_eq {ks : List (List Int)} {N : Nat} (h1 : ks.length < 64) (hN : 0 < N) (hl : ∀ k ∈ ks, k.length = N) (h0 : ∀ k ∈ ks, ∀ z ∈ k, 0 ≤ z) : D.sortT (.lst (ks.map tupI)) = some (.lst ((ks.mergeSort leL).map tupI)) := by
  unfold D.sortT
  simp only [keysI_map, Option.bind_some]
  rw [if_pos]
  unfold sOk
  rw [Bool.and_eq_true]
  refine ⟨decide_eq_true h1, ?_⟩
  rw [List.all_eq_true]
  intro k hk
  have hh : (ks.headD [0]).length = N := by
    cases ks with
    | nil => nomatch hk
    | cons a _ => exact hl a List.mem_cons_self
  simp only [Bool.and_eq_true, decide_eq_true_eq, List.all_eq_true]
  exact ⟨⟨by rw [hl k hk]; omega, by rw [hh, hl k hk]⟩, h0 k hk⟩
theorem least_solutions_eq {V : List (List Int)} {n : Nat} (hV : ∀ v ∈ V, v.length = n) (h2 : ∀ v ∈ V, ∀ c, -2 ≤ g0 v c ∧ g0 v c ≤ 2) (h4 : V.length ≤ 4) (h1 : 0 < V.length) (hn : n ≤ 4) : g_least_solutions [eVs V, .int (n : Int)] = some (.lst (((sols V n).mergeSort leL).map tupI)) := by
  obtain ⟨x3, hi⟩ := init_loop (V := V) (.int (n : Int)) h4
  have loop := forM_ok (g := gN 3) (xs := (List.range n).map fun (k : Nat) => D.int (k : Int)) (b := (sSeq (sOwn 4 (eLc (wVar 2) (gN 7) (t2 D.eq (e2 D.get (e2 D.get (eVar 7) (eC (.int 1))) (eVar 3)) (eC (.int 0))) (eSh 7) [7]))
  (sSeq (sFrz [2] (sFor (wSeq (eSh 2)) (gN 5) (sFrz [2] (sFor (wSeq (eSh 2)) (gN 6) bPair))))
  (sFrz [4] (sSet 2 (eCall g_least_rows (aCons (eSh 4) (aNil))))))))
    (fun i ρ => ∃ b x3 x4 x5 x6 x7 x8 x9, i ≤ n ∧ ρ = [some (S.sh (eVs V)), some (S.sh (.int (n : Int))), some (show2 b (eLRs (stages V n i))), x3, x4, x5, x6, x7, x8, x9]) ?_ (ρ := [some (S.sh (eVs V)), some (S.sh (.int (n : Int))), some (S.ow (eLRs (initR V))), x3, none, none, none, none, none, none]) ⟨false, x3, none, none, none, none, none, none, Nat.zero_le _, rfl⟩
  · obtain ⟨ρ', q1, b, y3, y4, y5, y6, y7, y8, y9, _, rfl⟩ := loop
    rw [List.length_map, List.length_range] at q1
    unfold g_least_solutions fnB b_least_solutions
    simp only [List.length_cons, List.length_nil, if_true, List.map_cons, List.map_nil, List.cons_append, List.nil_append, List.replicate]
    rw [seq_nx (ρ' := [some (S.sh (eVs V)), some (S.sh (.int (n : Int))), some (S.ow (.lst [])), none, none, none, none, none, none, none]) (by simp [sOwn, eLst, aNil])]
    rw [seq_nx (for_nx (by
      simp only [wRange, e1, eVar, List.getElem?_cons_zero, Option.bind_some, D.len, List.length_map]
      rw [if_pos (by omega)]
      rfl) hi)]
    unfold bPair at q1
    rw [seq_nx (for_nx (by
      simp only [wRange, eVar, List.getElem?_cons_zero, List.getElem?_cons_succ, Option.bind_some]
      rw [if_pos (by omega)]
      rfl) q1)]
    have sg := stages_sg hV h2 h4 hn n (Nat.le_refl _)
    have hlc : eLc (wVar 2) (gT [gN 7, gN 8]) (tY) (eSh 7) [7, 8] [some (S.sh (eVs V)), some (S.sh (.int (n : Int))), some (show2 b (eLRs (stages V n n))), y3, y4, y5, y6, y7, y8, y9] = some (.lst ((sols V n).map tupI)) := by
      have hw : wVar 2 [some (S.sh (eVs V)), some (S.sh (.int (n : Int))), some (show2 b (eLRs (stages V n n))), y3, y4, y5, y6, y7, y8, y9] = some ((stages V n n).map eLR) := by cases b <;> rfl
      simp only [eLc, hw, Option.bind_some]
      rw [lcM_all (F := fun d => match d with | .tup [a, _] => a | _ => .non)]
      · simp [sols, Function.comp_def]
      · intro x hx
        obtain ⟨r, hr, rfl⟩ := List.mem_map.mp hx
        exact ⟨_, rfl, rfl⟩
    have srt := sort_eq (ks := sols V n) (N := V.length) (by rw [sols, List.length_map]; have := sg.le; omega) h1 (fun k hk => by
      obtain ⟨r, hr, rfl⟩ := List.mem_map.mp hk
      exact (sg.ok r hr).lw) (fun k hk z hz => by
      obtain ⟨r, hr, rfl⟩ := List.mem_map.mp hk
      obtain ⟨i, hi, rfl⟩ := List.mem_iff_getElem.mp hz
      have := (sg.ok r hr).nn i
      unfold g0 at this
      rw [List.getD_eq_getElem?_getD, List.getElem?_eq_getElem hi] at this
      exact this)
    simp only [sRet, e1, hlc, Option.bind_some, srt]
  · rintro i d ρ hx ⟨b, x3, x4, x5, x6, x7, x8, x9, hi', rfl⟩
    rw [List.getElem?_map] at hx
    obtain ⟨k, hk, rfl⟩ := Option.map_eq_some_iff.mp hx
    obtain ⟨hi, hk2⟩ := List.getElem?_eq_some_iff.mp hk
    rw [List.length_range] at hi
    rw [List.getElem_range] at hk2
    subst hk2
    obtain ⟨y4, y5, y6, y7, y8, y9, st⟩ := stage_step (n := .int (n : Int)) b (stages_sg hV h2 h4 hn i (by omega)) hi hn h4 x4 x5 x6 x7 x8 x9
    exact ⟨_, rfl, _, .inl st, true, some (.sh (.int (i : Int))), y4, y5, y6, y7, y8, y9, hi, rfl⟩
/-! changes -/
def vch (r : Rw) : List Int := (List.range r.2.1.length).map fun k => g0 r.2.2 k - g0 r.2.1 k
theorem vch_length {r : Rw} : (vch r).length = r.2.1.length := by simp [vch]
theorem g0_vch {r : Rw} {n : Nat} (h : okRw n r) (k : Nat) : g0 (vch r) k = g0 r.2.2 k - g0 r.2.1 k := by
  by_cases hk : k < n
  · unfold vch
    conv => lhs; unfold g0
    rw [List.getD_eq_getElem?_getD, List.getElem?_map, List.getElem?_range (by rw [h.1]; exact hk)]
    rfl
  · rw [g0_ge (by rw [vch_length, h.1]; omega), g0_ge (l := r.2.2) (by rw [h.2]; omega), g0_ge (l := r.2.1) (by rw [h.1]; omega)]
    rfl
def chs (ps : List Nm) (ms : List Mv) : List (List Int) := (vrows ps ms).map vch
theorem changes_eq {ps : List Nm} {ms : List Mv} (h : okNet ps ms) : g_changes_of [eN ps ms] = some (eVs (chs ps ms)) := by
  have h8 := h.2.2.2.2.1
  unfold g_changes_of fnB b_changes_of
  simp only [List.length_cons, List.length_nil, if_true, List.map_cons, List.map_nil, List.cons_append, List.nil_append, List.replicate, sRet]
  have hlc : eLc (wSeq (eCall g_rows_of (aCons (eSh 0) (aNil)))) (gT [gN 1, gN 2, gN 3]) (tY) (e1 D.toTup (eLc (wRange (e1 D.len (eVar 2))) (gN 4) (tY) (e2 D.sub (e2 D.get (eVar 3) (eVar 4)) (e2 D.get (eVar 2) (eVar 4))) [4])) [1, 2, 3] [some (S.sh (eN ps ms)), none, none, none, none] = some (eVs (chs ps ms)) := by
    have key : ∀ (l : List Rw), (∀ r ∈ l, okRw ps.length r) → lcM (gT [gN 1, gN 2, gN 3]) tY (e1 D.toTup (eLc (wRange (e1 D.len (eVar 2))) (gN 4) (tY) (e2 D.sub (e2 D.get (eVar 3) (eVar 4)) (e2 D.get (eVar 2) (eVar 4))) [4])) (wipeE [some (S.sh (eN ps ms)), none, none, none, none] [1, 2, 3]) (l.map eRw) = some ((l.map vch).map tupI) := by
      intro l
      induction l with
      | nil => intro _; rfl
      | cons r l ih =>
        intro hl
        have hr := hl r List.mem_cons_self
        rw [List.map_cons]
        unfold lcM
        rw [show gT [gN 1, gN 2, gN 3] (eRw r) (wipeE [some (S.sh (eN ps ms)), none, none, none, none] [1, 2, 3]) = some [some (S.sh (eN ps ms)), some (.sh (.str r.1)), some (.sh (tupI r.2.1)), some (.sh (tupI r.2.2)), none] from rfl, Option.bind_some]
        have inn : (e1 D.toTup (eLc (wRange (e1 D.len (eVar 2))) (gN 4) (tY) (e2 D.sub (e2 D.get (eVar 3) (eVar 4)) (e2 D.get (eVar 2) (eVar 4))) [4])) [some (S.sh (eN ps ms)), some (.sh (.str r.1)), some (.sh (tupI r.2.1)), some (.sh (tupI r.2.2)), none] = some (tupI (vch r)) := by
          simp only [e1, eLc, wRange, eVar, List.getElem?_cons_zero, List.getElem?_cons_succ, Option.bind_some, len_tupIz]
          rw [if_pos (by have := hr.1; omega)]
          simp only [Option.bind_some, Int.toNat_natCast]
          rw [lcM_all (F := fun d => match d with | .int k => .int (g0 r.2.2 k.toNat - g0 r.2.1 k.toNat) | _ => .non)]
          · simp [D.toTup, tupI, vch, Function.comp_def]
          · intro d hd
            obtain ⟨k, hk, rfl⟩ := List.mem_map.mp hd
            have hk' : k < r.2.1.length := by simpa using hk
            refine ⟨_, rfl, ?_⟩
            simp only [e2, eVar, wipeE, List.set_cons_succ, List.set_cons_zero, List.getElem?_cons_zero, List.getElem?_cons_succ, Option.bind_some, g0_tupI hk', g0_tupI (show k < r.2.2.length by rw [hr.2, ← hr.1]; exact hk'), D.sub, Int.toNat_natCast]
        simp only [tY, Option.bind_some, if_true, inn, ih (fun q hq => hl q (List.mem_cons_of_mem _ hq)), List.map_cons]
    simp only [eLc]
    rw [show wSeq (eCall g_rows_of (aCons (eSh 0) aNil)) [some (S.sh (eN ps ms)), none, none, none, none] = some ((vrows ps ms).map eRw) by
      simp [wSeq, eCall, aCons, aNil, eSh, rows_eq h, eRs], Option.bind_some, key _ vrows_ok]
    rfl
  rw [hlc]
  rfl
theorem vch_sw {r : Rw} {n : Nat} (h : okRw n r) : vch (swR r) = neg (vch r) := by
  apply g0_ext
  · rw [neg, List.length_map, vch_length, vch_length, h.1]; exact h.2
  · intro i
    rw [g0_neg, g0_vch h, g0_vch (r := swR r) (n := n) ⟨h.2, h.1⟩]
    show g0 r.2.1 i - g0 r.2.2 i = _
    omega
theorem chs_sw {ps : List Nm} {ms : List Mv} : chs ps (ms.map sw) = (chs ps ms).map neg := by
  unfold chs
  rw [vrows_sw, List.map_map, List.map_map]
  apply List.map_congr_left
  intro r hr
  exact vch_sw (vrows_ok r hr)
def cols (n : Nat) (C : List (List Int)) : List (List Int) := (List.range n).map fun k => C.map fun c => g0 c k
theorem cols_neg {n : Nat} {C : List (List Int)} : cols n (C.map neg) = (cols n C).map neg := by
  unfold cols
  rw [List.map_map]
  apply List.map_congr_left
  intro k _
  simp only [Function.comp_def, neg, List.map_map]
  apply List.map_congr_left
  intro c _
  exact g0_neg k
theorem place_laws_eq {ps : List Nm} {ms : List Mv} (h : okNet ps ms) (h4 : ps.length ≤ 4) (hm4 : ms.length ≤ 4) (h2 : ∀ v ∈ chs ps ms, ∀ c, -2 ≤ g0 v c ∧ g0 v c ≤ 2) : g_place_laws [eN ps ms] = some (.tup (((sols (cols ps.length (chs ps ms)) ms.length).mergeSort leL).map tupI)) := by
  have hcl : (chs ps ms).length = ms.length := by simp [chs, vrows]
  have h1 := h.2.2.2.1
  have ls := least_solutions_eq (V := cols ps.length (chs ps ms)) (n := ms.length) (fun v hv => by
    obtain ⟨k, _, rfl⟩ := List.mem_map.mp hv
    rw [List.length_map]; exact hcl) (fun v hv c => by
    obtain ⟨k, _, rfl⟩ := List.mem_map.mp hv
    by_cases hc : c < (chs ps ms).length
    · have := h2 _ (List.getElem_mem hc) k
      unfold g0
      rw [List.getD_eq_getElem?_getD, List.getElem?_map, List.getElem?_eq_getElem hc]
      exact this
    · rw [g0_ge (by rw [List.length_map]; omega)]; omega) (by simp [cols]; exact h4) (by simp [cols]; omega) hm4
  unfold g_place_laws fnB b_place_laws
  simp only [List.length_cons, List.length_nil, if_true, List.map_cons, List.map_nil, List.cons_append, List.nil_append, List.replicate]
  rw [seq_nx (ρ' := [some (S.sh (eN ps ms)), some (S.sh (eVs (chs ps ms))), none, none, none]) (by simp [sSet, eCall, aCons, aNil, eSh, changes_eq h])]
  have hlc : eLc (wRange (e1 D.len (e1 (D.fld 0 0) (eSh 0)))) (gN 3) (tY) (e1 D.toTup (eLc (wSeq (eSh 1)) (gN 4) (tY) (e2 D.get (eVar 4) (eVar 3)) [4])) [3] [some (S.sh (eN ps ms)), some (S.sh (eVs (chs ps ms))), none, none, none] = some (eVs (cols ps.length (chs ps ms))) := by
    simp only [eLc, wRange, e1, eSh, List.getElem?_cons_zero, List.getElem?_cons_succ, Option.bind_some, fldP, len_eP]
    rw [if_pos (by omega)]
    simp only [Option.bind_some, Int.toNat_natCast]
    rw [lcM_all (F := fun d => match d with | .int k => tupI ((chs ps ms).map fun c => g0 c k.toNat) | _ => .non)]
    · simp [cols, Function.comp_def]
    · intro d hd
      obtain ⟨k, hk, rfl⟩ := List.mem_map.mp hd
      have hk' : k < ps.length := by simpa using hk
      refine ⟨_, rfl, ?_⟩
      simp only [e1, eLc, wipeE, List.set_cons_succ, List.set_cons_zero, List.getElem?_cons_zero, List.getElem?_cons_succ, wSeq, eSh, Option.bind_some]
      have gk : ∀ c ∈ chs ps ms, D.get (tupI c) (.int (k : Int)) = some (.int (g0 c k)) := by
        intro c hc
        obtain ⟨r, hr, rfl⟩ := List.mem_map.mp hc
        have hlen : (vch r).length = ps.length := by rw [vch_length]; exact (vrows_ok r hr).1
        exact g0_tupI (by omega)
      rw [lcM_all (F := fun d => (D.get d (.int (k : Int))).getD .non)]
      · have e : (((chs ps ms).map tupI).map fun d => (D.get d (.int (k : Int))).getD .non) = ((chs ps ms).map fun c => g0 c k).map .int := by
          rw [List.map_map, List.map_map]
          apply List.map_congr_left
          intro c hc
          simp only [Function.comp_def]
          rw [gk c hc]
          rfl
        rw [e]
        rfl
      · intro x hx
        obtain ⟨c, hc, rfl⟩ := List.mem_map.mp hx
        refine ⟨_, rfl, ?_⟩
        simp only [e2, eVar, List.set_cons_succ, List.set_cons_zero, List.getElem?_cons_zero, List.getElem?_cons_succ, Option.bind_some, gk c hc]
        rfl
  rw [seq_nx (ρ' := [some (S.sh (eN ps ms)), some (S.sh (eVs (chs ps ms))), some (S.sh (eVs (cols ps.length (chs ps ms)))), none, none]) (by
    unfold sSet
    rw [hlc]
    rfl)]
  simp only [sRet, e1, eCall, aCons, aNil, eSh, eVar, List.getElem?_cons_zero, List.getElem?_cons_succ, Option.bind_some, D.len, List.length_map, hcl, ls, D.toTup]
theorem move_laws_eq {ps : List Nm} {ms : List Mv} (h : okNet ps ms) (h4 : ps.length ≤ 4) (hm4 : ms.length ≤ 4) (hm1 : 0 < ms.length) (h2 : ∀ v ∈ chs ps ms, ∀ c, -2 ≤ g0 v c ∧ g0 v c ≤ 2) : g_move_laws [eN ps ms] = some (.tup (((sols (chs ps ms) ps.length).mergeSort leL).map tupI)) := by
  have hcl : (chs ps ms).length = ms.length := by simp [chs, vrows]
  have ls := least_solutions_eq (V := chs ps ms) (n := ps.length) (fun v hv => by
    obtain ⟨r, hr, rfl⟩ := List.mem_map.mp hv
    rw [vch_length]; exact (vrows_ok r hr).1) h2 (by omega) (by omega) h4
  unfold g_move_laws fnB b_move_laws
  simp only [List.length_cons, List.length_nil, if_true, List.map_cons, List.map_nil, List.cons_append, List.nil_append, List.replicate]
  simp only [sRet, e1, eCall, aCons, aNil, eSh, List.getElem?_cons_zero, Option.bind_some, changes_eq h, fldP, len_eP, ls, D.toTup]
end F15
end Vl
end
section
set_option Elab.async false
set_option linter.all false
set_option maxRecDepth 100000
/-! what the defs of k15 compute: rank_of -/
namespace Vl
namespace F15
abbrev lstI (x : List Int) : D := .lst (x.map .int)
def tab (N : Nat) (f : Nat → List Int) : D := .lst ((List.range N).map fun k => lstI (f k))
theorem tab_congr {N : Nat} {f g : Nat → List Int} (h : ∀ k, k < N → f k = g k) : tab N f = tab N g := by
  unfold tab
  congr 1
  apply List.map_congr_left
  intro k hk
  rw [h k (List.mem_range.mp hk)]
theorem get_tab {N : Nat} {f : Nat → List Int} {k : Nat} (h : k < N) : D.get (tab N f) (.int (k : Int)) = some (lstI (f k)) := get_lst (by rw [List.getElem?_map, List.getElem?_range h]; rfl)
theorem get_lstI {x : List Int} {k : Nat} (h : k < x.length) : D.get (lstI x) (.int (k : Int)) = some (.int (g0 x k)) := get_lstD h
theorem set_tab {N : Nat} {f : Nat → List Int} {j : Nat} {v : List Int} : ((List.range N).map fun k => lstI (f k)).set j (lstI v) = (List.range N).map fun k => lstI (if k = j then v else f k) := by
  apply List.ext_getElem
  · simp
  · intro i h1 h2
    rw [List.getElem_set]
    simp only [List.getElem_map, List.getElem_range]
    by_cases e : j = i
    · subst e; simp
    · rw [if_neg e, if_neg (fun z => e z.symm)]
def elim (n c : Nat) (p x : List Int) : List Int := (List.range n).map fun k => g0 p c * g0 x k - g0 x c * g0 p k
theorem elim_length {n c : Nat} {p x : List Int} : (elim n c p x).length = n := by simp [elim]
theorem g0_elim {n c : Nat} {p x : List Int} {k : Nat} (h : k < n) : g0 (elim n c p x) k = g0 p c * g0 x k - g0 x c * g0 p k := by
  conv => lhs; unfold g0 elim
  rw [List.getD_eq_getElem?_getD, List.getElem?_map, List.getElem?_range h]
  rfl
abbrev RS := (Nat → List Int) × Nat
def cands (N c : Nat) (s : RS) : List Nat := ((List.range (N - s.2)).map (s.2 + ·)).filter fun i => !decide (g0 (s.1 i) c = 0)
def swp (f : Nat → List Int) (rk i : Nat) : Nat → List Int := fun k => if k = i then f rk else if k = rk then f i else f k
def rstep (N n c : Nat) (s : RS) : RS := match cands N c s with
  | [] => s
  | i :: _ => (fun k => if k ≤ s.2 then swp s.1 s.2 i k else elim n c (s.1 i) (swp s.1 s.2 i k), s.2 + 1)
def rfold (N n : Nat) (s : RS) : Nat → RS
  | 0 => s
  | c + 1 => rstep N n c (rfold N n s c)
/-! the negated -/
theorem mem_cands {N c : Nat} {s : RS} {i : Nat} (h : i ∈ cands N c s) : s.2 ≤ i ∧ i < N := by
  obtain ⟨h1, _⟩ := List.mem_filter.mp h
  obtain ⟨k, hk, rfl⟩ := List.mem_map.mp h1
  have := List.mem_range.mp hk
  omega
def Rel (N n : Nat) (s s' : RS) : Prop := s'.2 = s.2 ∧ ((∀ k, s.2 ≤ k → k < N → s'.1 k = s.1 k) ∨ ∀ k, s.2 ≤ k → k < N → s'.1 k = neg (s.1 k))
theorem elim_neg {n c : Nat} {p x : List Int} : elim n c (neg p) (neg x) = elim n c p x := by
  unfold elim
  apply List.map_congr_left
  intro k _
  rw [g0_neg, g0_neg, g0_neg, g0_neg, Int.neg_mul_neg, Int.neg_mul_neg]
theorem cands_rel {N n c : Nat} {s s' : RS} (h : Rel N n s s') : cands N c s' = cands N c s := by
  unfold cands
  rw [h.1]
  apply List.filter_congr
  intro i hi
  obtain ⟨k, hk, rfl⟩ := List.mem_map.mp hi
  have := List.mem_range.mp hk
  rcases h.2 with h2 | h2
  · rw [h2 _ (by omega) (by omega)]
  · rw [h2 _ (by omega) (by omega), g0_neg]
    congr 1
    by_cases e : g0 (s.1 (s.2 + k)) c = 0
    · rw [e]; rfl
    · rw [decide_eq_false e, decide_eq_false (by omega)]
theorem rstep_rel {N n c : Nat} {s s' : RS} (h : Rel N n s s') : Rel N n (rstep N n c s) (rstep N n c s') := by
  unfold rstep
  rw [cands_rel h]
  cases hc : cands N c s with
  | nil => exact h
  | cons i t =>
    have hi := mem_cands (N := N) (c := c) (s := s) (i := i) (by rw [hc]; exact List.mem_cons_self)
    refine ⟨by simp only [h.1], .inl fun k hk hkN => ?_⟩
    simp only at hk ⊢
    rw [h.1, if_neg (by omega), if_neg (by omega)]
    unfold swp
    rcases h.2 with h2 | h2
    · rw [h2 i hi.1 hi.2]
      congr 1
      by_cases e : k = i
      · rw [if_pos e, if_pos e, h2 s.2 (Nat.le_refl _) (by omega)]
      · rw [if_neg e, if_neg e, if_neg (by omega), if_neg (by omega), h2 k (by omega) hkN]
    · rw [h2 i hi.1 hi.2]
      by_cases e : k = i
      · rw [if_pos e, if_pos e, h2 s.2 (Nat.le_refl _) (by omega), elim_neg]
      · rw [if_neg e, if_neg e, if_neg (by omega), if_neg (by omega), h2 k (by omega) hkN, elim_neg]
theorem rfold_rel {N n : Nat} {s s' : RS} (h : Rel N n s s') : ∀ c, Rel N n (rfold N n s c) (rfold N n s' c)
  | 0 => h
  | c + 1 => rstep_rel (rfold_rel h c)
/-! bounds -/
def BdT (N n : Nat) (T : Int) (f : Nat → List Int) : Prop := ∀ k, k < N → (f k).length = n ∧ ∀ c, -T ≤ g0 (f k) c ∧ g0 (f k) c ≤ T
theorem mul_bd3 {a b T : Int} (h1 : -T ≤ a) (h2 : a ≤ T) (h3 : -T ≤ b) (h4 : b ≤ T) : -(T * T) ≤ a * b ∧ a * b ≤ T * T := by
  by_cases ha : 0 ≤ a
  · exact mul_bd2 ha h2 h3 h4
  · have := mul_bd2 (a := -a) (A := T) (b := b) (B := T) (by omega) (by omega) h3 h4
    rw [Int.neg_mul] at this
    omega
theorem elim_bd {n c : Nat} {p x : List Int} {T : Int} (hp : ∀ c, -T ≤ g0 p c ∧ g0 p c ≤ T) (hx : ∀ c, -T ≤ g0 x c ∧ g0 x c ≤ T) (hT : 0 ≤ T) (k : Nat) : -(2 * (T * T)) ≤ g0 (elim n c p x) k ∧ g0 (elim n c p x) k ≤ 2 * (T * T) := by
  by_cases hk : k < n
  · rw [g0_elim hk]
    have q1 := mul_bd3 (hp c).1 (hp c).2 (hx k).1 (hx k).2
    have q2 := mul_bd3 (hx c).1 (hx c).2 (hp k).1 (hp k).2
    omega
  · rw [g0_ge (by rw [elim_length]; omega)]
    have := Int.mul_nonneg hT hT
    omega
theorem Sb_sq (c : Nat) (hc : c < 4) : 2 * (Sb c * Sb c) = Sb (c + 1) ∧ 0 ≤ Sb c ∧ Sb c ≤ 2147483648 := by
  match c, hc with
  | 0, _ => decide
  | 1, _ => decide
  | 2, _ => decide
  | 3, _ => decide
theorem rstep_bd {N n c : Nat} {s : RS} (hc : c < 4) (h : BdT N n (Sb c) s.1) (hr : s.2 ≤ c) : BdT N n (Sb (c + 1)) (rstep N n c s).1 ∧ (rstep N n c s).2 ≤ c + 1 := by
  have hm := Sb_mono c hc
  obtain ⟨e1, e2, _⟩ := Sb_sq c hc
  unfold rstep
  cases hcd : cands N c s with
  | nil =>
    show BdT N n (Sb (c + 1)) s.1 ∧ s.2 ≤ c + 1
    exact ⟨fun k hk => ⟨(h k hk).1, fun c' => by have := (h k hk).2 c'; omega⟩, by omega⟩
  | cons i t =>
    have hi := mem_cands (N := N) (c := c) (s := s) (i := i) (by rw [hcd]; exact List.mem_cons_self)
    have hs : ∀ k, k < N → (swp s.1 s.2 i k).length = n ∧ ∀ c', -Sb c ≤ g0 (swp s.1 s.2 i k) c' ∧ g0 (swp s.1 s.2 i k) c' ≤ Sb c := by
      intro k hk
      unfold swp
      by_cases e : k = i
      · rw [if_pos e]; exact h _ (by omega)
      · rw [if_neg e]
        by_cases e : k = s.2
        · rw [if_pos e]; exact h _ hi.2
        · rw [if_neg e]; exact h _ hk
    refine ⟨fun k hk => ?_, by simp only; omega⟩
    simp only
    by_cases hks : k ≤ s.2
    · rw [if_pos hks]
      exact ⟨(hs k hk).1, fun c' => by have := (hs k hk).2 c'; omega⟩
    · rw [if_neg hks]
      refine ⟨elim_length, fun c' => ?_⟩
      have := elim_bd (n := n) (c := c) (h i hi.2).2 (hs k hk).2 e2 c'
      omega
theorem rfold_bd {N n : Nat} {s : RS} (h : BdT N n (Sb 0) s.1) (hr : s.2 = 0) : ∀ c, c ≤ 4 → BdT N n (Sb c) (rfold N n s c).1 ∧ (rfold N n s c).2 ≤ c
  | 0, _ => ⟨h, by show s.2 ≤ 0; omega⟩
  | c + 1, hc => by
    obtain ⟨h1, h2⟩ := rfold_bd h hr c (by omega)
    exact rstep_bd (by omega) h1 h2
/-! the program -/
theorem range2_eq {ρ : En} {f g : FE} {m n : Nat} (hf : f ρ = some (.int (m : Int))) (hg : g ρ = some (.int (n : Int))) (hm : m < 1000) (hn : n < 1000) : wRange2 f g ρ = some ((List.range (n - m)).map fun (k : Nat) => D.int ((m + k : Nat) : Int)) := by
  unfold wRange2
  rw [hf, hg]
  simp only [Option.bind_some]
  rw [if_pos (by omega)]
  have : ((n : Int) - (m : Int)).toNat = n - m := by omega
  rw [this]
  congr 1
def bE : FS := (sSeq (sSet 8 (e2 D.get (e2 D.get (eVar 1) (eVar 7)) (eVar 3)))
  (sPut 1 (eVar 7) (eLc (wRange (e1 D.len (eVar 6))) (gN 9) (tY) (e2 D.sub (e2 D.mul (e2 D.get (eVar 6) (eVar 3)) (e2 D.get (e2 D.get (eVar 1) (eVar 7)) (eVar 9))) (e2 D.mul (eVar 8) (e2 D.get (eVar 6) (eVar 9)))) [9])))
theorem bE_ok {N n c j : Nat} {f : Nat → List Int} {p : List Int} {nt : D} {rk x4 x5 x8 x9 : Option S} (hj : j < N) (hc : c < n) (hn : n < 100) (hp : p.length = n) (hf : (f j).length = n) (hpb : -18446744073709551616 < g0 p c ∧ g0 p c < 18446744073709551616) (hfb : -18446744073709551616 < g0 (f j) c ∧ g0 (f j) c < 18446744073709551616) :
    bE [some (S.sh nt), some (S.ow (tab N f)), rk, some (.sh (.int (c : Int))), x4, x5, some (.sh (lstI p)), some (.sh (.int (j : Int))), x8, x9] = some (.nx [some (S.sh nt), some (S.ow (tab N fun k => if k = j then elim n c p (f j) else f k)), rk, some (.sh (.int (c : Int))), x4, x5, some (.sh (lstI p)), some (.sh (.int (j : Int))), some (.sh (.int (g0 (f j) c))), x9]) := by
  have gj := get_tab (f := f) hj
  have gc := get_lstI (x := f j) (k := c) (by omega)
  have gp := get_lstI (x := p) (k := c) (by omega)
  unfold bE
  rw [seq_nx (ρ' := [some (S.sh nt), some (S.ow (tab N f)), rk, some (.sh (.int (c : Int))), x4, x5, some (.sh (lstI p)), some (.sh (.int (j : Int))), some (.sh (.int (g0 (f j) c))), x9]) (by
    simp only [sSet, e2, eVar, List.getElem?_cons_zero, List.getElem?_cons_succ, Option.bind_some, gj, gc, List.set_cons_succ, List.set_cons_zero])]
  have hlc : eLc (wRange (e1 D.len (eVar 6))) (gN 9) (tY) (e2 D.sub (e2 D.mul (e2 D.get (eVar 6) (eVar 3)) (e2 D.get (e2 D.get (eVar 1) (eVar 7)) (eVar 9))) (e2 D.mul (eVar 8) (e2 D.get (eVar 6) (eVar 9)))) [9] [some (S.sh nt), some (S.ow (tab N f)), rk, some (.sh (.int (c : Int))), x4, x5, some (.sh (lstI p)), some (.sh (.int (j : Int))), some (.sh (.int (g0 (f j) c))), x9] = some (lstI (elim n c p (f j))) := by
    simp only [eLc, wRange, e1, eVar, List.getElem?_cons_zero, List.getElem?_cons_succ, Option.bind_some, D.len, List.length_map]
    rw [if_pos (by omega)]
    simp only [Option.bind_some, Int.toNat_natCast]
    rw [lcM_all (F := fun d => match d with | .int k => .int (g0 p c * g0 (f j) k.toNat - g0 (f j) c * g0 p k.toNat) | _ => .non)]
    · simp [lstI, elim, Function.comp_def, hp]
    · intro d hd
      obtain ⟨k, hk, rfl⟩ := List.mem_map.mp hd
      have hk' : k < p.length := by simpa using hk
      refine ⟨_, rfl, ?_⟩
      have g1 := get_lstI hk'
      have g2 := get_lstI (x := f j) (k := k) (by omega)
      simp only [e2, eVar, wipeE, List.set_cons_succ, List.set_cons_zero, List.getElem?_cons_zero, List.getElem?_cons_succ, Option.bind_some, gj, gp, g1, g2, mul_l hpb.1 hpb.2, mul_l hfb.1 hfb.2, D.sub, Int.toNat_natCast]
  unfold sPut
  rw [hlc]
  simp only [tab, Option.bind_some, List.getElem?_cons_zero, List.getElem?_cons_succ, eVar, List.length_map, List.length_range, ixN_nat hj, set_tab, List.set_cons_succ, List.set_cons_zero]
def eF (n c rk : Nat) (f : Nat → List Int) (i : Nat) : Nat → List Int := fun k => if k ≤ rk ∨ rk + i < k then f k else elim n c (f rk) (f k)
theorem elim_loop {N n c rk : Nat} {f : Nat → List Int} {T : Int} {nt : D} {r2 x4 x5 x7 x8 x9 : Option S} (hb : BdT N n T f) (hT : T < 18446744073709551616) (hc : c < n) (hn : n < 100) (hrk : rk < N) : ∃ y7 y8, forM (gN 7) bE ((List.range (N - (rk + 1))).map fun (k : Nat) => D.int ((rk + 1 + k : Nat) : Int)) [some (S.sh nt), some (S.ow (tab N f)), r2, some (.sh (.int (c : Int))), x4, x5, some (.sh (lstI (f rk))), x7, x8, x9] = some (.nx [some (S.sh nt), some (S.ow (tab N fun k => if k ≤ rk then f k else elim n c (f rk) (f k))), r2, some (.sh (.int (c : Int))), x4, x5, some (.sh (lstI (f rk))), y7, y8, x9]) := by
  have loop := forM_ok (g := gN 7) (b := bE) (xs := (List.range (N - (rk + 1))).map fun (k : Nat) => D.int ((rk + 1 + k : Nat) : Int))
    (fun i ρ => ∃ y7 y8, i ≤ N - (rk + 1) ∧ ρ = [some (S.sh nt), some (S.ow (tab N (eF n c rk f i))), r2, some (.sh (.int (c : Int))), x4, x5, some (.sh (lstI (f rk))), y7, y8, x9]) ?_ (ρ := [some (S.sh nt), some (S.ow (tab N f)), r2, some (.sh (.int (c : Int))), x4, x5, some (.sh (lstI (f rk))), x7, x8, x9]) ⟨x7, x8, Nat.zero_le _, by
      rw [tab_congr (f := f) (g := eF n c rk f 0) fun k _ => by unfold eF; rw [if_pos (by omega)]]⟩
  · obtain ⟨ρ', h1, y7, y8, _, rfl⟩ := loop
    rw [List.length_map, List.length_range] at h1
    refine ⟨y7, y8, ?_⟩
    rw [h1]
    rw [tab_congr (f := eF n c rk f (N - (rk + 1))) (g := fun k => if k ≤ rk then f k else elim n c (f rk) (f k)) fun k hk => by
      unfold eF
      by_cases e : k ≤ rk
      · rw [if_pos (.inl e), if_pos e]
      · rw [if_neg (by omega), if_neg e]]
  · rintro i d ρ hx ⟨y7, y8, hi', rfl⟩
    rw [List.getElem?_map] at hx
    obtain ⟨k, hk, rfl⟩ := Option.map_eq_some_iff.mp hx
    obtain ⟨hi, hk2⟩ := List.getElem?_eq_some_iff.mp hk
    rw [List.length_range] at hi
    rw [List.getElem_range] at hk2
    subst hk2
    have hj : rk + 1 + i < N := by omega
    have eqj : eF n c rk f i (rk + 1 + i) = f (rk + 1 + i) := if_pos (by omega)
    have b1 := hb rk hrk
    have b2 := hb (rk + 1 + i) hj
    have st := bE_ok (N := N) (n := n) (c := c) (j := rk + 1 + i) (f := eF n c rk f i) (p := f rk) (nt := nt) (rk := r2) (x4 := x4) (x5 := x5) (x8 := y8) (x9 := x9) hj hc hn b1.1 (by rw [eqj]; exact b2.1) (by have := b1.2 c; omega) (by rw [eqj]; have := b2.2 c; omega)
    rw [eqj] at st
    rw [tab_congr (f := fun k => if k = rk + 1 + i then elim n c (f rk) (f (rk + 1 + i)) else eF n c rk f i k) (g := eF n c rk f (i + 1)) fun k hk => by
      unfold eF
      by_cases e : k = rk + 1 + i
      · subst e
        rw [if_pos rfl, if_neg (by omega)]
      · rw [if_neg e]
        by_cases e2 : k ≤ rk ∨ rk + i < k
        · rw [if_pos e2, if_pos (by omega)]
        · rw [if_neg e2, if_neg (by omega)]] at st
    exact ⟨[some (S.sh nt), some (S.ow (tab N (eF n c rk f i))), r2, some (.sh (.int (c : Int))), x4, x5, some (.sh (lstI (f rk))), some (.sh (.int ((rk + 1 + i : Nat) : Int))), y8, x9], rfl, _, .inl st, some (.sh (.int ((rk + 1 + i : Nat) : Int))), some (.sh (.int (g0 (f (rk + 1 + i)) c))), hi, rfl⟩
/-- one column -/
def bR : FS := (sSeq (sSet 4 (eLc (wRange2 (eVar 2) (e1 D.len (eVar 1))) (gN 7) (t2 D.ne (e2 D.get (e2 D.get (eVar 1) (eVar 7)) (eVar 3)) (eC (.int 0))) (eSh 7) [7]))
  (sIf (t2 D.gt (e1 D.len (eVar 4)) (eC (.int 0))) (sSeq (sPut2 1 (eVar 2) (e2 D.get (eVar 4) (eC (.int 0))) (e2 D.get (eVar 1) (e2 D.get (eVar 4) (eC (.int 0)))) (e2 D.get (eVar 1) (eVar 2)))
  (sSeq (sSet 6 (e2 D.get (eVar 1) (eVar 2)))
  (sSeq (sFor (wRange2 (e2 D.add (eSh 2) (eC (.int 1))) (e1 D.len (eVar 1))) (gN 7) bE)
  (sAug 2 (eC (.int 1)))))) (sNext)))
theorem len_tab {N : Nat} {f : Nat → List Int} : D.len (tab N f) = some (.int (N : Int)) := by simp [tab, D.len]
theorem column {N n c : Nat} {s : RS} {T : Int} {nt : D} {x4 x5 x6 x7 x8 x9 : Option S} (hb : BdT N n T s.1) (hT : T < 18446744073709551616) (hc : c < n) (hn : n < 100) (hN : N < 100) (hs : s.2 < 100) : ∃ y4 y6 y7 y8, bR [some (S.sh nt), some (S.ow (tab N s.1)), some (.sh (.int (s.2 : Int))), some (.sh (.int (c : Int))), x4, x5, x6, x7, x8, x9] = some (.nx [some (S.sh nt), some (S.ow (tab N (rstep N n c s).1)), some (.sh (.int ((rstep N n c s).2 : Int))), some (.sh (.int (c : Int))), y4, x5, y6, y7, y8, x9]) := by
  obtain ⟨f, rk⟩ := s
  simp only at hb hs ⊢
  have hcd : eLc (wRange2 (eVar 2) (e1 D.len (eVar 1))) (gN 7) (t2 D.ne (e2 D.get (e2 D.get (eVar 1) (eVar 7)) (eVar 3)) (eC (.int 0))) (eSh 7) [7] [some (S.sh nt), some (S.ow (tab N f)), some (.sh (.int (rk : Int))), some (.sh (.int (c : Int))), x4, x5, x6, x7, x8, x9] = some (eK (cands N c (f, rk))) := by
    simp only [eLc]
    rw [range2_eq (m := rk) (n := N) rfl (by simp only [e1, eVar, List.getElem?_cons_zero, List.getElem?_cons_succ, Option.bind_some, len_tab]) (by omega) (by omega), Option.bind_some]
    rw [lcM_ok (p := fun d => match d with | .int k => !decide (g0 (f k.toNat) c = 0) | _ => false) (F := fun d => d)]
    · simp only [Option.bind_some, cands, List.filter_map, List.map_map, Function.comp_def, Int.toNat_natCast, eK]
    · intro d hd
      obtain ⟨k, hk, rfl⟩ := List.mem_map.mp hd
      have hk := List.mem_range.mp hk
      have gk := get_tab (f := f) (show rk + k < N by omega)
      have gc := get_lstI (x := f (rk + k)) (k := c) (by rw [(hb _ (show rk + k < N by omega)).1]; exact hc)
      refine ⟨_, rfl, ?_, fun _ => rfl⟩
      simp only [t2, tE, e2, eVar, eC, wipeE, List.set_cons_succ, List.set_cons_zero, List.getElem?_cons_zero, List.getElem?_cons_succ, Option.bind_some, gk, gc, D.ne, D.isScal, if_true, D.eqv, eq0, Int.toNat_natCast]
  unfold bR
  rw [seq_nx (ρ' := [some (S.sh nt), some (S.ow (tab N f)), some (.sh (.int (rk : Int))), some (.sh (.int (c : Int))), some (.sh (eK (cands N c (f, rk)))), x5, x6, x7, x8, x9]) (by
    unfold sSet
    rw [hcd]
    rfl)]
  unfold rstep
  cases hcs : cands N c (f, rk) with
  | nil =>
    refine ⟨some (.sh (eK [])), x6, x7, x8, ?_⟩
    rw [ifF (by rfl)]
    rfl
  | cons i t =>
    have hi := mem_cands (N := N) (c := c) (s := (f, rk)) (i := i) (by rw [hcs]; exact List.mem_cons_self)
    simp only at hi ⊢
    have gi0 : D.get (eK (i :: t)) (.int 0) = some (.int (i : Int)) := get_lst (k := 0) rfl
    have gi := get_tab (f := f) hi.2
    have gr' := get_tab (f := f) (show rk < N by omega)
    have hsw : BdT N n T (swp f rk i) := by
      intro k hk
      unfold swp
      by_cases e : k = i
      · rw [if_pos e]; exact hb _ (by omega)
      · rw [if_neg e]
        by_cases e : k = rk
        · rw [if_pos e]; exact hb _ hi.2
        · rw [if_neg e]; exact hb _ hk
    have hpv : swp f rk i rk = f i := by
      unfold swp
      by_cases e : rk = i
      · rw [if_pos e, e]
      · rw [if_neg e, if_pos rfl]
    obtain ⟨y7, y8, lp⟩ := elim_loop (nt := nt) (r2 := some (.sh (.int (rk : Int)))) (x4 := some (.sh (eK (i :: t)))) (x5 := x5) (x7 := x7) (x8 := x8) (x9 := x9) hsw hT hc hn (show rk < N by omega)
    have gs := get_tab (f := swp f rk i) (show rk < N by omega)
    refine ⟨some (.sh (eK (i :: t))), some (.sh (lstI (swp f rk i rk))), y7, y8, ?_⟩
    rw [ifT (by
      simp only [t2, tE, e2, e1, eVar, eC, List.getElem?_cons_zero, List.getElem?_cons_succ, Option.bind_some, D.len, D.gt, List.length_map, List.length_cons]
      rw [decide_eq_true (by omega)])]
    rw [seq_nx (ρ' := [some (S.sh nt), some (S.ow (tab N (swp f rk i))), some (.sh (.int (rk : Int))), some (.sh (.int (c : Int))), some (.sh (eK (i :: t))), x5, x6, x7, x8, x9]) (by
      have e : (List.range N).map (fun k => lstI (if k = i then f rk else if k = rk then f i else f k)) = (List.range N).map fun k => lstI (swp f rk i k) := rfl
      simp only [sPut2, e2, eVar, eC, List.getElem?_cons_zero, List.getElem?_cons_succ, Option.bind_some, gi0, gi, gr']
      simp only [tab, List.length_map, List.length_range, ixN_nat (show rk < N by omega), Option.bind_some, List.set_cons_succ, List.set_cons_zero, List.getElem?_cons_zero, List.getElem?_cons_succ, gi0, ixN_nat hi.2, set_tab]
      rw [e])]
    rw [seq_nx (ρ' := [some (S.sh nt), some (S.ow (tab N (swp f rk i))), some (.sh (.int (rk : Int))), some (.sh (.int (c : Int))), some (.sh (eK (i :: t))), x5, some (.sh (lstI (swp f rk i rk))), x7, x8, x9]) (by
      simp only [sSet, e2, eVar, List.getElem?_cons_zero, List.getElem?_cons_succ, Option.bind_some, gs, List.set_cons_succ, List.set_cons_zero])]
    rw [seq_nx (for_nx (range2_eq (m := rk + 1) (n := N) (by simp [e2, eSh, eC, D.add]) (by simp only [e1, eVar, List.getElem?_cons_zero, List.getElem?_cons_succ, Option.bind_some, len_tab]) (by omega) (by omega)) lp)]
    simp only [sAug, eSh, eC, List.getElem?_cons_zero, List.getElem?_cons_succ, Option.bind_some, List.set_cons_succ, List.set_cons_zero]
    rw [hpv]
    rfl
theorem rank_eq {ps : List Nm} {ms : List Mv} (h : okNet ps ms) (h4 : ps.length ≤ 4) (hm4 : ms.length ≤ 4) (h2 : ∀ v ∈ chs ps ms, ∀ c, -2 ≤ g0 v c ∧ g0 v c ≤ 2) : g_rank_of [eN ps ms] = some (.int ((rfold ms.length ps.length ((fun k => (chs ps ms).getD k []), 0) ps.length).2 : Nat)) := by
  have hcl : (chs ps ms).length = ms.length := by simp [chs, vrows]
  have hb0 : BdT ms.length ps.length (Sb 0) (fun k => (chs ps ms).getD k []) := by
    intro k hk
    have hm := getD_memV (V := chs ps ms) (i := k) (by omega)
    refine ⟨?_, fun c => h2 _ hm c⟩
    obtain ⟨r, hr, e⟩ := List.mem_map.mp hm
    show ((chs ps ms).getD k []).length = _
    rw [← e, vch_length]; exact (vrows_ok r hr).1
  have hst : eLc (wSeq (eCall g_changes_of (aCons (eSh 0) (aNil)))) (gN 5) (tY) (e1 D.toLst (eVar 5)) [5] [some (S.sh (eN ps ms)), none, none, none, none, none, none, none, none, none] = some (tab ms.length (fun k => (chs ps ms).getD k [])) := by
    simp only [eLc]
    rw [show wSeq (eCall g_changes_of (aCons (eSh 0) aNil)) [some (S.sh (eN ps ms)), none, none, none, none, none, none, none, none, none] = some ((chs ps ms).map tupI) by
      simp [wSeq, eCall, aCons, aNil, eSh, changes_eq h], Option.bind_some]
    rw [lcM_all (F := fun d => match d with | .tup l => .lst l | _ => .non)]
    · have : (((chs ps ms).map tupI).map fun d => match d with | .tup l => D.lst l | _ => .non) = (List.range ms.length).map fun k => lstI ((chs ps ms).getD k []) := by
        apply List.ext_getElem
        · simp [hcl]
        · intro i h1 h2
          simp only [List.getElem_map, List.getElem_range, tupI]
          rw [List.getD_eq_getElem?_getD, List.getElem?_eq_getElem (by simpa using h1)]
          rfl
      rw [this]
      rfl
    · intro x hx
      obtain ⟨c, hc, rfl⟩ := List.mem_map.mp hx
      exact ⟨_, rfl, rfl⟩
  generalize (fun k => (chs ps ms).getD k []) = f at *
  have loop := forM_ok (g := gN 3) (b := bR) (xs := (List.range ps.length).map fun (k : Nat) => D.int (k : Int))
    (fun i ρ => ∃ x3 x4 x5 x6 x7 x8 x9, i ≤ ps.length ∧ ρ = [some (S.sh (eN ps ms)), some (S.ow (tab ms.length (rfold ms.length ps.length (f, 0) i).1)), some (.sh (.int ((rfold ms.length ps.length (f, 0) i).2 : Int))), x3, x4, x5, x6, x7, x8, x9]) ?_ (ρ := [some (S.sh (eN ps ms)), some (S.ow (tab ms.length f)), some (.sh (.int ((0 : Nat) : Int))), none, none, none, none, none, none, none]) ⟨none, none, none, none, none, none, none, Nat.zero_le _, rfl⟩
  · obtain ⟨ρ', q1, y3, y4, y5, y6, y7, y8, y9, _, rfl⟩ := loop
    rw [List.length_map, List.length_range] at q1
    unfold g_rank_of fnB b_rank_of
    simp only [List.length_cons, List.length_nil, if_true, List.map_cons, List.map_nil, List.cons_append, List.nil_append, List.replicate]
    rw [seq_nx (ρ' := [some (S.sh (eN ps ms)), some (S.ow (tab ms.length f)), none, none, none, none, none, none, none, none]) (by
        unfold sOwn
        rw [hst]
        rfl), seq_nx (ρ' := [some (S.sh (eN ps ms)), some (S.ow (tab ms.length f)), some (.sh (.int ((0 : Nat) : Int))), none, none, none, none, none, none, none]) (by simp [sSet, eC])]
    unfold bR bE at q1
    rw [seq_nx (for_nx (by
      simp only [wRange, e1, eSh, List.getElem?_cons_zero, Option.bind_some, fldP, len_eP]
      rw [if_pos (by omega)]
      rfl) q1)]
    rfl
  · rintro i d ρ hx ⟨x3, x4, x5, x6, x7, x8, x9, hi', rfl⟩
    rw [List.getElem?_map] at hx
    obtain ⟨k, hk, rfl⟩ := Option.map_eq_some_iff.mp hx
    obtain ⟨hi, hk2⟩ := List.getElem?_eq_some_iff.mp hk
    rw [List.length_range] at hi
    rw [List.getElem_range] at hk2
    subst hk2
    obtain ⟨b1, b2⟩ := rfold_bd (s := (f, 0)) hb0 rfl i (by omega)
    obtain ⟨y4, y6, y7, y8, st⟩ := column (nt := eN ps ms) (c := i) (x4 := x4) (x5 := x5) (x6 := x6) (x7 := x7) (x8 := x8) (x9 := x9) b1 (by have := (Sb_sq i (by omega)).2.2; omega) hi (by omega) (by omega) (by omega)
    exact ⟨_, rfl, _, .inl st, some (.sh (.int (i : Int))), y4, x5, y6, y7, y8, x9, hi, rfl⟩
theorem rank_turned {ps : List Nm} {ms : List Mv} : (rfold ms.length ps.length ((fun k => (chs ps (ms.map sw)).getD k []), 0) ps.length).2 = (rfold ms.length ps.length ((fun k => (chs ps ms).getD k []), 0) ps.length).2 :=
  (rfold_rel (N := ms.length) (n := ps.length) (s := ((fun k => (chs ps ms).getD k []), 0)) (s' := ((fun k => (chs ps (ms.map sw)).getD k []), 0)) ⟨rfl, .inr fun k _ _ => by
    show (chs ps (ms.map sw)).getD k [] = neg ((chs ps ms).getD k [])
    rw [chs_sw, getD_map_neg]⟩ ps.length).1
end F15
end Vl
end
section
set_option Elab.async false
set_option linter.all false
set_option maxRecDepth 100000
/-! what the defs of k15 compute: machine parts -/
namespace Vl
namespace F15
abbrev eT (t : List Nat) : D := .tup (t.map fun (k : Nat) => D.int (k : Int))
/-! where one comes to -/
def edge (f : List Rw) (u v : Nat) : Prop := ∃ r ∈ f, 0 < g0 r.2.1 u ∧ 0 < g0 r.2.2 v
inductive Rch (t : List Nat) (f : List Rw) (p : Nat) : Nat → Prop
  | base : Rch t f p p
  | step {u v : Nat} : Rch t f p u → v ∈ t → edge f u v → Rch t f p v
theorem Rch.trans {t : List Nat} {f : List Rw} {p q r : Nat} (h1 : Rch t f p q) (h2 : Rch t f q r) : Rch t f p r := by
  induction h2 with
  | base => exact h1
  | step _ hv he ih => exact .step ih hv he
theorem Rch.mem {t : List Nat} {f : List Rw} {p q : Nat} (hp : p ∈ t) (h : Rch t f p q) : q ∈ t := by
  cases h with
  | base => exact hp
  | step _ hv _ => exact hv
theorem edge_sw {f : List Rw} {u v : Nat} (h : edge f u v) : edge (f.map swR) v u := by
  obtain ⟨r, hr, h1, h2⟩ := h
  exact ⟨swR r, List.mem_map.mpr ⟨r, hr, rfl⟩, h2, h1⟩
theorem Rch.back {t : List Nat} {f : List Rw} {p q : Nat} (hp : p ∈ t) (h : Rch t f p q) : Rch t (f.map swR) q p := by
  induction h with
  | base => exact .base
  | step h1 hv he ih => exact Rch.trans (.step .base (h1.mem hp) (edge_sw he)) ih
theorem has_eK {neg : Bool} {ks : List Nat} {k : Nat} : D.has neg (.int (k : Int)) (eK ks) = some (.bl (if neg then !decide (k ∈ ks) else decide (k ∈ ks))) := by
  have e : ((ks.map fun (k : Nat) => D.int (k : Int)).any fun z => D.eqv z (.int (k : Int))) = decide (k ∈ ks) := by
    rw [Bool.eq_iff_iff, List.any_map, List.any_eq_true, decide_eq_true_iff]
    constructor
    · rintro ⟨j, hj, h⟩
      simp only [Function.comp_def, D.eqv, beq_iff_eq] at h
      have : j = k := by omega
      rw [← this]; exact hj
    · intro h
      exact ⟨k, h, by simp [D.eqv]⟩
  unfold D.has D.isIn
  simp only
  rw [if_pos, e]
  rw [Bool.and_eq_true]
  exact ⟨by simp [D.okd], by simp only [D.okd]; exact okdL_map fun x _ => by simp [D.okd]⟩
theorem get_eK {ks : List Nat} {i : Nat} (h : i < ks.length) : D.get (eK ks) (.int (i : Int)) = some (.int ((ks.getD i 0 : Nat) : Int)) := get_lst (by rw [List.getElem?_map, List.getD_eq_getElem?_getD, List.getElem?_eq_getElem h]; rfl)
theorem len_eK {ks : List Nat} : D.len (eK ks) = some (.int (ks.length : Int)) := by simp [D.len]
/-- one move looked at -/
def nxt (t : List Nat) (L : List Nat) (u : Nat) (r : Rw) : List Nat := if 0 < g0 r.2.1 u then L ++ t.filter (fun q => decide (0 < g0 r.2.2 q) && !decide (q ∈ L)) else L
def cfEn (f : List Rw) (t : List Nat) (p : D) (L : List Nat) (k : Nat) (x5 x6 x7 x8 : Option S) : En := [some (S.sh (eRs f)), some (S.sh (eT t)), some (S.sh p), some (S.sh (eK L)), some (.sh (.int (k : Int))), x5, x6, x7, x8]
def bCf : FS := (sIf (t2 D.gt (e2 D.get (eVar 6) (e2 D.get (eVar 3) (eVar 4))) (eC (.int 0))) (sSet 3 (e2 D.add (eSh 3) (eLc (wSeq (eSh 1)) (gN 8) (tAnd (t2 D.gt (e2 D.get (eVar 7) (eVar 8)) (eC (.int 0))) (t2 (D.has true) (eVar 8) (eVar 3))) (eSh 8) [8]))) (sNext))
theorem nodup_len : ∀ {a b : List Nat}, a.Nodup → (∀ m ∈ a, m ∈ b) → a.length ≤ b.length
  | [], _, _, _ => Nat.zero_le _
  | x :: a, b, nd, h => by
    rw [List.nodup_cons] at nd
    have hx : x ∈ b := h x List.mem_cons_self
    have := nodup_len (a := a) (b := b.erase x) nd.2 fun m hm => (List.mem_erase_of_ne (fun e => nd.1 (by rw [← e]; exact hm))).mpr (h m (List.mem_cons_of_mem _ hm))
    rw [List.length_erase_of_mem hx] at this
    have : 0 < b.length := List.length_pos_of_mem hx
    rw [List.length_cons]
    omega
theorem e2_eq {h : D → D → Option D} {f g : FE} {ρ : En} {a b : D} (h1 : f ρ = some a) (h2 : g ρ = some b) : e2 h f g ρ = h a b := by
  unfold e2
  rw [h1, Option.bind_some, h2, Option.bind_some]
theorem bCf_ok {n : Nat} {f : List Rw} {t L : List Nat} {p : D} {k : Nat} {r : Rw} {x5 x6 x7 x8 : Option S} (hr : okRw n r) (ht : ∀ q ∈ t, q < n) (hL : ∀ q ∈ L, q < n) (hk : k < L.length) (hl : L.length + t.length < 1000) : ∃ y5 y6 y7 y8, gT [gN 5, gN 6, gN 7] (eRw r) (cfEn f t p L k x5 x6 x7 x8) = some (cfEn f t p L k y5 y6 y7 y8) ∧ bCf (cfEn f t p L k y5 y6 y7 y8) = some (.nx (cfEn f t p (nxt t L (L.getD k 0) r) k y5 y6 y7 y8)) := by
  refine ⟨some (.sh (.str r.1)), some (.sh (tupI r.2.1)), some (.sh (tupI r.2.2)), x8, rfl, ?_⟩
  have gk := get_eK hk
  have hu : L.getD k 0 < n := by
    rw [List.getD_eq_getElem?_getD, List.getElem?_eq_getElem hk]
    exact hL _ (List.getElem_mem hk)
  generalize L.getD k 0 = u at *
  have gu := g0_tupI (xs := r.2.1) (k := u) (by rw [hr.1]; exact hu)
  have tt : ∀ ρ : En, ρ = (cfEn f t p L k (some (.sh (.str r.1))) (some (.sh (tupI r.2.1))) (some (.sh (tupI r.2.2))) x8) → (t2 D.gt (e2 D.get (eVar 6) (e2 D.get (eVar 3) (eVar 4))) (eC (.int 0))) ρ = some (decide (0 < g0 r.2.1 u)) := by
    rintro ρ rfl
    simp only [cfEn, t2, tE, e2, eVar, eC, List.getElem?_cons_zero, List.getElem?_cons_succ, Option.bind_some, gk, gu, D.gt]
  unfold nxt
  by_cases h : 0 < g0 r.2.1 u
  · rw [if_pos h]
    unfold bCf
    rw [ifT (by rw [tt _ rfl, decide_eq_true h])]
    have hlc : eLc (wSeq (eSh 1)) (gN 8) (tAnd (t2 D.gt (e2 D.get (eVar 7) (eVar 8)) (eC (.int 0))) (t2 (D.has true) (eVar 8) (eVar 3))) (eSh 8) [8] (cfEn f t p L k (some (.sh (.str r.1))) (some (.sh (tupI r.2.1))) (some (.sh (tupI r.2.2))) x8) = some (eK (t.filter (fun q => decide (0 < g0 r.2.2 q) && !decide (q ∈ L)))) := by
      simp only [cfEn, eLc, wSeq, eSh, List.getElem?_cons_zero, List.getElem?_cons_succ, Option.bind_some]
      rw [lcM_ok (p := fun d => match d with | .int q => decide (0 < g0 r.2.2 q.toNat) && !decide (q.toNat ∈ L) | _ => false) (F := fun d => d)]
      · simp only [Option.bind_some, List.filter_map, List.map_map, Function.comp_def, Int.toNat_natCast, eK]
      · intro d hd
        obtain ⟨q, hq, rfl⟩ := List.mem_map.mp hd
        have gq := g0_tupI (xs := r.2.2) (k := q) (by rw [hr.2]; exact ht q hq)
        refine ⟨_, rfl, ?_, fun _ => rfl⟩
        simp only [tAnd, t2, tE, e2, eVar, eC, wipeE, List.set_cons_succ, List.set_cons_zero, List.getElem?_cons_zero, List.getElem?_cons_succ, Option.bind_some, gq, D.gt, has_eK, Int.toNat_natCast]
        cases decide (0 < g0 r.2.2 q) <;> rfl
    unfold sSet
    rw [e2_eq (a := eK L) rfl hlc]
    have hfl := List.length_filter_le (fun q => decide (0 < g0 r.2.2 q) && !decide (q ∈ L)) t
    rw [add_lst (by simp only [List.length_map]; omega), Option.bind_some, ← List.map_append]
    rfl
  · rw [if_neg h]
    unfold bCf
    rw [ifF (by rw [tt _ rfl, decide_eq_false h])]
    rfl
/-- what holds of the list -/
def LI (t : List Nat) (f : List Rw) (p : Nat) (L : List Nat) : Prop := L.Nodup ∧ (∀ q ∈ L, q ∈ t ∧ Rch t f p q) ∧ p ∈ L
theorem nxt_LI {t : List Nat} {f : List Rw} {p u : Nat} {L : List Nat} {r : Rw} (nd : t.Nodup) (hr : r ∈ f) (h : LI t f p L) (hu : u ∈ L) : LI t f p (nxt t L u r) ∧ (∃ l, nxt t L u r = L ++ l) ∧ ∀ v ∈ t, 0 < g0 r.2.1 u → 0 < g0 r.2.2 v → v ∈ nxt t L u r := by
  unfold nxt
  by_cases h0 : 0 < g0 r.2.1 u
  · rw [if_pos h0]
    refine ⟨⟨?_, ?_, List.mem_append_left _ h.2.2⟩, ⟨_, rfl⟩, ?_⟩
    · rw [List.nodup_append]
      refine ⟨h.1, nd.sublist List.filter_sublist, fun a ha b hb e => ?_⟩
      have := (List.mem_filter.mp hb).2
      rw [Bool.and_eq_true] at this
      rw [← e] at this
      simp [ha] at this
    · intro q hq
      rcases List.mem_append.mp hq with z | z
      · exact h.2.1 q z
      · obtain ⟨z1, z2⟩ := List.mem_filter.mp z
        rw [Bool.and_eq_true] at z2
        exact ⟨z1, .step (h.2.1 u hu).2 z1 ⟨r, hr, h0, of_decide_eq_true z2.1⟩⟩
    · intro v hv _ h2
      by_cases hvL : v ∈ L
      · exact List.mem_append_left _ hvL
      · apply List.mem_append_right
        rw [List.mem_filter]
        exact ⟨hv, by rw [Bool.and_eq_true]; exact ⟨decide_eq_true h2, by rw [decide_eq_false hvL]; rfl⟩⟩
  · rw [if_neg h0]
    exact ⟨h, ⟨[], by simp⟩, fun v _ h1 => absurd h1 h0⟩
theorem getD_appN {L l : List Nat} {k : Nat} (h : k < L.length) : (L ++ l).getD k 0 = L.getD k 0 := by
  rw [List.getD_eq_getElem?_getD, List.getD_eq_getElem?_getD, List.getElem?_append_left h]
theorem getD_memN {L : List Nat} {k : Nat} (h : k < L.length) : L.getD k 0 ∈ L := by
  rw [List.getD_eq_getElem?_getD, List.getElem?_eq_getElem h]
  exact List.getElem_mem _
theorem for_cf {n : Nat} {f : List Rw} {t : List Nat} {p k : Nat} (hf : ∀ r ∈ f, okRw n r) (ht : ∀ q ∈ t, q < n) (nd : t.Nodup) (htl : t.length < 100) : ∀ {l : List Rw} {L : List Nat} {x5 x6 x7 x8 : Option S}, (∀ r ∈ l, r ∈ f) → k < L.length → LI t f p L → ∃ L' y5 y6 y7 y8, forM (gT [gN 5, gN 6, gN 7]) bCf (l.map eRw) (cfEn f t (.int (p : Int)) L k x5 x6 x7 x8) = some (.nx (cfEn f t (.int (p : Int)) L' k y5 y6 y7 y8)) ∧ LI t f p L' ∧ (∃ l, L' = L ++ l) ∧ ∀ r ∈ l, ∀ v ∈ t, 0 < g0 r.2.1 (L.getD k 0) → 0 < g0 r.2.2 v → v ∈ L'
  | [], L, x5, x6, x7, x8, _, hk, h => ⟨L, x5, x6, x7, x8, rfl, h, ⟨[], by simp⟩, fun _ h => nomatch h⟩
  | r :: l, L, x5, x6, x7, x8, hl, hk, h => by
    have hrf := hl r List.mem_cons_self
    have hlen := nodup_len h.1 fun q hq => (h.2.1 q hq).1
    obtain ⟨z5, z6, z7, z8, h1, h2⟩ := bCf_ok (f := f) (p := .int (p : Int)) (x5 := x5) (x6 := x6) (x7 := x7) (x8 := x8) (hf r hrf) ht (fun q hq => ht q (h.2.1 q hq).1) hk (by omega)
    obtain ⟨a1, ⟨l1, a2⟩, a3⟩ := nxt_LI nd hrf h (getD_memN hk)
    have hk2 : k < (nxt t L (L.getD k 0) r).length := by rw [a2, List.length_append]; omega
    obtain ⟨L', y5, y6, y7, y8, b1, b2, ⟨l2, b3⟩, b4⟩ := for_cf hf ht nd htl (l := l) (L := nxt t L (L.getD k 0) r) (x5 := z5) (x6 := z6) (x7 := z7) (x8 := z8) (fun q hq => hl q (List.mem_cons_of_mem _ hq)) hk2 a1
    refine ⟨L', y5, y6, y7, y8, ?_, b2, ⟨l1 ++ l2, by rw [b3, a2, List.append_assoc]⟩, ?_⟩
    · rw [List.map_cons]
      unfold forM
      rw [h1, Option.bind_some, h2, Option.bind_some]
      exact b1
    · intro q hq v hv c1 c2
      rcases List.mem_cons.mp hq with rfl | z
      · rw [b3]; exact List.mem_append_left _ (a3 v hv c1 c2)
      · have := b4 q z v hv
        rw [a2, getD_appN hk] at this
        exact this c1 c2
theorem come_ok {n : Nat} {f : List Rw} {t : List Nat} {p : Nat} (hf : ∀ r ∈ f, okRw n r) (ht : ∀ q ∈ t, q < n) (nd : t.Nodup) (htl : t.length < 100) (hp : p ∈ t) : ∃ L, g_come_from [eRs f, eT t, .int (p : Int)] = some (eK L) ∧ L.Nodup ∧ ∀ q, q ∈ L ↔ q ∈ t ∧ Rch t f p q := by
  have wl := while_q (t := (t2 D.lt (eVar 4) (e1 D.len (eVar 3)))) (b := (sSeq (sFor (wSeq (eSh 0)) (gT [gN 5, gN 6, gN 7]) bCf) (sAug 4 (eC (.int 1)))))
    (fun m ρ => ∃ k L x5 x6 x7 x8, k + m = t.length ∧ k ≤ L.length ∧ LI t f p L ∧ (∀ i, i < k → ∀ r ∈ f, ∀ v ∈ t, 0 < g0 r.2.1 (L.getD i 0) → 0 < g0 r.2.2 v → v ∈ L) ∧ ρ = cfEn f t (.int (p : Int)) L k x5 x6 x7 x8)
    (fun ρ => ∃ k L x5 x6 x7 x8, LI t f p L ∧ (∀ i, i < L.length → ∀ r ∈ f, ∀ v ∈ t, 0 < g0 r.2.1 (L.getD i 0) → 0 < g0 r.2.2 v → v ∈ L) ∧ ρ = cfEn f t (.int (p : Int)) L k x5 x6 x7 x8) ?_ (m := t.length) (by omega)
    (ρ := cfEn f t (.int (p : Int)) [p] 0 none none none none) ⟨0, [p], none, none, none, none, by omega, Nat.zero_le _, ⟨by simp, fun q hq => by rw [List.mem_singleton.mp hq]; exact ⟨hp, .base⟩, by simp⟩, fun i hi => by omega, rfl⟩
  · obtain ⟨ρ', h1, k, L, x5, x6, x7, x8, h2, h3, rfl⟩ := wl
    refine ⟨L, ?_, h2.1, fun q => ⟨h2.2.1 q, ?_⟩⟩
    · unfold g_come_from fnB b_come_from
      simp only [List.length_cons, List.length_nil, if_true, List.map_cons, List.map_nil, List.cons_append, List.nil_append, List.replicate]
      unfold bCf at h1
      rw [seq_nx (ρ' := [some (S.sh (eRs f)), some (S.sh (eT t)), some (S.sh (.int (p : Int))), some (S.sh (eK [p])), none, none, none, none, none]) (by simp [sSet, eLst, aCons, aNil, eSh]), seq_nx (ρ' := cfEn f t (.int (p : Int)) [p] 0 none none none none) (by simp [sSet, eC, cfEn]), seq_nx h1]
      rfl
    · intro hh
      have hr := hh.2
      clear hh
      induction hr with
      | base => exact h2.2.2
      | step h4 hv he ih =>
        obtain ⟨r, hr, e1, e2⟩ := he
        obtain ⟨i, hi, ei⟩ := List.mem_iff_getElem.mp (ih)
        refine h3 i hi r hr _ hv ?_ e2
        rw [List.getD_eq_getElem?_getD, List.getElem?_eq_getElem hi, Option.getD_some, ei]
        exact e1
  · rintro m ρ ⟨k, L, x5, x6, x7, x8, hkm, hk, hL, hc, rfl⟩
    have hlen := nodup_len hL.1 fun q hq => (hL.2.1 q hq).1
    have ht' : (t2 D.lt (eVar 4) (e1 D.len (eVar 3))) (cfEn f t (.int (p : Int)) L k x5 x6 x7 x8) = some (decide (k < L.length)) := by
      simp [cfEn, t2, tE, e2, e1, eVar, len_eK, D.lt]
    by_cases hb : k < L.length
    · left
      obtain ⟨L', y5, y6, y7, y8, b1, b2, ⟨l2, b3⟩, b4⟩ := for_cf (p := p) (k := k) hf ht nd htl (l := f) (L := L) (x5 := x5) (x6 := x6) (x7 := x7) (x8 := x8) (fun _ h => h) hb hL
      refine ⟨m - 1, cfEn f t (.int (p : Int)) L' (k + 1) y5 y6 y7 y8, by omega, by rw [ht', decide_eq_true hb], ?_, k + 1, L', y5, y6, y7, y8, by omega, by rw [b3, List.length_append]; omega, b2, ?_, rfl⟩
      · rw [seq_nx (for_nx (by rfl) b1)]
        rfl
      · intro i hi r hr v hv c1 c2
        rw [b3, getD_appN (by omega)] at c1
        by_cases hik : i = k
        · subst hik; exact b4 r hr v hv c1 c2
        · rw [b3]; exact List.mem_append_left _ (hc i (by omega) r hr v hv c1 c2)
    · right
      exact ⟨by rw [ht', decide_eq_false hb], k, L, x5, x6, x7, x8, hL, fun i hi => hc i (by omega), rfl⟩
end F15
end Vl
end
section
set_option Elab.async false
set_option linter.all false
set_option maxRecDepth 100000
/-! what the defs of k15 compute: machine parts -/
namespace Vl
namespace F15
def onP (t : List Nat) (r : Rw) : Bool := t.any fun k => decide (0 < g0 r.2.1 k) || decide (0 < g0 r.2.2 k)
def found (rs : List Rw) (t : List Nat) : List Rw := rs.filter (onP t)
theorem onP_sw {t : List Nat} {r : Rw} : onP t (swR r) = onP t r := by
  unfold onP swR
  congr 1
  funext k
  exact Bool.or_comm _ _
theorem found_sw {rs : List Rw} {t : List Nat} : found (rs.map swR) t = (found rs t).map swR := by
  unfold found
  rw [List.filter_map]
  congr 1
  apply List.filter_congr
  intro r _
  exact onP_sw
theorem moves_at_eq {n : Nat} {rs : List Rw} {t : List Nat} (hr : ∀ r ∈ rs, okRw n r) (ht : ∀ q ∈ t, q < n) : g_moves_at [eRs rs, eT t] = some (eRs (found rs t)) := by
  have key : ∀ (l : List Rw), (∀ r ∈ l, okRw n r) → lcM (gN 2) (tE (eGx false (wSeq (eSh 1)) (gN 3) (eOr (e2 D.gt (e2 D.get (e2 D.get (eVar 2) (eC (.int 1))) (eVar 3)) (eC (.int 0))) (e2 D.gt (e2 D.get (e2 D.get (eVar 2) (eC (.int 2))) (eVar 3)) (eC (.int 0)))) [3])) (eSh 2) [some (S.sh (eRs rs)), some (S.sh (eT t)), none, none] (l.map eRw) = some ((l.filter (onP t)).map eRw) := by
    intro l
    induction l with
    | nil => intro _; rfl
    | cons r l ih =>
      intro hl
      have o := hl r List.mem_cons_self
      rw [List.map_cons]
      unfold lcM
      rw [show gN 2 (eRw r) [some (S.sh (eRs rs)), some (S.sh (eT t)), none, none] = some [some (S.sh (eRs rs)), some (S.sh (eT t)), some (.sh (eRw r)), none] from rfl, Option.bind_some]
      have tt : (tE (eGx false (wSeq (eSh 1)) (gN 3) (eOr (e2 D.gt (e2 D.get (e2 D.get (eVar 2) (eC (.int 1))) (eVar 3)) (eC (.int 0))) (e2 D.gt (e2 D.get (e2 D.get (eVar 2) (eC (.int 2))) (eVar 3)) (eC (.int 0)))) [3])) [some (S.sh (eRs rs)), some (S.sh (eT t)), some (.sh (eRw r)), none] = some (onP t r) := by
        simp only [tE, eGx, wSeq, eSh, List.getElem?_cons_zero, List.getElem?_cons_succ, Option.bind_some]
        rw [gxM_any (p := fun d => match d with | .int k => decide (0 < g0 r.2.1 k.toNat) || decide (0 < g0 r.2.2 k.toNat) | _ => false)]
        · simp only [Option.bind_some, onP, List.any_map, Function.comp_def, Int.toNat_natCast]
        · intro d hd
          obtain ⟨k, hk, rfl⟩ := List.mem_map.mp hd
          refine ⟨_, rfl, ?_⟩
          have gt := g0_tupI (xs := r.2.1) (k := k) (by rw [o.1]; exact ht k hk)
          have gg := g0_tupI (xs := r.2.2) (k := k) (by rw [o.2]; exact ht k hk)
          have r1 : D.get (eRw r) (.int 1) = some (tupI r.2.1) := get3.2.1
          have r2 : D.get (eRw r) (.int 2) = some (tupI r.2.2) := get3.2.2
          simp only [eOr, e2, eVar, eC, wipeE, List.set_cons_succ, List.set_cons_zero, List.getElem?_cons_zero, List.getElem?_cons_succ, Option.bind_some, r1, r2, gt, gg, D.gt, Int.toNat_natCast]
          cases decide (0 < g0 r.2.1 k) <;> rfl
      rw [tt, Option.bind_some, ih (fun q hq => hl q (List.mem_cons_of_mem _ hq))]
      cases h : onP t r with
      | false => rw [if_neg (by decide), List.filter_cons_of_neg (by rw [h]; decide)]
      | true =>
        rw [if_pos rfl, List.filter_cons_of_pos h]
        rfl
  unfold g_moves_at fnB b_moves_at
  simp only [List.length_cons, List.length_nil, if_true, List.map_cons, List.map_nil, List.cons_append, List.nil_append, List.replicate, sRet, eLc]
  rw [show wSeq (eSh 0) [some (S.sh (eRs rs)), some (S.sh (eT t)), none, none] = some (rs.map eRw) from rfl, Option.bind_some]
  rw [show wipeE [some (S.sh (eRs rs)), some (S.sh (eT t)), none, none] [2] = [some (S.sh (eRs rs)), some (S.sh (eT t)), none, none] from rfl, key rs hr]
  rfl
def sumT (x : List Int) (t : List Nat) : Int := (t.map (g0 x)).sum
def good (t : List Nat) (r : Rw) : Prop := sumT r.2.1 t = 1 ∧ sumT r.2.2 t = 1
theorem sum_lc {ρ : En} {i : Nat} {x : List Int} {t : List Nat} (h1 : ρ[1]? = some (some (.sh (eT t)))) (h6 : (wipeE ρ [6]).length = 7) (hx : ∀ d, ((wipeE ρ [6]).set 6 d)[i]? = some (some (.sh (tupI x)))) (ht : ∀ q ∈ t, q < x.length) : e1 D.sum (eLc (wSeq (eSh 1)) (gN 6) (tY) (e2 D.get (eVar i) (eVar 6)) [6]) ρ = some (.int (sumT x t)) := by
  simp only [e1, eLc, wSeq, eSh, h1, Option.bind_some]
  rw [lcM_all (F := fun d => match d with | .int k => .int (g0 x k.toNat) | _ => .non)]
  · have e : ((t.map fun (k : Nat) => D.int (k : Int)).map fun d => match d with | .int k => D.int (g0 x k.toNat) | _ => .non) = (t.map (g0 x)).map .int := by
      simp only [List.map_map, Function.comp_def, Int.toNat_natCast]
    simp only [Option.bind_some]
    rw [e]
    simp only [D.sum, getI_map, Option.map_some]
    rfl
  · intro d hd
    obtain ⟨k, hk, rfl⟩ := List.mem_map.mp hd
    refine ⟨_, rfl, ?_⟩
    have e6 : ((wipeE ρ [6]).set 6 (some (S.sh (.int (k : Int)))))[6]? = some (some (.sh (.int (k : Int)))) := by
      rw [List.getElem?_set_self (by omega)]
    simp only [e2, eVar, hx, e6, Option.bind_some, g0_tupI (ht k hk), Int.toNat_natCast]
theorem ne1 {z : Int} : D.ne (.int z) (.int 1) = some (.bl (!decide (z = 1))) := by
  simp only [D.ne, D.isScal, if_true, D.eqv]
  rw [show (z == 1) = decide (z = 1) by rw [Bool.eq_iff_iff]; simp]
def bMp : FS := (sIf (tOr (t2 D.ne (e1 D.sum (eLc (wSeq (eSh 1)) (gN 6) (tY) (e2 D.get (eVar 4) (eVar 6)) [6])) (eC (.int 1))) (t2 D.ne (e1 D.sum (eLc (wSeq (eSh 1)) (gN 6) (tY) (e2 D.get (eVar 5) (eVar 6)) [6])) (eC (.int 1)))) (sRet (eC (.bl false))) (sNext))
def mpEn (N : D) (t : List Nat) (f : List Rw) (x3 x4 x5 x6 : Option S) : En := [some (S.sh N), some (S.sh (eT t)), some (S.sh (eRs f)), x3, x4, x5, x6]
theorem for_mp {N : D} {n : Nat} {t : List Nat} {f : List Rw} (ht : ∀ q ∈ t, q < n) : ∀ (l : List Rw) (x3 x4 x5 x6 : Option S), (∀ r ∈ l, okRw n r) → ((∀ r ∈ l, good t r) ∧ ∃ y3 y4 y5 y6, forM (gT [gN 3, gN 4, gN 5]) bMp (l.map eRw) (mpEn N t f x3 x4 x5 x6) = some (.nx (mpEn N t f y3 y4 y5 y6))) ∨ ((∃ r ∈ l, ¬ good t r) ∧ forM (gT [gN 3, gN 4, gN 5]) bMp (l.map eRw) (mpEn N t f x3 x4 x5 x6) = some (.rt (.bl false)))
  | [], x3, x4, x5, x6, _ => .inl ⟨fun _ h => (nomatch h), x3, x4, x5, x6, rfl⟩
  | r :: l, x3, x4, x5, x6, hl => by
    have o := hl r List.mem_cons_self
    have st : gT [gN 3, gN 4, gN 5] (eRw r) (mpEn N t f x3 x4 x5 x6) = some (mpEn N t f (some (.sh (.str r.1))) (some (.sh (tupI r.2.1))) (some (.sh (tupI r.2.2))) x6) := rfl
    have s4 := sum_lc (ρ := mpEn N t f (some (.sh (.str r.1))) (some (.sh (tupI r.2.1))) (some (.sh (tupI r.2.2))) x6) (i := 4) (x := r.2.1) (t := t) rfl rfl (fun _ => rfl) (fun q hq => by rw [o.1]; exact ht q hq)
    have s5 := sum_lc (ρ := mpEn N t f (some (.sh (.str r.1))) (some (.sh (tupI r.2.1))) (some (.sh (tupI r.2.2))) x6) (i := 5) (x := r.2.2) (t := t) rfl rfl (fun _ => rfl) (fun q hq => by rw [o.2]; exact ht q hq)
    have tt : (tOr (t2 D.ne (e1 D.sum (eLc (wSeq (eSh 1)) (gN 6) (tY) (e2 D.get (eVar 4) (eVar 6)) [6])) (eC (.int 1))) (t2 D.ne (e1 D.sum (eLc (wSeq (eSh 1)) (gN 6) (tY) (e2 D.get (eVar 5) (eVar 6)) [6])) (eC (.int 1)))) (mpEn N t f (some (.sh (.str r.1))) (some (.sh (tupI r.2.1))) (some (.sh (tupI r.2.2))) x6) = some (!decide (sumT r.2.1 t = 1) || !decide (sumT r.2.2 t = 1)) := by
      unfold tOr t2 tE
      rw [e2_eq s4 (show eC (.int 1) _ = some (.int 1) from rfl), e2_eq s5 (show eC (.int 1) _ = some (.int 1) from rfl), ne1, ne1]
      cases decide (sumT r.2.1 t = 1) <;> rfl
    rw [List.map_cons]
    unfold forM
    rw [st, Option.bind_some]
    by_cases hg : good t r
    · have tf : bMp (mpEn N t f (some (.sh (.str r.1))) (some (.sh (tupI r.2.1))) (some (.sh (tupI r.2.2))) x6) = some (.nx (mpEn N t f (some (.sh (.str r.1))) (some (.sh (tupI r.2.1))) (some (.sh (tupI r.2.2))) x6)) := by
        unfold bMp
        rw [ifF (by rw [tt, decide_eq_true hg.1, decide_eq_true hg.2]; rfl)]
        rfl
      rw [tf, Option.bind_some]
      rcases for_mp (N := N) (f := f) ht l (some (.sh (.str r.1))) (some (.sh (tupI r.2.1))) (some (.sh (tupI r.2.2))) x6 (fun q hq => hl q (List.mem_cons_of_mem _ hq)) with ⟨h1, y3, y4, y5, y6, h2⟩ | ⟨⟨q, hq, h1⟩, h2⟩
      · left
        refine ⟨fun q hq => ?_, y3, y4, y5, y6, h2⟩
        rcases List.mem_cons.mp hq with rfl | z
        · exact hg
        · exact h1 q z
      · exact .inr ⟨⟨q, List.mem_cons_of_mem _ hq, h1⟩, h2⟩
    · right
      refine ⟨⟨r, List.mem_cons_self, hg⟩, ?_⟩
      have tf : bMp (mpEn N t f (some (.sh (.str r.1))) (some (.sh (tupI r.2.1))) (some (.sh (tupI r.2.2))) x6) = some (.rt (.bl false)) := by
        unfold bMp
        rw [ifT (by
          rw [tt]
          by_cases h1 : sumT r.2.1 t = 1
          · have h2 : ¬ sumT r.2.2 t = 1 := fun z => hg ⟨h1, z⟩
            rw [decide_eq_true h1, decide_eq_false h2]; rfl
          · rw [decide_eq_false h1]; rfl)]
        rfl
      rw [tf, Option.bind_some]
/-- a machine part -/
def MP (rs : List Rw) (t : List Nat) : Prop := (∀ r ∈ found rs t, good t r) ∧ 0 < t.length ∧ ∀ p ∈ t, ∀ q ∈ t, Rch t (found rs t) p q
theorem MP_sw {rs : List Rw} {t : List Nat} (h : MP rs t) : MP (rs.map swR) t := by
  obtain ⟨h1, h2, h3⟩ := h
  refine ⟨fun r hr => ?_, h2, fun p hp q hq => ?_⟩
  · rw [found_sw] at hr
    obtain ⟨s, hs, rfl⟩ := List.mem_map.mp hr
    exact ⟨(h1 s hs).2, (h1 s hs).1⟩
  · rw [found_sw]
    exact (h3 q hq p hp).back hq
theorem machine_eq {ps : List Nm} {ms : List Mv} {t : List Nat} (h : okNet ps ms) (ht : ∀ q ∈ t, q < ps.length) (nd : t.Nodup) : ∃ b, (b = true ↔ MP (vrows ps ms) t) ∧ g_is_machine_part [eN ps ms, eT t] = some (.bl b) := by
  have h8 := h.2.2.2.2.1
  have htl : t.length ≤ 8 := by
    have := nodup_len (b := List.range ps.length) nd fun q hq => List.mem_range.mpr (ht q hq)
    rw [List.length_range] at this
    omega
  have fo : ∀ r ∈ found (vrows ps ms) t, okRw ps.length r := fun r hr => vrows_ok r (List.mem_filter.mp hr).1
  have ma := moves_at_eq (vrows_ok (ps := ps) (ms := ms)) ht
  have st0 : sSet 2 (eCall g_moves_at (aCons (eCall g_rows_of (aCons (eSh 0) (aNil))) (aCons (eSh 1) (aNil)))) [some (S.sh (eN ps ms)), some (S.sh (eT t)), none, none, none, none, none] = some (.nx (mpEn (eN ps ms) t (found (vrows ps ms) t) none none none none)) := by
    simp only [sSet, eCall, aCons, aNil, eSh, List.getElem?_cons_zero, List.getElem?_cons_succ, Option.bind_some, rows_eq h, ma]
    rfl
  rcases for_mp (N := eN ps ms) (f := found (vrows ps ms) t) ht (found (vrows ps ms) t) none none none none fo with ⟨h1, y3, y4, y5, y6, h2⟩ | ⟨⟨q, hq, h1⟩, h2⟩
  · -- the parts that are come to
    have hall : ∃ b : Bool, (b = true ↔ ∀ p ∈ t, ∀ q ∈ t, Rch t (found (vrows ps ms) t) p q) ∧ eGx true (wSeq (eSh 1)) (gN 6) (e2 D.eq (e1 D.len (eCall g_come_from (aCons (eSh 2) (aCons (eSh 1) (aCons (eSh 6) (aNil)))))) (e1 D.len (eVar 1))) [6] (mpEn (eN ps ms) t (found (vrows ps ms) t) y3 y4 y5 y6) = some (.bl b) := by
      have key : ∀ (l : List Nat), (∀ p ∈ l, p ∈ t) → ∃ b : Bool, (b = true ↔ ∀ p ∈ l, ∀ q ∈ t, Rch t (found (vrows ps ms) t) p q) ∧ gxM true (gN 6) (e2 D.eq (e1 D.len (eCall g_come_from (aCons (eSh 2) (aCons (eSh 1) (aCons (eSh 6) (aNil)))))) (e1 D.len (eVar 1))) (mpEn (eN ps ms) t (found (vrows ps ms) t) y3 y4 y5 none) (l.map fun (k : Nat) => D.int (k : Int)) = some b := by
        intro l
        induction l with
        | nil => intro _; exact ⟨true, ⟨fun _ _ h => (nomatch h), fun _ => rfl⟩, rfl⟩
        | cons p l ih =>
          intro hl
          obtain ⟨b, hb, hg⟩ := ih fun q hq => hl q (List.mem_cons_of_mem _ hq)
          obtain ⟨L, c1, c2, c3⟩ := come_ok (p := p) fo ht nd (by omega) (hl p List.mem_cons_self)
          have hv : (e2 D.eq (e1 D.len (eCall g_come_from (aCons (eSh 2) (aCons (eSh 1) (aCons (eSh 6) (aNil)))))) (e1 D.len (eVar 1))) (mpEn (eN ps ms) t (found (vrows ps ms) t) y3 y4 y5 (some (.sh (.int (p : Int))))) = some (.bl (decide (L.length = t.length))) := by
            simp only [mpEn, e2, e1, eCall, aCons, aNil, eSh, eVar, List.getElem?_cons_zero, List.getElem?_cons_succ, Option.bind_some, c1, D.len, List.length_map, D.eq, D.isScal, if_true, D.eqv]
            congr 2
            rw [Bool.eq_iff_iff, beq_iff_eq, decide_eq_true_iff]
            omega
          have hiff : L.length = t.length ↔ ∀ q ∈ t, Rch t (found (vrows ps ms) t) p q := by
            constructor
            · intro he q hq
              apply Classical.byContradiction
              intro hn
              have hql : q ∉ L := fun z => hn ((c3 q).mp z).2
              have := nodup_len (a := q :: L) (b := t) (List.nodup_cons.mpr ⟨hql, c2⟩) fun x hx => by
                rcases List.mem_cons.mp hx with rfl | z
                · exact hq
                · exact ((c3 x).mp z).1
              rw [List.length_cons] at this
              omega
            · intro ha
              have l1 := nodup_len c2 fun x hx => ((c3 x).mp hx).1
              have l2 := nodup_len nd fun x hx => (c3 x).mpr ⟨hx, ha x hx⟩
              omega
          rw [List.map_cons]
          unfold gxM
          rw [show gN 6 (.int (p : Int)) (mpEn (eN ps ms) t (found (vrows ps ms) t) y3 y4 y5 none) = some (mpEn (eN ps ms) t (found (vrows ps ms) t) y3 y4 y5 (some (.sh (.int (p : Int))))) from rfl, Option.bind_some, hv, Option.bind_some]
          by_cases he : L.length = t.length
          · rw [decide_eq_true he]
            refine ⟨b, ⟨fun hbt q hq => ?_, fun ha => hb.mpr fun q hq => ha q (List.mem_cons_of_mem _ hq)⟩, by simp only [if_true]; exact hg⟩
            rcases List.mem_cons.mp hq with rfl | z
            · exact hiff.mp he
            · exact hb.mp hbt q z
          · rw [decide_eq_false he]
            exact ⟨false, ⟨fun h => (nomatch h), fun ha => absurd (hiff.mpr (ha p List.mem_cons_self)) he⟩, rfl⟩
      obtain ⟨b, hb, hg⟩ := key t fun _ h => h
      refine ⟨b, hb, ?_⟩
      unfold eGx
      rw [show wSeq (eSh 1) (mpEn (eN ps ms) t (found (vrows ps ms) t) y3 y4 y5 y6) = some (t.map fun (k : Nat) => D.int (k : Int)) from rfl, Option.bind_some, show wipeE (mpEn (eN ps ms) t (found (vrows ps ms) t) y3 y4 y5 y6) [6] = mpEn (eN ps ms) t (found (vrows ps ms) t) y3 y4 y5 none from rfl, hg]
      rfl
    obtain ⟨b, hb, hg⟩ := hall
    refine ⟨decide (0 < t.length) && b, ?_, ?_⟩
    · rw [Bool.and_eq_true, decide_eq_true_iff, hb]
      exact ⟨fun z => ⟨h1, z.1, z.2⟩, fun z => ⟨z.2.1, z.2.2⟩⟩
    · unfold g_is_machine_part fnB b_is_machine_part
      simp only [List.length_cons, List.length_nil, if_true, List.map_cons, List.map_nil, List.cons_append, List.nil_append, List.replicate]
      rw [seq_nx st0]
      unfold bMp at h2
      rw [seq_nx (for_nx (by rfl) h2)]
      have e1' : (e2 D.gt (e1 D.len (eVar 1)) (eC (.int 0))) (mpEn (eN ps ms) t (found (vrows ps ms) t) y3 y4 y5 y6) = some (.bl (decide (0 < t.length))) := by
        simp only [mpEn, e2, e1, eVar, eC, List.getElem?_cons_zero, List.getElem?_cons_succ, Option.bind_some, D.len, List.length_map, D.gt]
        congr 2
        rw [Bool.eq_iff_iff, decide_eq_true_iff, decide_eq_true_iff]
        omega
      unfold sRet eAnd
      rw [e1', hg]
      cases decide (0 < t.length) <;> rfl
  · refine ⟨false, ⟨fun h => (nomatch h), fun z => absurd (z.1 q hq) h1⟩, ?_⟩
    unfold g_is_machine_part fnB b_is_machine_part
    simp only [List.length_cons, List.length_nil, if_true, List.map_cons, List.map_nil, List.cons_append, List.nil_append, List.replicate]
    rw [seq_nx st0]
    unfold bMp at h2
    rw [seq_rt (d := .bl false) (by
      unfold sFor
      rw [show wSeq (eSh 2) (mpEn (eN ps ms) t (found (vrows ps ms) t) none none none none) = some ((found (vrows ps ms) t).map eRw) from rfl, Option.bind_some]
      exact h2)]
    rfl
end F15
end Vl
end
section
set_option Elab.async false
set_option linter.all false
set_option maxRecDepth 100000
/-! what the defs of k15 compute: subsets, machine_parts -/
namespace Vl
namespace F15
def subs : Nat → List (List Nat)
  | 0 => [[]]
  | n + 1 => subs n ++ (subs n).map (· ++ [n])
theorem subs_length : ∀ n, (subs n).length = 2 ^ n
  | 0 => rfl
  | n + 1 => by
    unfold subs
    rw [List.length_append, List.length_map, subs_length n, Nat.pow_succ]
    omega
theorem subs_ok : ∀ n, ∀ s ∈ subs n, s.Nodup ∧ s.length ≤ n ∧ ∀ k ∈ s, k < n
  | 0, s, hs => by
    rw [subs, List.mem_singleton] at hs
    subst hs
    exact ⟨List.nodup_nil, by simp, fun _ h => nomatch h⟩
  | n + 1, s, hs => by
    unfold subs at hs
    rcases List.mem_append.mp hs with z | z
    · obtain ⟨h1, h2, h3⟩ := subs_ok n s z
      exact ⟨h1, by omega, fun k hk => by have := h3 k hk; omega⟩
    · obtain ⟨u, hu, rfl⟩ := List.mem_map.mp z
      obtain ⟨h1, h2, h3⟩ := subs_ok n u hu
      refine ⟨?_, by simp; omega, ?_⟩
      · rw [List.nodup_append]
        refine ⟨h1, by simp, fun a ha b hb e => ?_⟩
        have := h3 a ha
        rw [List.mem_singleton] at hb
        omega
      · intro k hk
        rcases List.mem_append.mp hk with y | y
        · have := h3 k y; omega
        · rw [List.mem_singleton.mp y]; omega
abbrev zs (t : List Nat) : List Int := t.map fun (k : Nat) => (k : Int)
theorem eT_zs (t : List Nat) : eT t = tupI (zs t) := by simp [eT, tupI, zs, Function.comp_def]
theorem add_tup {xs ys : List D} (h : xs.length + ys.length < 100000) : D.add (.tup xs) (.tup ys) = some (.tup (xs ++ ys)) := by
  exact if_pos (decide_eq_true h)
theorem subsets_ok {n : Nat} (hn : n ≤ 4) : ∃ K : List (List Nat), (∀ t ∈ K, t.Nodup ∧ ∀ k ∈ t, k < n) ∧ g_subsets [.int (n : Int)] = some (.lst (K.map eT)) := by
  have loop := forM_ok (g := gN 2) (b := (sSet 1 (e2 D.add (eSh 1) (eLc (wSeq (eSh 1)) (gN 3) (tY) (e2 D.add (eSh 3) (eTup (aCons (eSh 2) (aNil)))) [3])))) (xs := (List.range n).map fun (k : Nat) => D.int (k : Int))
    (fun i ρ => ∃ x, i ≤ n ∧ ρ = [some (S.sh (.int (n : Int))), some (S.sh (.lst ((subs i).map eT))), x, none]) ?_ (ρ := [some (S.sh (.int (n : Int))), some (S.sh (.lst [.tup []])), none, none]) ⟨none, Nat.zero_le _, rfl⟩
  · obtain ⟨ρ', h1, x, _, rfl⟩ := loop
    rw [List.length_map, List.length_range] at h1
    have hk : keysI ((subs n).map eT) = some ((subs n).map zs) := by
      have : (subs n).map eT = ((subs n).map zs).map tupI := by
        rw [List.map_map]
        apply List.map_congr_left
        intro t _
        exact eT_zs t
      rw [this, keysI_map]
    have hpw : 2 ^ n ≤ 16 := Nat.le_trans (Nat.pow_le_pow_right (by decide) hn) (by decide)
    have ok : kOk ((subs n).map zs) = true := by
      unfold kOk
      rw [Bool.and_eq_true]
      refine ⟨decide_eq_true (by rw [List.length_map, subs_length]; omega), ?_⟩
      rw [List.all_eq_true]
      intro k hk'
      obtain ⟨t, ht, rfl⟩ := List.mem_map.mp hk'
      obtain ⟨_, h2, _⟩ := subs_ok n t ht
      rw [Bool.and_eq_true]
      refine ⟨decide_eq_true (by rw [List.length_map]; omega), ?_⟩
      rw [List.all_eq_true]
      intro z hz
      obtain ⟨j, _, rfl⟩ := List.mem_map.mp hz
      exact decide_eq_true (by omega)
    obtain ⟨K, hK, hm⟩ : ∃ K : List (List Nat), (∀ t ∈ K, t ∈ subs n) ∧ ((subs n).map zs).mergeSort leK = K.map zs := by
      have hall : ∀ x ∈ ((subs n).map zs).mergeSort leK, ∃ t ∈ subs n, zs t = x := by
        intro x hx
        rw [List.mem_mergeSort] at hx
        obtain ⟨t, ht, rfl⟩ := List.mem_map.mp hx
        exact ⟨t, ht, rfl⟩
      generalize ((subs n).map zs).mergeSort leK = L at hall
      induction L with
      | nil => exact ⟨[], (fun _ h => nomatch h), rfl⟩
      | cons x L ih =>
        obtain ⟨K, k1, k2⟩ := ih fun y hy => hall y (List.mem_cons_of_mem _ hy)
        obtain ⟨t, ht, rfl⟩ := hall x List.mem_cons_self
        refine ⟨t :: K, fun y hy => ?_, by rw [List.map_cons, k2]⟩
        rcases List.mem_cons.mp hy with rfl | z
        · exact ht
        · exact k1 y z
    refine ⟨K, fun t ht => ?_, ?_⟩
    · obtain ⟨a, _, b⟩ := subs_ok n t (hK t ht)
      exact ⟨a, b⟩
    · unfold g_subsets fnB b_subsets
      simp only [List.length_cons, List.length_nil, if_true, List.map_cons, List.map_nil, List.cons_append, List.nil_append, List.replicate]
      rw [seq_nx (ρ' := [some (S.sh (.int (n : Int))), some (S.sh (.lst [.tup []])), none, none]) (by simp [sSet, eLst, eTup, aCons, aNil])]
      rw [seq_nx (for_nx (by
        simp only [wRange, eVar, List.getElem?_cons_zero, Option.bind_some]
        rw [if_pos (by omega)]
        rfl) h1)]
      have so : D.sortK (.lst ((subs n).map eT)) = some (.lst (K.map eT)) := by
        unfold D.sortK
        simp only [hk, Option.bind_some, ok, if_true, hm, List.map_map]
        congr 2
        apply List.map_congr_left
        intro t _
        exact (eT_zs t).symm
      simp only [sRet, e1, eVar, List.getElem?_cons_zero, List.getElem?_cons_succ, Option.bind_some, so]
  · rintro i d ρ hx ⟨x, hi', rfl⟩
    rw [List.getElem?_map] at hx
    obtain ⟨k, hk, rfl⟩ := Option.map_eq_some_iff.mp hx
    obtain ⟨hi, hk2⟩ := List.getElem?_eq_some_iff.mp hk
    rw [List.length_range] at hi
    rw [List.getElem_range] at hk2
    subst hk2
    refine ⟨[some (S.sh (.int (n : Int))), some (S.sh (.lst ((subs i).map eT))), some (.sh (.int (i : Int))), none], rfl, [some (S.sh (.int (n : Int))), some (S.sh (.lst ((subs (i + 1)).map eT))), some (.sh (.int (i : Int))), none], .inl ?_, some (.sh (.int (i : Int))), hi, rfl⟩
    have hpw : 2 ^ i ≤ 16 := Nat.le_trans (Nat.pow_le_pow_right (by decide) (show i ≤ 4 by omega)) (by decide)
    have hlc : eLc (wSeq (eSh 1)) (gN 3) (tY) (e2 D.add (eSh 3) (eTup (aCons (eSh 2) (aNil)))) [3] [some (S.sh (.int (n : Int))), some (S.sh (.lst ((subs i).map eT))), some (.sh (.int (i : Int))), none] = some (.lst (((subs i).map (· ++ [i])).map eT)) := by
      simp only [eLc, wSeq, eSh, List.getElem?_cons_zero, List.getElem?_cons_succ, Option.bind_some]
      rw [lcM_all (F := fun d => match d with | .tup l => .tup (l ++ [.int (i : Int)]) | _ => .non)]
      · simp [eT, Function.comp_def]
      · intro d hd
        obtain ⟨t, ht, rfl⟩ := List.mem_map.mp hd
        obtain ⟨_, h2, _⟩ := subs_ok i t ht
        refine ⟨_, rfl, ?_⟩
        rw [e2_eq (a := eT t) (b := .tup [.int (i : Int)]) rfl (by simp [eTup, aCons, aNil, eSh, wipeE])]
        exact add_tup (by simp only [List.length_map, List.length_singleton]; omega)
    unfold sSet
    rw [e2_eq (a := .lst ((subs i).map eT)) rfl hlc, add_lst (by simp only [List.length_map, subs_length]; omega)]
    rw [Option.bind_some, ← List.map_append]
    rfl
theorem named_eq {ps : List Nm} {ms : List Mv} {t : List Nat} (h : ∀ k ∈ t, k < ps.length) : g_named [eN ps ms, eT t] = some (eP (t.map fun k => ps.getD k [])) := by
  unfold g_named fnB b_named
  simp only [List.length_cons, List.length_nil, if_true, List.map_cons, List.map_nil, List.cons_append, List.nil_append, List.replicate, sRet, e1, eLc, wSeq, eSh, List.getElem?_cons_zero, List.getElem?_cons_succ, Option.bind_some]
  rw [lcM_all (F := fun d => match d with | .int k => .str (ps.getD k.toNat []) | _ => .non)]
  · simp [D.toTup, eP, Function.comp_def]
  · intro x hx
    obtain ⟨k, hk, rfl⟩ := List.mem_map.mp hx
    refine ⟨_, rfl, ?_⟩
    have hk2 := h k hk
    simp [e2, e1, eVar, eSh, wipeE, fldP, get_eP hk2, List.getD_eq_getElem?_getD, List.getElem?_eq_getElem hk2]
theorem parts_eq {ps : List Nm} {ms : List Mv} {K : List (List Nat)} {p : List Nat → Bool} (h : okNet ps ms) (hK : ∀ t ∈ K, t.Nodup ∧ ∀ k ∈ t, k < ps.length) (hs : g_subsets [.int (ps.length : Int)] = some (.lst (K.map eT))) (hp : ∀ t ∈ K, g_is_machine_part [eN ps ms, eT t] = some (.bl (p t))) : g_machine_parts [eN ps ms] = some (.tup ((K.filter p).map fun t => eP (t.map fun k => ps.getD k []))) := by
  have key : ∀ (l : List (List Nat)), (∀ t ∈ l, t ∈ K) → lcM (gN 1) (tE (eCall g_is_machine_part (aCons (eSh 0) (aCons (eSh 1) (aNil))))) (eCall g_named (aCons (eSh 0) (aCons (eSh 1) (aNil)))) [some (S.sh (eN ps ms)), none] (l.map eT) = some ((l.filter p).map fun t => eP (t.map fun k => ps.getD k [])) := by
    intro l
    induction l with
    | nil => intro _; rfl
    | cons t l ih =>
      intro hl
      have ht := hl t List.mem_cons_self
      have nm := named_eq (ps := ps) (ms := ms) (hK t ht).2
      rw [List.map_cons]
      unfold lcM
      rw [show gN 1 (eT t) [some (S.sh (eN ps ms)), none] = some [some (S.sh (eN ps ms)), some (.sh (eT t))] from rfl, Option.bind_some, ih fun q hq => hl q (List.mem_cons_of_mem _ hq)]
      simp only [tE, eCall, aCons, aNil, eSh, List.getElem?_cons_zero, List.getElem?_cons_succ, Option.bind_some, hp t ht, nm]
      cases hpt : p t with
      | false => rw [if_neg (by decide), List.filter_cons_of_neg (by rw [hpt]; decide)]
      | true => rw [if_pos rfl, List.filter_cons_of_pos hpt, List.map_cons]
  unfold g_machine_parts fnB b_machine_parts
  simp only [List.length_cons, List.length_nil, if_true, List.map_cons, List.map_nil, List.cons_append, List.nil_append, List.replicate, sRet]
  have hlc : eLc (wSeq (eCall g_subsets (aCons (e1 D.len (e1 (D.fld 0 0) (eSh 0))) (aNil)))) (gN 1) (tE (eCall g_is_machine_part (aCons (eSh 0) (aCons (eSh 1) (aNil))))) (eCall g_named (aCons (eSh 0) (aCons (eSh 1) (aNil)))) [1] [some (S.sh (eN ps ms)), none] = some (.lst ((K.filter p).map fun t => eP (t.map fun k => ps.getD k []))) := by
    unfold eLc
    rw [show wSeq (eCall g_subsets (aCons (e1 D.len (e1 (D.fld 0 0) (eSh 0))) (aNil))) [some (S.sh (eN ps ms)), none] = some (K.map eT) by
      simp [wSeq, eCall, aCons, aNil, e1, eSh, fldP, len_eP, hs], Option.bind_some, show wipeE [some (S.sh (eN ps ms)), none] [1] = [some (S.sh (eN ps ms)), none] from rfl, key K fun _ h => h]
    rfl
  unfold e1 at hlc ⊢
  rw [hlc]
  rfl
theorem machine_parts_ok {ps : List Nm} {ms : List Mv} (h : okNet ps ms) (h4 : ps.length ≤ 4) : ∃ d, D.okd 60 d = true ∧ g_machine_parts [eN ps ms] = some d ∧ g_machine_parts [eN ps (ms.map sw)] = some d := by
  obtain ⟨K, hK, hs⟩ := subsets_ok h4
  have h' := okNet_sw h
  have hb : ∀ t ∈ K, ∃ b : Bool, (b = true ↔ MP (vrows ps ms) t) ∧ g_is_machine_part [eN ps ms, eT t] = some (.bl b) ∧ g_is_machine_part [eN ps (ms.map sw), eT t] = some (.bl b) := by
    intro t ht
    obtain ⟨b, b1, b2⟩ := machine_eq h (hK t ht).2 (hK t ht).1
    obtain ⟨c, c1, c2⟩ := machine_eq h' (hK t ht).2 (hK t ht).1
    have : c = b := by
      rw [Bool.eq_iff_iff, b1, c1, vrows_sw]
      constructor
      · intro z
        have := MP_sw z
        rw [map_swR_swR] at this
        exact this
      · exact MP_sw
    subst this
    exact ⟨c, b1, b2, c2⟩
  let p : List Nat → Bool := fun t => match g_is_machine_part [eN ps ms, eT t] with | some (.bl b) => b | _ => false
  have p1 : ∀ t ∈ K, g_is_machine_part [eN ps ms, eT t] = some (.bl (p t)) ∧ g_is_machine_part [eN ps (ms.map sw), eT t] = some (.bl (p t)) := by
    intro t ht
    obtain ⟨b, _, b2, b3⟩ := hb t ht
    have : p t = b := by
      show (match g_is_machine_part [eN ps ms, eT t] with | some (.bl b) => b | _ => false) = b
      rw [b2]
    rw [this]
    exact ⟨b2, b3⟩
  refine ⟨_, ?_, parts_eq h hK hs fun t ht => (p1 t ht).1, parts_eq h' hK hs fun t ht => (p1 t ht).2⟩
  apply okd_tup
  apply okdL_map
  intro t ht
  have htK := (List.mem_filter.mp ht).1
  apply okd_eP
  intro a ha
  obtain ⟨k, hk, rfl⟩ := List.mem_map.mp ha
  have hk2 := (hK t htK).2 k hk
  rw [List.getD_eq_getElem?_getD, List.getElem?_eq_getElem hk2]
  exact okN_of h _ (List.getElem_mem hk2)
end F15
end Vl
end
section
set_option Elab.async false
set_option linter.all false
set_option maxRecDepth 100000
/-! what the law needs: rows' bounds, what is reached, sums that stay -/
namespace Vl
namespace F15
theorem set_bd {r : List Int} {i : Nat} {v : Int} (h : ∀ k, 0 ≤ g0 r k ∧ g0 r k ≤ 2) (hv : 0 ≤ v ∧ v ≤ 2) (k : Nat) : 0 ≤ g0 (r.set i v) k ∧ g0 (r.set i v) k ≤ 2 := by
  unfold g0
  rw [List.getD_eq_getElem?_getD, List.getElem?_set]
  by_cases e : i = k
  · rw [if_pos e]
    by_cases hl : i < r.length
    · rw [if_pos hl]; exact hv
    · rw [if_neg hl]; exact ⟨Int.le_refl _, by decide⟩
  · rw [if_neg e]
    have := h k
    unfold g0 at this
    rw [List.getD_eq_getElem?_getD] at this
    exact this
theorem fold_bd (ps : List Nm) : ∀ (side : List (Nm × Int)) (r : List Int), (∀ p ∈ side, 0 ≤ p.2 ∧ p.2 ≤ 2) → (∀ k, 0 ≤ g0 r k ∧ g0 r k ≤ 2) → ∀ k, 0 ≤ g0 (side.foldl (fun r p => r.set (idx ps p.1) p.2) r) k ∧ g0 (side.foldl (fun r p => r.set (idx ps p.1) p.2) r) k ≤ 2
  | [], _, _, h => h
  | p :: side, r, hs, h => by
    rw [List.foldl_cons]
    exact fold_bd ps side _ (fun q hq => hs q (List.mem_cons_of_mem _ hq)) (set_bd h (hs p List.mem_cons_self))
theorem vrow_bd {ps : List Nm} {side : List (Nm × Int)} (hs : okS2 ps side) (k : Nat) : 0 ≤ g0 (vrow ps side) k ∧ g0 (vrow ps side) k ≤ 2 := by
  unfold vrow
  apply fold_bd
  · intro p hp
    have := hs.1 p hp
    omega
  · intro k
    unfold g0
    rw [List.getD_eq_getElem?_getD, List.getElem?_replicate]
    by_cases e : k < ps.length
    · rw [if_pos e]; exact ⟨Int.le_refl _, by decide⟩
    · rw [if_neg e]; exact ⟨Int.le_refl _, by decide⟩
theorem rows_bd {ps : List Nm} {ms : List Mv} (h : ∀ m ∈ ms, okMv2 ps m) : ∀ r ∈ vrows ps ms, ∀ k, (0 ≤ g0 r.2.1 k ∧ g0 r.2.1 k ≤ 2) ∧ 0 ≤ g0 r.2.2 k ∧ g0 r.2.2 k ≤ 2 := by
  intro r hr k
  obtain ⟨m, hm, rfl⟩ := List.mem_map.mp hr
  exact ⟨vrow_bd (h m hm).2.1 k, vrow_bd (h m hm).2.2 k⟩
theorem chs_bd {ps : List Nm} {ms : List Mv} (h : ∀ m ∈ ms, okMv2 ps m) : ∀ v ∈ chs ps ms, ∀ c, -2 ≤ g0 v c ∧ g0 v c ≤ 2 := by
  intro v hv c
  obtain ⟨r, hr, rfl⟩ := List.mem_map.mp hv
  rw [g0_vch (vrows_ok r hr)]
  have := rows_bd h r hr c
  omega
theorem okMv2_sw {ps : List Nm} {ms : List Mv} (h : ∀ m ∈ ms, okMv2 ps m) : ∀ m ∈ ms.map sw, okMv2 ps m := by
  intro m hm
  obtain ⟨q, hq, rfl⟩ := List.mem_map.mp hm
  exact ⟨(h q hq).1, (h q hq).2.2, (h q hq).2.1⟩
/-! marks -/
theorem keeps_okM {ps : List Nm} {ms : List Mv} (h : ∀ m ∈ ms, okMv2 ps m) : keeps (vrows ps ms) fun l => ∀ m ∈ l, okM ps m := by
  intro l k r hr hk hi hv hn m hm
  rcases List.mem_append.mp hm with z | z
  · exact hi m z
  · rw [List.mem_singleton.mp z]
    have o := hi _ (getD_mem hk)
    refine ⟨by rw [vmove_length]; exact o.1, fun y hy => ?_⟩
    obtain ⟨i, hil, rfl⟩ := List.mem_iff_getElem.mp hy
    rw [vmove_length] at hil
    have e1 := vmove_get (m := l.getD k []) (t := r.2.1) (g := r.2.2) hil
    have e2 := venough_get hv hil
    have e3 := (rows_bd h r hr i).2.1
    rw [List.getD_eq_getElem?_getD, List.getElem?_eq_getElem (by rw [vmove_length]; exact hil)] at e1
    rw [Option.getD_some] at e1
    rw [e1]
    unfold g0 at e3
    omega
theorem keeps_sub {rs : List Rw} {C : List (List Int)} (hC : closedTo rs C.length C) : keeps rs fun l => ∀ m ∈ l, m ∈ C := by
  intro l k r hr hk hi hv hn m hm
  rcases List.mem_append.mp hm with z | z
  · exact hi m z
  · rw [List.mem_singleton.mp z]
    have o := hi _ (getD_mem hk)
    obtain ⟨j, hj, ej⟩ := List.mem_iff_getElem.mp o
    have := hC j hj r hr
    rw [List.getD_eq_getElem?_getD, List.getElem?_eq_getElem hj, Option.getD_some, ej] at this
    exact this hv
/-- the sum of a law over a mark -/
def lsum (n : Nat) (y m : List Int) : Int := sumN n fun k => g0 y k * g0 m k
theorem lsum_move {n : Nat} {y m : List Int} {r : Rw} (hm : m.length = n) (hr : okRw n r) : lsum n y (vmove m r.2.1 r.2.2) = lsum n y m + lsum n y (vch r) := by
  unfold lsum
  have := sumN_lin 1 1 n (fun k => g0 y k * g0 m k) (fun k => g0 y k * g0 (vch r) k)
  rw [Int.one_mul, Int.one_mul] at this
  rw [← this]
  apply sumN_congr
  intro k hk
  rw [g0_vch hr]
  have e : g0 (vmove m r.2.1 r.2.2) k = g0 m k - g0 r.2.1 k + g0 r.2.2 k := vmove_get (by omega)
  rw [e, Int.one_mul, Int.one_mul, ← Int.mul_add]
  congr 1
  omega
theorem law_zero {ps : List Nm} {ms : List Mv} {y : List Int} (hy : Cone (cols ps.length (chs ps ms)) ms.length y) {r : Rw} (hr : r ∈ vrows ps ms) : lsum ps.length y (vch r) = 0 := by
  have hcl : (chs ps ms).length = ms.length := by simp [chs, vrows]
  have hmem : vch r ∈ chs ps ms := List.mem_map.mpr ⟨r, hr, rfl⟩
  obtain ⟨c, hc, ec⟩ := List.mem_iff_getElem.mp hmem
  have := hy.2.2 c (by omega)
  unfold vdot at this
  rw [← this]
  have e : (cols ps.length (chs ps ms)).length = ps.length := by simp [cols]
  rw [e]
  unfold lsum
  apply sumN_congr
  intro k hk
  congr 1
  have ek : (cols ps.length (chs ps ms)).getD k [] = (chs ps ms).map fun c => g0 c k := by
    unfold cols
    rw [List.getD_eq_getElem?_getD, List.getElem?_map, List.getElem?_range hk]
    rfl
  rw [ek]
  conv => rhs; unfold g0
  rw [List.getD_eq_getElem?_getD, List.getElem?_map, List.getElem?_eq_getElem hc, ec]
  rfl
theorem keeps_sum {ps : List Nm} {ms : List Mv} {y m0 : List Int} (hy : Cone (cols ps.length (chs ps ms)) ms.length y) : keeps (vrows ps ms) fun l => ∀ m ∈ l, m.length = ps.length ∧ lsum ps.length y m = lsum ps.length y m0 := by
  intro l k r hr hk hi hv hn m hm
  rcases List.mem_append.mp hm with z | z
  · exact hi m z
  · rw [List.mem_singleton.mp z]
    have o := hi _ (getD_mem hk)
    refine ⟨by rw [vmove_length]; exact o.1, ?_⟩
    rw [lsum_move o.1 (vrows_ok r hr), law_zero hy hr, o.2]
    omega
theorem sum_range (f : Nat → Int) : ∀ n, ((List.range n).map f).sum = sumN n f
  | 0 => rfl
  | n + 1 => by
    rw [List.range_succ, List.map_append, List.sum_append, sum_range f n]
    simp [sumN]
/-- what the place laws are -/
theorem laws_ok {ps : List Nm} {ms : List Mv} (h : okNet ps ms) (h2 : ∀ m ∈ ms, okMv2 ps m) (h4 : ps.length ≤ 4) (hm4 : ms.length ≤ 4) (hm1 : 0 < ms.length) : ∀ y ∈ (sols (cols ps.length (chs ps ms)) ms.length).mergeSort leL, y.length = ps.length ∧ Cone (cols ps.length (chs ps ms)) ms.length y ∧ ∀ k, 0 ≤ g0 y k ∧ g0 y k < 18446744073709551616 := by
  intro y hy
  rw [List.mem_mergeSort] at hy
  have hcl : (chs ps ms).length = ms.length := by simp [chs, vrows]
  have hc2 := chs_bd h2
  have sg := stages_sg (V := cols ps.length (chs ps ms)) (n := ms.length) (fun v hv => by
    obtain ⟨k, _, rfl⟩ := List.mem_map.mp hv
    rw [List.length_map]; exact hcl) (fun v hv c => by
    obtain ⟨k, _, rfl⟩ := List.mem_map.mp hv
    by_cases hc : c < (chs ps ms).length
    · have := hc2 _ (List.getElem_mem hc) k
      unfold g0
      rw [List.getD_eq_getElem?_getD, List.getElem?_map, List.getElem?_eq_getElem hc]
      exact this
    · rw [g0_ge (by rw [List.length_map]; omega)]; omega) (by simp [cols]; exact h4) hm4 ms.length (Nat.le_refl _)
  obtain ⟨r, hr, rfl⟩ := List.mem_map.mp hy
  have o := sg.ok r hr
  have b := sg.bd r hr
  refine ⟨by rw [o.lw]; simp [cols], o.cone (Nat.le_refl _), fun k => ⟨o.nn k, ?_⟩⟩
  have hWb : Wb ms.length ≤ 536870912 := by
    have : ms.length = 1 ∨ ms.length = 2 ∨ ms.length = 3 ∨ ms.length = 4 := by omega
    rcases this with e | e | e | e <;> rw [e] <;> decide
  have := b.w k
  omega
/-! some of the places -/
theorem okSome_filter {ps : List Nm} (nd : ps.Nodup) (p : Nat → Bool) : okSome ps (((List.range ps.length).filter p).map fun k => ps.getD k []) := by
  have gd : ∀ k, k < ps.length → ∃ h : k < ps.length, ps.getD k [] = ps[k] := fun k hk => ⟨hk, by rw [List.getD_eq_getElem?_getD, List.getElem?_eq_getElem hk]; rfl⟩
  constructor
  · intro a ha
    obtain ⟨k, hk, rfl⟩ := List.mem_map.mp ha
    obtain ⟨hl, e⟩ := gd k (List.mem_range.mp (List.mem_filter.mp hk).1)
    rw [e]
    exact List.getElem_mem hl
  · rw [List.map_map, List.pairwise_map]
    have pw : ((List.range ps.length).filter p).Pairwise (· < ·) := List.Pairwise.filter _ List.pairwise_lt_range
    apply List.Pairwise.imp_of_mem ?_ pw
    intro i j hi hj hlt
    obtain ⟨h1, e1⟩ := gd i (List.mem_range.mp (List.mem_filter.mp hi).1)
    obtain ⟨h2, e2⟩ := gd j (List.mem_range.mp (List.mem_filter.mp hj).1)
    simp only [Function.comp_def]
    rw [e1, e2, idx_get nd h1, idx_get nd h2]
    exact hlt
theorem okSome_one {ps : List Nm} (h : 0 < ps.length) : okSome ps (ps.take 1) := by
  cases ps with
  | nil => simp at h
  | cons a l =>
    refine ⟨fun b hb => ?_, by simp⟩
    simp only [List.take_succ_cons, List.take_zero, List.mem_singleton] at hb
    rw [hb]
    exact List.mem_cons_self
end F15
end Vl
end
section
set_option Elab.async false
set_option linter.all false
set_option maxRecDepth 100000
/-! the law holds of the functions -/
namespace Vl
namespace F15
theorem ne_ff {f g : FE} {ρ : En} {d : D} (h1 : f ρ = some d) (h2 : g ρ = some d) (h3 : D.okd 60 d = true) : (t2 D.ne f g) ρ = some false := by
  unfold t2 tE
  rw [e2_eq h1 h2, ne_self h3]
  rfl
theorem or_ff {s t : FT} {ρ : En} (h1 : s ρ = some false) (h2 : t ρ = some false) : tOr s t ρ = some false := by
  unfold tOr
  rw [h1, Option.bind_some, if_neg (by decide), h2]
theorem call1 {g : List D → Option D} {f : FE} {ρ : En} {a d : D} (h : f ρ = some a) (hg : g [a] = some d) : eCall g (aCons f aNil) ρ = some d := by
  simp only [eCall, aCons, aNil, h, Option.bind_some, hg]
theorem call2 {g : List D → Option D} {f f' : FE} {ρ : En} {a b d : D} (h : f ρ = some a) (h' : f' ρ = some b) (hg : g [a, b] = some d) : eCall g (aCons f (aCons f' aNil)) ρ = some d := by
  simp only [eCall, aCons, aNil, h, h', Option.bind_some, hg]
theorem call3 {g : List D → Option D} {f f' f'' : FE} {ρ : En} {a b c d : D} (h : f ρ = some a) (h' : f' ρ = some b) (h'' : f'' ρ = some c) (hg : g [a, b, c] = some d) : eCall g (aCons f (aCons f' (aCons f'' aNil))) ρ = some d := by
  simp only [eCall, aCons, aNil, h, h', h'', Option.bind_some, hg]
theorem e1_eq {h : D → Option D} {f : FE} {ρ : En} {a d : D} (h1 : f ρ = some a) (h2 : h a = some d) : e1 h f ρ = some d := by
  unfold e1
  rw [h1, Option.bind_some, h2]
theorem set_eq {i : Nat} {f : FE} {ρ ρ' : En} {d : D} (h : f ρ = some d) (h' : ρ.set i (some (.sh d)) = ρ') : sSet i f ρ = some (.nx ρ') := by
  unfold sSet
  rw [h, Option.bind_some, h']
theorem if_no {t : FT} {a : FS} {ρ : En} (h : t ρ = some false) : sIf t a sNext ρ = some (.nx ρ) := by
  rw [ifF h]
  rfl
abbrev ev (s : D) (x1 x2 x3 x4 x5 x6 x7 x8 x9 x10 x11 x12 x13 : Option S) : En := [some (.sh s), x1, x2, x3, x4, x5, x6, x7, x8, x9, x10, x11, x12, x13]
theorem some_lc {s : D} {x1 x2 x3 x5 x7 x8 x9 x10 x12 : Option S} {ps : List Nm} {l : List Int} (hl : ps.length ≤ l.length) (h8 : ps.length ≤ 8) : (e1 D.toTup (eLc (wRange (e1 D.len (eVar 11))) (gN 13) (t2 D.eq (e2 D.mod (e2 D.get (eVar 4) (eVar 13)) (eC (.int 2))) (eC (.int 0))) (e2 D.get (eVar 11) (eVar 13)) [13])) (ev s x1 x2 x3 (some (.sh (.lst (l.map .int)))) x5 none x7 x8 x9 x10 (some (.sh (eP ps))) x12 none) = some (eP (((List.range ps.length).filter fun k => decide (g0 l k % 2 = 0)).map fun k => ps.getD k [])) := by
  have hlc : (eLc (wRange (e1 D.len (eVar 11))) (gN 13) (t2 D.eq (e2 D.mod (e2 D.get (eVar 4) (eVar 13)) (eC (.int 2))) (eC (.int 0))) (e2 D.get (eVar 11) (eVar 13)) [13]) (ev s x1 x2 x3 (some (.sh (.lst (l.map .int)))) x5 none x7 x8 x9 x10 (some (.sh (eP ps))) x12 none) = some (.lst ((((List.range ps.length).filter fun k => decide (g0 l k % 2 = 0)).map fun k => ps.getD k []).map .str)) := by
    simp only [ev, eLc, wRange, e1, eVar, List.getElem?_cons_zero, List.getElem?_cons_succ, Option.bind_some, len_eP]
    rw [if_pos (by omega)]
    simp only [Option.bind_some, Int.toNat_natCast]
    rw [lcM_ok (p := fun d => match d with | .int k => decide (g0 l k.toNat % 2 = 0) | _ => false) (F := fun d => match d with | .int k => .str (ps.getD k.toNat []) | _ => .non)]
    · simp only [Option.bind_some, List.filter_map, List.map_map, Function.comp_def, Int.toNat_natCast]
    · intro d hd
      obtain ⟨k, hk, rfl⟩ := List.mem_map.mp hd
      have hk := List.mem_range.mp hk
      have gk := get_lstD (xs := l) (k := k) (by omega)
      have gp := get_eP hk
      have m2 : D.mod (.int (l.getD k 0)) (.int 2) = some (.int (l.getD k 0 % 2)) := mod_r (by decide)
      refine ⟨_, rfl, ?_, fun _ => ?_⟩
      · simp only [t2, tE, e2, eVar, eC, wipeE, List.set_cons_succ, List.set_cons_zero, List.getElem?_cons_zero, List.getElem?_cons_succ, Option.bind_some, gk, m2, D.eq, D.isScal, if_true, D.eqv, eq0, Int.toNat_natCast]
      · simp only [e2, eVar, wipeE, List.set_cons_succ, List.set_cons_zero, List.getElem?_cons_zero, List.getElem?_cons_succ, Option.bind_some, gp, Int.toNat_natCast]
        rw [List.getD_eq_getElem?_getD, List.getElem?_eq_getElem hk]
        rfl
  exact e1_eq hlc rfl
theorem sum_lc2 {ρ : En} {i : Nat} {y m : List Int} {n : Nat} (h10 : eVar 10 ρ = some (tupI y)) (h13 : (wipeE ρ [13]).length = 14) (hy : ∀ d, eVar 10 ((wipeE ρ [13]).set 13 d) = some (tupI y)) (hm : ∀ d, eVar i ((wipeE ρ [13]).set 13 d) = some (tupI m)) (ly : y.length = n) (lm : m.length = n) (hn : n < 100) (hb : ∀ k, 0 ≤ g0 y k ∧ g0 y k < 18446744073709551616) : e1 D.sum (eLc (wRange (e1 D.len (eVar 10))) (gN 13) (tY) (e2 D.mul (e2 D.get (eVar 10) (eVar 13)) (e2 D.get (eVar i) (eVar 13))) [13]) ρ = some (.int (lsum n y m)) := by
  have hlc : eLc (wRange (e1 D.len (eVar 10))) (gN 13) (tY) (e2 D.mul (e2 D.get (eVar 10) (eVar 13)) (e2 D.get (eVar i) (eVar 13))) [13] ρ = some (.lst (((List.range n).map fun k => g0 y k * g0 m k).map .int)) := by
    simp only [eLc, wRange, e1, h10, Option.bind_some, len_tupIz]
    rw [if_pos (by omega)]
    simp only [Option.bind_some, Int.toNat_natCast]
    rw [lcM_all (F := fun d => match d with | .int k => .int (g0 y k.toNat * g0 m k.toNat) | _ => .non)]
    · simp [Function.comp_def, ly]
    · intro d hd
      obtain ⟨k, hk, rfl⟩ := List.mem_map.mp hd
      have hk' : k < y.length := by simpa using hk
      refine ⟨_, rfl, ?_⟩
      have e13 : eVar 13 ((wipeE ρ [13]).set 13 (some (S.sh (.int (k : Int))))) = some (.int (k : Int)) := by
        unfold eVar
        rw [List.getElem?_set_self (by omega)]
      have gy := g0_tupI hk'
      have gm := g0_tupI (xs := m) (k := k) (by omega)
      have b := hb k
      rw [e2_eq (a := .int (g0 y k)) (b := .int (g0 m k)) (by rw [e2_eq (hy _) e13, gy]) (by rw [e2_eq (hm _) e13, gm]), mul_l (by omega) (by omega)]
      simp only [Int.toNat_natCast]
  apply e1_eq hlc
  simp only [D.sum, getI_map, Option.map_some, sum_range]
  rfl
theorem law_true (ns : List Int) (h : ns.length ≤ 63) : g_law [.lst (ns.map .int)] = some (.bl true) := by
  have c0 : g__law_cell [.lst (ns.map .int), .int 0] = some (.int (ns.getD 0 0)) := cell_ok ns 0
  have c1 : g__law_cell [.lst (ns.map .int), .int 1] = some (.int (ns.getD 1 0)) := cell_ok ns 1
  have c2 : g__law_cell [.lst (ns.map .int), .int 2] = some (.int (ns.getD 2 0)) := cell_ok ns 2
  obtain ⟨ps, ms, hN, h2, hp2, hp4, hm1, hm4, hnet⟩ := law_net_ok (ns.getD 0 0)
  obtain ⟨m0, ml, mz, hmark⟩ := law_mark_ok (c := ns.getD 1 0) (n := ps.length) (by omega)
  obtain ⟨l, ll, lz, hdr⟩ := draws_ok (ns.getD 2 0) 20 (by decide)
  have hdr' : g__law_draws [.int (ns.getD 2 0), .int 20] = some (.lst (l.map .int)) := hdr
  have hok := okN_of hN
  have hN' := okNet_sw hN
  have okm0 : okM ps m0 := ⟨ml, mz⟩
  generalize D.lst (ns.map .int) = sc at *
  unfold g_law fnB b_law
  simp only [List.length_cons, List.length_nil, if_true, List.map_cons, List.map_nil, List.cons_append, List.nil_append, List.replicate]
  rw [seq_nx (ρ' := ev sc none none none none none none none none none none (some (.sh (eP ps))) (some (.sh (eMs ms))) none) (by
    unfold sAsg
    rw [call1 (call2 (a := sc) (b := .int 0) rfl rfl c0) hnet]
    rfl)]
  rw [seq_nx (set_eq (ρ' := ev sc (some (.sh (tupI m0))) none none none none none none none none none (some (.sh (eP ps))) (some (.sh (eMs ms))) none) (call2 (call2 (a := sc) (b := .int 1) rfl rfl c1) (e1_eq (a := eP ps) rfl len_eP) hmark) rfl)]
  have rl := law_reached_eq (rs := vrows ps ms) (m0 := m0) vrows_ok (by rw [vrows, List.length_map]; omega) (by omega) ml
  have lrows : g__law_rows [eP ps, eMs ms] = some (eRs (vrows ps ms)) := law_rows_eq hok (okMs_of hN)
  cases hw : wR 30 (vrows ps ms) 1000000 0 ([m0], []) with
  | none =>
    rw [hw] at rl
    simp only at rl
    rw [seq_nx (set_eq (ρ' := ev sc (some (.sh (tupI m0))) (some (.sh .non)) none none none none none none none none (some (.sh (eP ps))) (some (.sh (eMs ms))) none) (call3 (call2 (a := eP ps) (b := eMs ms) rfl rfl lrows) (b := tupI m0) rfl (c := .int 30) rfl rl) rfl)]
    rw [seq_rt (d := .bl true) (by rw [ifT (by rfl)]; rfl)]
    rfl
  | some s' =>
    rw [hw] at rl
    simp only at rl
    rw [seq_nx (set_eq (ρ' := ev sc (some (.sh (tupI m0))) (some (.sh (.tup [eMk s'.1, eArs s'.2]))) none none none none none none none none (some (.sh (eP ps))) (some (.sh (eMs ms))) none) (call3 (call2 (a := eP ps) (b := eMs ms) rfl rfl lrows) (b := tupI m0) rfl (c := .int 30) rfl rl) rfl)]
    rw [seq_nx (if_no (by rfl))]
    -- what is reached
    have st0 : ([m0], ([] : List (Nat × Nm × Nat))).1.length ≤ 30 := by simp
    have cl0 : closedTo (vrows ps ms) 0 [m0] := fun i hi => by omega
    obtain ⟨k1, k2, ⟨lt, k3⟩, k4⟩ := wR_spec (keeps_okM h2) (s := ([m0], [])) (by omega) (Nat.zero_le _) st0 (fun m hm => by rw [List.mem_singleton.mp hm]; exact okm0) cl0 hw
    have hw5 := wR_mono (lim' := 500) (by omega) hw
    have m0R : m0 ∈ s'.1 := by rw [k3]; simp
    have hmin : ∀ C, okLen ps.length C → m0 ∈ C → closedTo (vrows ps ms) C.length C → ∀ m ∈ s'.1, m ∈ C := by
      intro C _ hmC hC
      exact (wR_spec (keeps_sub hC) (s := ([m0], [])) (by omega) (Nat.zero_le _) st0 (fun m hm => by rw [List.mem_singleton.mp hm]; exact hmC) cl0 hw).1
    have hsum : ∀ y, Cone (cols ps.length (chs ps ms)) ms.length y → ∀ m ∈ s'.1, m.length = ps.length ∧ lsum ps.length y m = lsum ps.length y m0 := by
      intro y hy
      exact (wR_spec (keeps_sum hy) (s := ([m0], [])) (by omega) (Nat.zero_le _) st0 (fun m hm => by rw [List.mem_singleton.mp hm]; exact ⟨ml, rfl⟩) cl0 hw).1
    have rpos : 0 < s'.1.length := List.length_pos_of_mem m0R
    -- the nets
    rw [seq_nx (set_eq (d := eN ps ms) (ρ' := ev sc (some (.sh (tupI m0))) (some (.sh (.tup [eMk s'.1, eArs s'.2]))) (some (.sh (eN ps ms))) none none none none none none none (some (.sh (eP ps))) (some (.sh (eMs ms))) none) (make_eq hN rfl rfl) rfl)]
    rw [seq_nx (set_eq (d := .lst (l.map .int)) (ρ' := ev sc (some (.sh (tupI m0))) (some (.sh (.tup [eMk s'.1, eArs s'.2]))) (some (.sh (eN ps ms))) (some (.sh (.lst (l.map .int)))) none none none none none none (some (.sh (eP ps))) (some (.sh (eMs ms))) none) (call2 (call2 (a := sc) (b := .int 2) rfl rfl c2) (b := .int 20) rfl hdr') rfl)]
    have tb := turned_back_eq hN
    have tb2 : g_turned_back [eN ps (ms.map sw)] = some (eN ps ms) := by
      have := turned_back_eq hN'
      rw [map_sw_sw] at this
      exact this
    rw [seq_nx (set_eq (d := eN ps (ms.map sw)) (ρ' := ev sc (some (.sh (tupI m0))) (some (.sh (.tup [eMk s'.1, eArs s'.2]))) (some (.sh (eN ps ms))) (some (.sh (.lst (l.map .int)))) (some (.sh (eN ps (ms.map sw)))) none none none none none (some (.sh (eP ps))) (some (.sh (eMs ms))) none) (call1 (a := eN ps ms) rfl tb) rfl)]
    rw [seq_nx (if_no (or_ff (ne_ff (d := eMs ms) (e1_eq (call1 (a := eN ps (ms.map sw)) rfl tb2) fldM) (e1_eq (a := eN ps ms) rfl fldM) (okd_eMs (n := 56) hN)) (ne_ff (d := eP ps) (e1_eq (a := eN ps (ms.map sw)) rfl fldP) (e1_eq (a := eN ps ms) rfl fldP) (okd_eP (n := 59) hok))))]
    -- some of the places
    rw [seq_nx (set_eq (ρ' := ev sc (some (.sh (tupI m0))) (some (.sh (.tup [eMk s'.1, eArs s'.2]))) (some (.sh (eN ps ms))) (some (.sh (.lst (l.map .int)))) (some (.sh (eN ps (ms.map sw)))) (some (.sh (eP (((List.range ps.length).filter fun k => decide (g0 l k % 2 = 0)).map fun k => ps.getD k [])))) none none none none (some (.sh (eP ps))) (some (.sh (eMs ms))) none) (some_lc (by omega) (by omega)) rfl)]
    have nd := (List.nodup_append.mp hN.2.2.1).1
    have os := okSome_filter nd fun k => decide (g0 l k % 2 = 0)
    obtain ⟨ss, hss, hst⟩ : ∃ ss, okSome ps ss ∧ sIf (t2 D.eq (e1 D.len (eVar 6)) (eC (.int 0))) (sSet 6 (e2 D.takeTo (eSh 11) (eC (.int 1)))) sNext (ev sc (some (.sh (tupI m0))) (some (.sh (.tup [eMk s'.1, eArs s'.2]))) (some (.sh (eN ps ms))) (some (.sh (.lst (l.map .int)))) (some (.sh (eN ps (ms.map sw)))) (some (.sh (eP (((List.range ps.length).filter fun k => decide (g0 l k % 2 = 0)).map fun k => ps.getD k [])))) none none none none (some (.sh (eP ps))) (some (.sh (eMs ms))) none) = some (.nx (ev sc (some (.sh (tupI m0))) (some (.sh (.tup [eMk s'.1, eArs s'.2]))) (some (.sh (eN ps ms))) (some (.sh (.lst (l.map .int)))) (some (.sh (eN ps (ms.map sw)))) (some (.sh (eP ss))) none none none none (some (.sh (eP ps))) (some (.sh (eMs ms))) none)) := by
      generalize ((List.range ps.length).filter fun k => decide (g0 l k % 2 = 0)).map (fun k => ps.getD k []) = qs at os
      have tt : (t2 D.eq (e1 D.len (eVar 6)) (eC (.int 0))) (ev sc (some (.sh (tupI m0))) (some (.sh (.tup [eMk s'.1, eArs s'.2]))) (some (.sh (eN ps ms))) (some (.sh (.lst (l.map .int)))) (some (.sh (eN ps (ms.map sw)))) (some (.sh (eP qs))) none none none none (some (.sh (eP ps))) (some (.sh (eMs ms))) none) = some (decide ((qs.length : Int) = 0)) := by
        unfold t2 tE
        rw [e2_eq (a := .int (qs.length : Int)) (b := .int 0) (e1_eq (a := eP qs) rfl len_eP) rfl]
        simp only [D.eq, D.isScal, if_true, D.eqv, eq0, Option.bind_some]
      by_cases hz : (qs.length : Int) = 0
      · refine ⟨ps.take 1, okSome_one (by omega), ?_⟩
        rw [ifT (by rw [tt, decide_eq_true hz])]
        exact set_eq (d := eP (ps.take 1)) (by rw [e2_eq (a := eP ps) (b := .int ((1 : Nat) : Int)) rfl rfl, take_tup]) rfl
      · exact ⟨qs, os, if_no (by rw [tt, decide_eq_false hz])⟩
    rw [seq_nx hst]
    -- siphons and traps
    have hidx := idx_lt hok hss.1
    obtain ⟨b1, hb1⟩ := sip_ok (rs := vrows ps ms) vrows_ok hidx
    obtain ⟨b2, hb2⟩ := sip_ok (rs := (vrows ps ms).map swR) (okRw_sw vrows_ok) hidx
    have sn : g_is_siphon [eN ps ms, eP ss] = some (.bl b1) := by rw [siphon_eq hN hss, hb1]
    have tn : g_is_trap [eN ps ms, eP ss] = some (.bl b2) := by rw [trap_eq hN hss, hb2]
    have stn : g_is_siphon [eN ps (ms.map sw), eP ss] = some (.bl b2) := by rw [siphon_eq hN' hss, vrows_sw, hb2]
    have ttn : g_is_trap [eN ps (ms.map sw), eP ss] = some (.bl b1) := by rw [trap_eq hN' hss, vrows_sw, map_swR_swR, hb1]
    rw [seq_nx (if_no (or_ff (ne_ff (d := .bl b2) (call2 (a := eN ps (ms.map sw)) (b := eP ss) rfl rfl stn) (call2 (a := eN ps ms) (b := eP ss) rfl rfl tn) (by simp [D.okd])) (ne_ff (d := .bl b1) (call2 (a := eN ps (ms.map sw)) (b := eP ss) rfl rfl ttn) (call2 (a := eN ps ms) (b := eP ss) rfl rfl sn) (by simp [D.okd]))))]
    have ssl : (ss.map (idx ps)).length < 1000 := by
      rw [List.length_map]
      have nds : (ss.map (idx ps)).Nodup := hss.2.imp fun h => by omega
      have := nodup_len (b := List.range ps.length) nds fun k hk => List.mem_range.mpr (hidx k hk)
      rw [List.length_range, List.length_map] at this
      omega
    obtain ⟨ls, hls, hg⟩ := greatest_ok (okRw_sw (vrows_ok (ps := ps) (ms := ms))) hidx ssl
    have gt := gtrap_eq hN hss hls hg
    have gs := gsiphon_eq hN' hss hls (by rw [vrows_sw]; exact hg)
    have okg : D.okd 60 (eP (ls.map fun k => ps.getD k [])) = true := okd_eP (n := 59) fun a ha => by
      obtain ⟨k, hk, rfl⟩ := List.mem_map.mp ha
      have hk2 := hidx k (hls k hk)
      rw [List.getD_eq_getElem?_getD, List.getElem?_eq_getElem hk2]
      exact hok _ (List.getElem_mem hk2)
    -- laws of places and of moves
    have hmsl : (ms.map sw).length = ms.length := List.length_map _
    have cb := chs_bd h2
    have cb' := chs_bd (okMv2_sw h2)
    have pl := place_laws_eq hN hp4 hm4 cb
    have pl' := place_laws_eq hN' hp4 (by rw [hmsl]; exact hm4) cb'
    have hcl : (chs ps ms).length = ms.length := by simp [chs, vrows]
    have colV : ∀ v ∈ cols ps.length (chs ps ms), v.length = ms.length := fun v hv => by
      obtain ⟨k, _, rfl⟩ := List.mem_map.mp hv
      rw [List.length_map]; exact hcl
    have colB : ∀ v ∈ cols ps.length (chs ps ms), ∀ c, -2 ≤ g0 v c ∧ g0 v c ≤ 2 := fun v hv c => by
      obtain ⟨k, _, rfl⟩ := List.mem_map.mp hv
      by_cases hc : c < (chs ps ms).length
      · have := cb _ (List.getElem_mem hc) k
        unfold g0
        rw [List.getD_eq_getElem?_getD, List.getElem?_map, List.getElem?_eq_getElem hc]
        exact this
      · rw [g0_ge (by rw [List.length_map]; omega)]; omega
    rw [hmsl, chs_sw, cols_neg, sort_perm (sols_perm colV colB (by simp [cols]; exact hp4) hm4 (by omega))] at pl'
    have ml' := move_laws_eq hN' hp4 (by rw [hmsl]; exact hm4) (by rw [hmsl]; omega) cb'
    have mlw := move_laws_eq hN hp4 hm4 (by omega) cb
    rw [chs_sw, sort_perm (sols_perm (V := chs ps ms) (n := ps.length) (fun v hv => by
      obtain ⟨r, hr, rfl⟩ := List.mem_map.mp hv
      rw [vch_length]; exact (vrows_ok r hr).1) cb (by omega) hp4 (by omega))] at ml'
    have okt : ∀ (ks : List (List Int)), D.okd 60 (.tup (ks.map tupI)) = true := fun ks => okd_tup (n := 59) (okdL_map fun x _ => okd_tupI)
    rw [seq_nx (if_no (or_ff (ne_ff (call2 (a := eN ps (ms.map sw)) (b := eP ss) rfl rfl gs) (call2 (a := eN ps ms) (b := eP ss) rfl rfl gt) okg) (or_ff (ne_ff (call1 (a := eN ps (ms.map sw)) rfl pl') (call1 (a := eN ps ms) rfl pl) (okt _)) (ne_ff (call1 (a := eN ps (ms.map sw)) rfl ml') (call1 (a := eN ps ms) rfl mlw) (okt _)))))]
    -- machine parts, rank
    obtain ⟨d, hd1, hd2, hd3⟩ := machine_parts_ok hN hp4
    have rk := rank_eq hN hp4 hm4 cb
    have rk' := rank_eq hN' hp4 (by rw [hmsl]; exact hm4) cb'
    rw [hmsl, rank_turned] at rk'
    rw [seq_nx (if_no (or_ff (ne_ff (call1 (a := eN ps (ms.map sw)) rfl hd3) (call1 (a := eN ps ms) rfl hd2) hd1) (ne_ff (call1 (a := eN ps (ms.map sw)) rfl rk') (call1 (a := eN ps ms) rfl rk) (by simp [D.okd]))))]
    -- reached
    have re := reached_eq hN okm0 hw5
    rw [seq_nx (set_eq (d := .tup (s'.1.map tupI)) (ρ' := ev sc (some (.sh (tupI m0))) (some (.sh (.tup [eMk s'.1, eArs s'.2]))) (some (.sh (eN ps ms))) (some (.sh (.lst (l.map .int)))) (some (.sh (eN ps (ms.map sw)))) (some (.sh (eP ss))) (some (.sh (.tup (s'.1.map tupI)))) none none none (some (.sh (eP ps))) (some (.sh (eMs ms))) none) (call2 (a := eN ps ms) (b := tupI m0) rfl rfl re) rfl)]
    rw [seq_nx (if_no (ne_ff (d := .tup (s'.1.map tupI)) rfl (e1_eq (a := eMk s'.1) (by rw [e2_eq (a := .tup [eMk s'.1, eArs s'.2]) (b := .int 0) rfl rfl]; exact get2.1) rfl) (okt _)))]
    -- a goal
    obtain ⟨goal, hgR, hgoal⟩ : ∃ goal, goal ∈ s'.1 ∧ (e2 D.get (eVar 7) (e2 D.mod (e2 D.get (eVar 4) (eC (.int 6))) (e1 D.len (eVar 7)))) (ev sc (some (.sh (tupI m0))) (some (.sh (.tup [eMk s'.1, eArs s'.2]))) (some (.sh (eN ps ms))) (some (.sh (.lst (l.map .int)))) (some (.sh (eN ps (ms.map sw)))) (some (.sh (eP ss))) (some (.sh (.tup (s'.1.map tupI)))) none none none (some (.sh (eP ps))) (some (.sh (eMs ms))) none) = some (tupI goal) := by
      have g6 := get_lstD (xs := l) (k := 6) (by omega)
      generalize l.getD 6 0 = w at g6
      have hlen : D.len (.tup (s'.1.map tupI)) = some (.int (s'.1.length : Int)) := by simp [D.len]
      have hm : D.mod (.int w) (.int (s'.1.length : Int)) = some (.int (((w % (s'.1.length : Int)).toNat : Nat) : Int)) := by
        rw [mod_r (by omega)]
        rw [Int.toNat_of_nonneg (Int.emod_nonneg w (show (s'.1.length : Int) ≠ 0 by omega))]
      have hlt : (w % (s'.1.length : Int)).toNat < s'.1.length := by
        have := Int.emod_lt_of_pos w (show 0 < (s'.1.length : Int) by omega)
        have := Int.emod_nonneg w (show (s'.1.length : Int) ≠ 0 by omega)
        omega
      generalize (w % (s'.1.length : Int)).toNat = j at hm hlt
      refine ⟨s'.1[j], List.getElem_mem hlt, ?_⟩
      rw [e2_eq (a := .tup (s'.1.map tupI)) (b := .int (j : Int)) rfl (by
        rw [e2_eq (a := .int w) (b := .int (s'.1.length : Int)) (by
          rw [e2_eq (a := .lst (l.map .int)) (b := .int 6) rfl rfl]
          exact g6) (e1_eq (a := .tup (s'.1.map tupI)) rfl hlen)]
        exact hm)]
      exact get_tup (by rw [List.getElem?_map, List.getElem?_eq_getElem hlt]; rfl)
    rw [seq_nx (set_eq (ρ' := ev sc (some (.sh (tupI m0))) (some (.sh (.tup [eMk s'.1, eArs s'.2]))) (some (.sh (eN ps ms))) (some (.sh (.lst (l.map .int)))) (some (.sh (eN ps (ms.map sw)))) (some (.sh (eP ss))) (some (.sh (.tup (s'.1.map tupI)))) (some (.sh (tupI goal))) none none (some (.sh (eP ps))) (some (.sh (eMs ms))) none) hgoal rfl)]
    -- a way, and back
    have okgm := k1 goal hgR
    obtain ⟨qs, w1, w2, w3, w4⟩ := way_eq hN okm0 okgm k2 k4 hmin m0R hgR
    rw [seq_nx (set_eq (d := eP (qs.map (·.1))) (ρ' := ev sc (some (.sh (tupI m0))) (some (.sh (.tup [eMk s'.1, eArs s'.2]))) (some (.sh (eN ps ms))) (some (.sh (.lst (l.map .int)))) (some (.sh (eN ps (ms.map sw)))) (some (.sh (eP ss))) (some (.sh (.tup (s'.1.map tupI)))) (some (.sh (tupI goal))) (some (.sh (eP (qs.map (·.1))))) none (some (.sh (eP ps))) (some (.sh (eMs ms))) none) (call3 (a := eN ps ms) (b := tupI m0) (c := tupI goal) rfl rfl rfl w4) rfl)]
    have r1 := run_eq hN okm0 w1 w2 w3
    have r2 := run_eq (qs := qs.reverse.map swR) hN' okgm (fun r hr => by
      obtain ⟨q, hq, rfl⟩ := List.mem_map.mp hr
      rw [vrows_sw]
      exact List.mem_map.mpr ⟨q, w1 q (List.mem_reverse.mp hq), rfl⟩) (by rw [List.length_map, List.length_reverse]; exact w2) (run_back w3)
    have hrev : eP ((qs.reverse.map swR).map (·.1)) = .tup ((qs.map (·.1)).map .str).reverse := by
      simp [eP, swR, Function.comp_def, List.map_reverse]
    rw [hrev] at r2
    rw [seq_nx (if_no (or_ff (ne_ff (d := tupI goal) (call3 (a := eN ps ms) (b := tupI m0) (c := eP (qs.map (·.1))) rfl rfl rfl r1) rfl (okd_tupI (n := 59))) (ne_ff (d := tupI m0) (call3 (a := eN ps (ms.map sw)) (b := tupI goal) (c := .tup ((qs.map (·.1)).map .str).reverse) rfl rfl (e1_eq (a := .lst ((qs.map (·.1)).map .str).reverse) (e1_eq (a := eP (qs.map (·.1))) rfl rfl) rfl) r2) rfl (okd_tupI (n := 59)))))]
    -- the laws over the goal
    have lo := laws_ok hN h2 hp4 hm4 (by omega)
    generalize (sols (cols ps.length (chs ps ms)) ms.length).mergeSort leL = Y at pl lo
    have loop := forM_ok (g := gN 10) (xs := Y.map tupI) (b := (sIf (t2 D.ne (e1 D.sum (eLc (wRange (e1 D.len (eVar 10))) (gN 13) (tY) (e2 D.mul (e2 D.get (eVar 10) (eVar 13)) (e2 D.get (eVar 8) (eVar 13))) [13])) (e1 D.sum (eLc (wRange (e1 D.len (eVar 10))) (gN 13) (tY) (e2 D.mul (e2 D.get (eVar 10) (eVar 13)) (e2 D.get (eVar 1) (eVar 13))) [13]))) (sRet (eC (.bl false))) (sNext)))
      (fun i ρ => ∃ x, ρ = ev sc (some (.sh (tupI m0))) (some (.sh (.tup [eMk s'.1, eArs s'.2]))) (some (.sh (eN ps ms))) (some (.sh (.lst (l.map .int)))) (some (.sh (eN ps (ms.map sw)))) (some (.sh (eP ss))) (some (.sh (.tup (s'.1.map tupI)))) (some (.sh (tupI goal))) (some (.sh (eP (qs.map (·.1))))) x (some (.sh (eP ps))) (some (.sh (eMs ms))) none) ?_ (ρ := ev sc (some (.sh (tupI m0))) (some (.sh (.tup [eMk s'.1, eArs s'.2]))) (some (.sh (eN ps ms))) (some (.sh (.lst (l.map .int)))) (some (.sh (eN ps (ms.map sw)))) (some (.sh (eP ss))) (some (.sh (.tup (s'.1.map tupI)))) (some (.sh (tupI goal))) (some (.sh (eP (qs.map (·.1))))) none (some (.sh (eP ps))) (some (.sh (eMs ms))) none) ⟨none, rfl⟩
    · obtain ⟨ρ', q1, x, rfl⟩ := loop
      rw [seq_nx (for_nx (by
        unfold wSeq
        rw [call1 (a := eN ps ms) rfl pl]
        rfl) q1)]
      rfl
    · rintro i dd ρ hx ⟨x, rfl⟩
      rw [List.getElem?_map] at hx
      obtain ⟨y, hy, rfl⟩ := Option.map_eq_some_iff.mp hx
      obtain ⟨y1, y2, y3⟩ := lo y (List.mem_of_getElem? hy)
      have hs1 := hsum y y2 goal hgR
      refine ⟨ev sc (some (.sh (tupI m0))) (some (.sh (.tup [eMk s'.1, eArs s'.2]))) (some (.sh (eN ps ms))) (some (.sh (.lst (l.map .int)))) (some (.sh (eN ps (ms.map sw)))) (some (.sh (eP ss))) (some (.sh (.tup (s'.1.map tupI)))) (some (.sh (tupI goal))) (some (.sh (eP (qs.map (·.1))))) (some (.sh (tupI y))) (some (.sh (eP ps))) (some (.sh (eMs ms))) none, rfl, _, .inl (if_no (ne_ff (d := .int (lsum ps.length y m0)) ?_ ?_ (by simp [D.okd]))), some (.sh (tupI y)), rfl⟩
      · rw [← hs1.2]
        exact sum_lc2 (i := 8) (m := goal) rfl rfl (fun _ => rfl) (fun _ => rfl) y1 hs1.1 (by omega) y3
      · exact sum_lc2 (i := 1) (m := m0) rfl rfl (fun _ => rfl) (fun _ => rfl) y1 ml (by omega) y3
end F15
end Vl
end
set_option Elab.async false
set_option linter.all false
set_option maxRecDepth 100000
set_option maxHeartbeats 0
/-! the head, the end (printed by gen.py) -/
namespace Vl
namespace F15
open PySem PySem.Spec PyProof.Rows L2 GxR TupF Dc
theorem tab_of {base : Heap} {mg : Str → Option Value} {c P : Addr} (t : LamX.TabB base mg c P) : GxR.TabB base mg c P := ⟨t.code, t.bm, t.gP⟩
theorem fc {P : Program} {w : World} {K : PySem.W.Frag} {mg : Str → Option Value} {base : Heap} (X : K.In base) (G : base.Ns mainGlobals mg) (c : He.SaysD fa fn K) (T : ∀ p ∈ tf.map (He.cT K), LamX.TabB base mg p.1 p.2) : FC P w K mg base where
  g__law_draws := He.glo_ok X G (c.fact 0 (f := .glo "_law_draws") rfl)
  g__law_side := He.glo_ok X G (c.fact 1 (f := .glo "_law_side") rfl)
  g__law_shifted := He.glo_ok X G (c.fact 2 (f := .glo "_law_shifted") rfl)
  g__law_net := He.glo_ok X G (c.fact 3 (f := .glo "_law_net") rfl)
  g__law_cell := He.glo_ok X G (c.fact 4 (f := .glo "_law_cell") rfl)
  g__law_mark := He.glo_ok X G (c.fact 5 (f := .glo "_law_mark") rfl)
  g__law_enough := He.glo_ok X G (c.fact 6 (f := .glo "_law_enough") rfl)
  g__law_behind := He.glo_ok X G (c.fact 7 (f := .glo "_law_behind") rfl)
  g__law_reached := He.glo_ok X G (c.fact 8 (f := .glo "_law_reached") rfl)
  g__law_row := He.glo_ok X G (c.fact 9 (f := .glo "_law_row") rfl)
  g__law_rows := He.glo_ok X G (c.fact 10 (f := .glo "_law_rows") rfl)
  g_is_name := He.glo_ok X G (c.fact 11 (f := .glo "is_name") rfl)
  g_is_number := He.glo_ok X G (c.fact 12 (f := .glo "is_number") rfl)
  g_is_side := He.glo_ok X G (c.fact 13 (f := .glo "is_side") rfl)
  g_is_move := He.glo_ok X G (c.fact 14 (f := .glo "is_move") rfl)
  g_turned_back := He.glo_ok X G (c.fact 15 (f := .glo "turned_back") rfl)
  g_check_some := He.glo_ok X G (c.fact 16 (f := .glo "check_some") rfl)
  g_touches := He.glo_ok X G (c.fact 17 (f := .glo "touches") rfl)
  g_is_siphon_at := He.glo_ok X G (c.fact 18 (f := .glo "is_siphon_at") rfl)
  g_row_of := He.glo_ok X G (c.fact 19 (f := .glo "row_of") rfl)
  g_rows_of := He.glo_ok X G (c.fact 20 (f := .glo "rows_of") rfl)
  g_indices := He.glo_ok X G (c.fact 21 (f := .glo "indices") rfl)
  g_is_siphon := He.glo_ok X G (c.fact 22 (f := .glo "is_siphon") rfl)
  g_is_trap := He.glo_ok X G (c.fact 23 (f := .glo "is_trap") rfl)
  g_places_at := He.glo_ok X G (c.fact 24 (f := .glo "places_at") rfl)
  g_greatest_at := He.glo_ok X G (c.fact 25 (f := .glo "greatest_at") rfl)
  g_greatest_siphon := He.glo_ok X G (c.fact 26 (f := .glo "greatest_siphon") rfl)
  g_greatest_trap := He.glo_ok X G (c.fact 27 (f := .glo "greatest_trap") rfl)
  g_changes_of := He.glo_ok X G (c.fact 28 (f := .glo "changes_of") rfl)
  g_common := He.glo_ok X G (c.fact 29 (f := .glo "common") rfl)
  g_joined := He.glo_ok X G (c.fact 30 (f := .glo "joined") rfl)
  g_holds_within := He.glo_ok X G (c.fact 31 (f := .glo "holds_within") rfl)
  g_least_rows := He.glo_ok X G (c.fact 32 (f := .glo "least_rows") rfl)
  g_least_solutions := He.glo_ok X G (c.fact 33 (f := .glo "least_solutions") rfl)
  g_place_laws := He.glo_ok X G (c.fact 34 (f := .glo "place_laws") rfl)
  g_move_laws := He.glo_ok X G (c.fact 35 (f := .glo "move_laws") rfl)
  g_subsets := He.glo_ok X G (c.fact 36 (f := .glo "subsets") rfl)
  g_moves_at := He.glo_ok X G (c.fact 37 (f := .glo "moves_at") rfl)
  g_come_from := He.glo_ok X G (c.fact 38 (f := .glo "come_from") rfl)
  g_is_machine_part := He.glo_ok X G (c.fact 39 (f := .glo "is_machine_part") rfl)
  g_named := He.glo_ok X G (c.fact 40 (f := .glo "named") rfl)
  g_machine_parts := He.glo_ok X G (c.fact 41 (f := .glo "machine_parts") rfl)
  g_rank_of := He.glo_ok X G (c.fact 42 (f := .glo "rank_of") rfl)
  g_check_mark := He.glo_ok X G (c.fact 43 (f := .glo "check_mark") rfl)
  g_is_enough := He.glo_ok X G (c.fact 44 (f := .glo "is_enough") rfl)
  g_moved := He.glo_ok X G (c.fact 45 (f := .glo "moved") rfl)
  g_explored := He.glo_ok X G (c.fact 46 (f := .glo "explored") rfl)
  g_reached := He.glo_ok X G (c.fact 47 (f := .glo "reached") rfl)
  g_word_to := He.glo_ok X G (c.fact 48 (f := .glo "word_to") rfl)
  g_way := He.glo_ok X G (c.fact 49 (f := .glo "way") rfl)
  g_found_move := He.glo_ok X G (c.fact 50 (f := .glo "found_move") rfl)
  g_run := He.glo_ok X G (c.fact 51 (f := .glo "run") rfl)
  g_law := He.glo_ok X G (c.fact 52 (f := .glo "law") rfl)
  f_all := He.free_ok X G (c.fact 53 (f := .free "all") rfl)
  f_any := He.free_ok X G (c.fact 54 (f := .free "any") rfl)
  f_int := He.free_ok X G (c.fact 55 (f := .free "int") rfl)
  f_isinstance := He.free_ok X G (c.fact 56 (f := .free "isinstance") rfl)
  f_len := He.free_ok X G (c.fact 57 (f := .free "len") rfl)
  f_list := He.free_ok X G (c.fact 58 (f := .free "list") rfl)
  f_range := He.free_ok X G (c.fact 59 (f := .free "range") rfl)
  f_reversed := He.free_ok X G (c.fact 60 (f := .free "reversed") rfl)
  f_sorted := He.free_ok X G (c.fact 61 (f := .free "sorted") rfl)
  f_str := He.free_ok X G (c.fact 62 (f := .free "str") rfl)
  f_sum := He.free_ok X G (c.fact 63 (f := .free "sum") rfl)
  f_tuple := He.free_ok X G (c.fact 64 (f := .free "tuple") rfl)
  s_LETTERS := He.str_ok X G (c.fact 65 (f := .str "LETTERS" "abcdefghijklmnopqrstuvwxyz") rfl)
  i_MOST_MOVES := He.int_ok X G (c.fact 66 (f := .int "MOST_MOVES" 9) rfl)
  i_MOST_PLACES := He.int_ok X G (c.fact 67 (f := .int "MOST_PLACES" 8) rfl)
  i_MOST_WEIGHT := He.int_ok X G (c.fact 68 (f := .int "MOST_WEIGHT" 9) rfl)
  s_SIGNS := He.str_ok X G (c.fact 69 (f := .str "SIGNS" "abcdefghijklmnopqrstuvwxyz0123456789") rfl)
  gc_Net := He.glo_ok X G (c.fact 70 (f := .glo "Net") rfl)
  c_Net := He.cls_ok (c.fact 71 (f := .cls "Net") rfl)
  n_Net_places := He.noat_ok (c.fact 72 (f := .noat "Net" "places") rfl)
  n_Net_moves := He.noat_ok (c.fact 73 (f := .noat "Net" "moves") rfl)
  m_Net := He.mkr_ok (c.fact 74 (f := .mkr "Net") rfl)
  e__law_draws := c.def_ 0 (d := d__law_draws) rfl
  e__law_side := c.def_ 1 (d := d__law_side) rfl
  e__law_shifted := c.def_ 2 (d := d__law_shifted) rfl
  e__law_net := c.def_ 3 (d := d__law_net) rfl
  e__law_cell := c.def_ 4 (d := d__law_cell) rfl
  e__law_mark := c.def_ 5 (d := d__law_mark) rfl
  e__law_enough := c.def_ 6 (d := d__law_enough) rfl
  e__law_behind := c.def_ 7 (d := d__law_behind) rfl
  e__law_reached := c.def_ 8 (d := d__law_reached) rfl
  e__law_row := c.def_ 9 (d := d__law_row) rfl
  e__law_rows := c.def_ 10 (d := d__law_rows) rfl
  e_is_name := c.def_ 11 (d := d_is_name) rfl
  e_is_number := c.def_ 12 (d := d_is_number) rfl
  e_is_side := c.def_ 13 (d := d_is_side) rfl
  e_is_move := c.def_ 14 (d := d_is_move) rfl
  e_Net_init := c.def_ 15 (d := d_Net_init) rfl
  e_turned_back := c.def_ 16 (d := d_turned_back) rfl
  e_check_some := c.def_ 17 (d := d_check_some) rfl
  e_touches := c.def_ 18 (d := d_touches) rfl
  e_is_siphon_at := c.def_ 19 (d := d_is_siphon_at) rfl
  e_row_of := c.def_ 20 (d := d_row_of) rfl
  e_rows_of := c.def_ 21 (d := d_rows_of) rfl
  e_indices := c.def_ 22 (d := d_indices) rfl
  e_is_siphon := c.def_ 23 (d := d_is_siphon) rfl
  e_is_trap := c.def_ 24 (d := d_is_trap) rfl
  e_places_at := c.def_ 25 (d := d_places_at) rfl
  e_greatest_at := c.def_ 26 (d := d_greatest_at) rfl
  e_greatest_siphon := c.def_ 27 (d := d_greatest_siphon) rfl
  e_greatest_trap := c.def_ 28 (d := d_greatest_trap) rfl
  e_changes_of := c.def_ 29 (d := d_changes_of) rfl
  e_common := c.def_ 30 (d := d_common) rfl
  e_joined := c.def_ 31 (d := d_joined) rfl
  e_holds_within := c.def_ 32 (d := d_holds_within) rfl
  e_least_rows := c.def_ 33 (d := d_least_rows) rfl
  e_least_solutions := c.def_ 34 (d := d_least_solutions) rfl
  e_place_laws := c.def_ 35 (d := d_place_laws) rfl
  e_move_laws := c.def_ 36 (d := d_move_laws) rfl
  e_subsets := c.def_ 37 (d := d_subsets) rfl
  e_moves_at := c.def_ 38 (d := d_moves_at) rfl
  e_come_from := c.def_ 39 (d := d_come_from) rfl
  e_is_machine_part := c.def_ 40 (d := d_is_machine_part) rfl
  e_named := c.def_ 41 (d := d_named) rfl
  e_machine_parts := c.def_ 42 (d := d_machine_parts) rfl
  e_rank_of := c.def_ 43 (d := d_rank_of) rfl
  e_check_mark := c.def_ 44 (d := d_check_mark) rfl
  e_is_enough := c.def_ 45 (d := d_is_enough) rfl
  e_moved := c.def_ 46 (d := d_moved) rfl
  e_explored := c.def_ 47 (d := d_explored) rfl
  e_reached := c.def_ 48 (d := d_reached) rfl
  e_word_to := c.def_ 49 (d := d_word_to) rfl
  e_way := c.def_ 50 (d := d_way) rfl
  e_found_move := c.def_ 51 (d := d_found_move) rfl
  e_run := c.def_ 52 (d := d_run) rfl
  e_law := c.def_ 53 (d := d_law) rfl
  t_is_name := tab_of (T _ (List.mem_of_getElem? (i := 0) rfl))
  t_touches := tab_of (T _ (List.mem_of_getElem? (i := 1) rfl))
  t_is_siphon_at := tab_of (T _ (List.mem_of_getElem? (i := 2) rfl))
  t_holds_within := tab_of (T _ (List.mem_of_getElem? (i := 3) rfl))
  t_moves_at := tab_of (T _ (List.mem_of_getElem? (i := 4) rfl))
  t_is_machine_part := tab_of (T _ (List.mem_of_getElem? (i := 5) rfl))
  t_is_enough := tab_of (T _ (List.mem_of_getElem? (i := 6) rfl))
  t_subsets := tab_of (T _ (List.mem_of_getElem? (i := 7) rfl))
def ndT (K : PySem.W.Frag) : Bool := decide ((tf.map fun p => (He.cT K p).2).Nodup)
theorem lam_nd {F : He.Defn → Addr} : ∀ {tg : List He.Defn} {tl : List (He.Defn × Str)}, ((tg ++ tl.map (·.1)).map F).Nodup → ∀ p ∈ tl.map (fun d => (F d.1, d.2)), p.1 ∉ tg.map F ∧ ∀ p' ∈ tl.map (fun d => (F d.1, d.2)), p'.1 = p.1 → p'.2 = p.2 := by
  intro tg tl h p hp
  rw [List.map_append, List.nodup_append] at h
  obtain ⟨_, h2, h3⟩ := h
  obtain ⟨d, hd, rfl⟩ := List.mem_map.mp hp
  refine ⟨fun z => h3 _ z _ (List.mem_map.mpr ⟨d.1, List.mem_map.mpr ⟨d, hd, rfl⟩, rfl⟩) rfl, fun p' hp' e => ?_⟩
  obtain ⟨d', hd', rfl⟩ := List.mem_map.mp hp'
  have inj : ∀ (l : List (He.Defn × Str)), ((l.map (·.1)).map F).Nodup → ∀ a ∈ l, ∀ b ∈ l, F a.1 = F b.1 → a = b := by
    intro l
    induction l with
    | nil => intro _ a ha; nomatch ha
    | cons x l ih =>
      intro nd a ha b hb e
      rw [List.map_cons, List.map_cons, List.nodup_cons] at nd
      rcases List.mem_cons.mp ha with ea | ha2
      · rcases List.mem_cons.mp hb with eb | hb2
        · rw [ea, eb]
        · refine absurd ?_ nd.1
          rw [← ea, e]
          exact List.mem_map.mpr ⟨b.1, List.mem_map.mpr ⟨b, hb2, rfl⟩, rfl⟩
      · rcases List.mem_cons.mp hb with eb | hb2
        · refine absurd ?_ nd.1
          rw [← eb, ← e]
          exact List.mem_map.mpr ⟨a.1, List.mem_map.mpr ⟨a, ha2, rfl⟩, rfl⟩
        · exact ih nd.2 a ha2 b hb2 e
  rw [inj tl h2 d' hd' d hd e]
abbrev R : PySem.W.OpenRow := PySem.W.OpenLaw.row PySem.Challenge.rw_tokenworks_k15_whole_nets_turned_back
abbrev hk : PySem.W.Hook := He.hookX 5 fa fn [] tf ndT
def ob (s : PySem.W.SharedT) : He.AlX := He.obsX 5 fa fn [] tf ndT (HandSHeadRun.getT s)
theorem ob_eq (s : PySem.W.SharedT) : ob s = hk.obs s.abs := He.obsX_eq (HandSHeadRun.getT_eq s)
def names : List Str := (["NetError", "BadNet", "BadMark", "BadName", "Stuck", "TooMany", "MOST_PLACES", "MOST_MOVES", "MOST_WEIGHT", "LETTERS", "SIGNS", "is_number", "is_name", "is_side", "is_move", "Net", "check_mark", "row_of", "rows_of", "found_move"] : List Str) ++ (["is_enough", "moved", "run", "turned_back", "check_some", "touches", "places_at", "indices", "is_siphon_at", "is_siphon", "is_trap", "greatest_at", "greatest_siphon", "greatest_trap", "changes_of", "common", "joined", "holds_within", "least_rows", "least_solutions"] : List Str) ++ (["place_laws", "move_laws", "subsets", "moves_at", "is_machine_part", "come_from", "machine_parts", "named", "rank_of", "explored", "word_to", "reached", "way", "_law_cell", "_law_draws", "_law_side", "_law_shifted", "_law_net", "_law_mark", "_law_row"] : List Str) ++ (["_law_rows", "_law_enough", "_law_behind", "_law_reached"] : List Str)
theorem run (w : World) : HandSHeadRun.RunEq R (PySem.W.view R.prog [72]) hk ob 6000 names w := by
  intro os
  kernel_rfl
theorem law_at {w : World} {K : PySem.W.Frag} {mg : Str → Option Value} {h : Heap} {fa0 : Addr} (X : K.In h) (G : h.Ns mainGlobals mg) (hfa : mg "law" = some (.ref fa0)) (c : He.SaysX fa fn [] tf ndT w h K) :
    LamX.LawAtS PySem.Challenge.rw_tokenworks_k15_whole_nets_turned_back w K CX0 8 63 "script" mg fa0 h := by
  have cd := c.t.d
  obtain ⟨fd, F⟩ := cd.def_ 53 (d := d_law) rfl
  have e := hfa.symm.trans (He.glo_ok X G (cd.fact 52 (f := .glo "law") rfl))
  cases e
  have b := FunD.bindsA (ps := ["script"]) F fun _ _ _ _ _ _ us hl => match us, hl with | [_], _ => rfl
  refine ⟨fd, tf.map (He.cT K), spV (kp PySem.Challenge.rw_tokenworks_k15_whole_nets_turned_back.prog w K (WM K none)) g_law, fun p hp => ?_, fun p hp => ?_, fun p hp => ?_, fun s v => b s [v] rfl, fun H a ns hl _ hT hS => ?_, fun base KB GB T => ?_⟩
  · obtain ⟨q, hq, rfl⟩ := List.mem_map.mp hp
    exact c.empty q hq
  · obtain ⟨q, hq, rfl⟩ := List.mem_map.mp hp
    exact c.out q hq
  · obtain ⟨q, hq, rfl⟩ := List.mem_map.mp hp
    exact PySem.W.codeHd_of_K X (c.hd q hq)
  · refine ⟨whole H, [.lst (ns.map .int)], .bl true, ⟨fun _ _ e => whole_some e, fun Q hQ => ?_, fun p hp => ?_⟩, .cons (.lst (sqL_mono (fun b o e n => some_whole e n) hS) ?_ ?_) .nil, law_true ns hl, fun F' H' v _ r => by cases r; rfl⟩
    · obtain ⟨q, hq, rfl⟩ := List.mem_map.mp hQ
      exact ⟨#[], hT _ (List.mem_map.mpr ⟨q, List.mem_append_left _ hq, rfl⟩), by simp [TriplesOk]⟩
    · refine ⟨?_, lam_nd (of_decide_eq_true c.more) p hp⟩
      obtain ⟨q, hq, rfl⟩ := List.mem_map.mp hp
      exact ⟨#[], hT _ (List.mem_map.mpr ⟨q.1, List.mem_append_right _ (List.mem_map.mpr ⟨q, hq, rfl⟩), rfl⟩), by simp [TriplesOk], fun pos cv hc => by simp [codeAmong] at hc⟩
    · rw [List.length_map]
      exact Nat.le_trans hl (by decide)
    · have : ∀ l : List Int, Reps (kp PySem.Challenge.rw_tokenworks_k15_whole_nets_turned_back.prog w K (WM K none)) H (whole H) (l.map V.int) (l.map .int) := fun l => by
        induction l with
        | nil => exact .nil
        | cons x l ih => exact .cons (.int x) ih
      exact this ns
  · exact ok_law (fc (P := PySem.Challenge.rw_tokenworks_k15_whole_nets_turned_back.prog) (w := w) KB GB cd T) none F
end F15
end Vl
open PySem PySem.W PySem.Calls PyProof.Rows
theorem PySem.Challenge.cw_tokenworks_k15_whole_nets_turned_back_holds : PySem.Challenge.rw_tokenworks_k15_whole_nets_turned_back.Holds := by
  w_on; o_law
  refine HandSHeadRun.head_any (r := OpenLaw.row PySem.Challenge.rw_tokenworks_k15_whole_nets_turned_back) (q := view (OpenLaw.row PySem.Challenge.rw_tokenworks_k15_whole_nets_turned_back).prog [72]) (H := Vl.F15.hk) (ob := Vl.F15.ob) (M := 6000) (loose := Vl.F15.names) (d := HandSHeadRun.topDef (OpenLaw.row PySem.Challenge.rw_tokenworks_k15_whole_nets_turned_back).prog 72) (kwd := []) Vl.F15.ob_eq
    (by kernel_rfl) (fun s => by kernel_rfl) Vl.F15.run (by kernel_rfl) (by kernel_rfl) (by kernel_rfl) (by rfl) (by first | assumption | decide +kernel) (by decide +kernel) ⟨rfl, rfl, rfl, rfl, rfl, by decide +kernel⟩ ?hw ?hc
  case hw => w_witness2
  case hc =>
    refine LamX.walk_ofTsE (l := PySem.Challenge.rw_tokenworks_k15_whole_nets_turned_back) (n := 63) (k := 8) (x := "script") (CX := fun _ => L2.CX0) rfl (by decide) (by kernel_rfl) ⟨rfl, by decide, by decide⟩ ?F (fun _ _ _ _ _ z => z)
    intro w mg fa h Y G hmg0
    obtain ⟨K, KX, c⟩ := Y
    have hmg : mg ("law" : PySem.Str) = some (.ref fa) := by
      have e : (HandSHeadRun.topDef (OpenLaw.row PySem.Challenge.rw_tokenworks_k15_whole_nets_turned_back).prog 72).name = ("law" : PySem.Str) := by kernel_rfl
      rw [← e]
      exact hmg0
    exact ⟨K, KX, Vl.F15.law_at KX G hmg c⟩
