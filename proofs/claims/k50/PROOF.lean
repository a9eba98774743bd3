import PyProof.Rows.All
import Wide.All
import OpenK.AllK
import Wide.FinOn
import HandS.ForMost
import HandS.IsInst
import HandS.Zip
import HandS.Star
import HandS.TupAny
import HandS.Strs
import HandS.Style
import HandS.WordsExc
import HandS.ExcIs
import HandS.HotCalls
import HandS.Flow
import KE.KTupSum
import KE.DataMinMax
import PyProof.Rows.SortWalkRead
import HandS.SlotsOwn
import KE.KEqNest
import KE.GoesNew
import KE.GoesEnum
import KE.KDictZip
import PyProof.ListNew
import KE.KExcSuper
import HandS.ExcInit
import KE.KExcIs
import HandS.ExcField
import HandS.Deep
import HandS.WordsDict
import KE.KDictKeyed
import HandS.Iter
import HandS.FStr
import HandS.Conv
import PyProof.MinMaxWalk
import KE.KEqDict
import HandS.Head0
import HandS.Head1
import HandS.Head2
import PySem.Challenge.RW_vouchdoor_k50_picks_of_a_wallet
set_option Elab.async false
set_option linter.all false
set_option maxRecDepth 100000
namespace DL
open PySem (Str)
/-- data: what a python value is,without addresses; own n: the mutable thing number n -/
inductive D where
 | non | bl (b : Bool) | int (i : Int) | str (s : Str)
 | tup (xs : List D) | lst (xs : List D)
 | ins (c : Nat) (fs : List (Nat × D))
 | dct (kvs : List (D × D))
 | own (n : Nat)
 | ext (ns : List Int)
 | tupz (xs : List D)
 | dtt (kvs : List (List Int × D))
/-- the mutable things -/
inductive Cell where
 | lst (xs : List D) | ins (c : Nat) (fs : List (Nat × D)) | dct (kvs : List (D × D)) | dead
abbrev Wd:=List Cell
inductive R (A : Type) where
 | ok (a : A) (W : Wd)
 | ex (c : Nat) (p : D) (W : Wd)
 | st
def R.bind {A B : Type} (r : R A) (f : A → Wd → R B) : R B :=
 match r with
 | .ok a W=>f a W
 | .ex c p W=>.ex c p W
 | .st=>.st
/-- an answer is there and Q holds of it -/
def R.wp {A : Type} (r : R A) (x : Nat → D → Wd → Prop) (Q : A → Wd → Prop) : Prop :=
 match r with
 | .ok a W=>Q a W
 | .ex c p W=>x c p W
 | .st=>False
/-- nothing raised -/
def R.calm {A : Type} (r : R A) : R A :=
 match r with
 | .ok a W=>.ok a W
 | _=>.st
@[simp] theorem R.bind_ok {A B : Type} (a : A) (W : Wd) (f : A → Wd → R B) : (R.ok a W).bind f = f a W:=rfl
@[simp] theorem R.bind_ex {A B : Type} (c : Nat) (p : D) (W : Wd) (f : A → Wd → R B) : (R.ex c p W).bind f = .ex c p W:=rfl
@[simp] theorem R.bind_st {A B : Type} (f : A → Wd → R B) : (R.st).bind f = .st:=rfl
@[simp] theorem R.wp_ok {A : Type} {x : Nat → D → Wd → Prop} (a : A) (W : Wd) (Q : A → Wd → Prop) : (R.ok a W).wp x Q ↔ Q a W:=Iff.rfl
@[simp] theorem R.calm_ok {A : Type} (a : A) (W : Wd) : (R.ok a W).calm = .ok a W:=rfl
theorem R.wp_calm {A : Type} {x y : Nat → D → Wd → Prop} {r : R A} {Q : A → Wd → Prop} (h : r.calm.wp x Q) : r.wp y Q:=by
 cases r with
 | ok a W=>exact h
 | ex _ _ _=>exact h.elim
 | st=>exact h
theorem R.wp_bind {A B : Type} {x : Nat → D → Wd → Prop} (r : R A) (f : A → Wd → R B) (Q : B → Wd → Prop) : (r.bind f).wp x Q ↔ r.wp x fun a W=>(f a W).wp x Q:=by
 cases r <;> exact Iff.rfl
theorem R.wp_mono2 {A : Type} {x y : Nat → D → Wd → Prop} {r : R A} {Q Q' : A → Wd → Prop} (h : r.wp x Q) (j : ∀ c p W,x c p W → y c p W) (i : ∀ a W,Q a W → Q' a W) : r.wp y Q':=by
 cases r with
 | ok a W=>exact i a W h
 | ex _ _ _=>exact j _ _ _ h
 | st=>exact h
theorem R.wp_mono {A : Type} {x : Nat → D → Wd → Prop} {r : R A} {Q Q' : A → Wd → Prop} (h : r.wp x Q) (i : ∀ a W,Q a W → Q' a W) : r.wp x Q':=by
 cases r with
 | ok a W=>exact i a W h
 | ex _ _ _=>exact h
 | st=>exact h
theorem R.bind_assoc {A B C : Type} (r : R A) (f : A → Wd → R B) (g : B → Wd → R C) : (r.bind f).bind g = r.bind fun a W=>(f a W).bind g:=by
 cases r <;> rfl
/-- of a choice -/
def opt {A : Type} (o : Option A) (W : Wd) : R A :=
 match o with
 | some a=>.ok a W
 | none=>.st
@[simp] theorem zZn {A : Type} (a : A) (W : Wd) : opt (some a) W = .ok a W:=rfl
@[simp] theorem zZPK {A : Type} (W : Wd) : opt (none : Option A) W = .st:=rfl
/-- a name's place in a frame: nothing,data,a list of its own,an instance that is being made -/
inductive Slot where
 | no | val (d : D) | ol (xs : List D) | oi (c : Nat) (fs : List (Nat × D)) | xv (c : Nat) (p : D) | od (kvs : List (List Int × D))
abbrev Env:=List Slot
inductive Fl where
 | nx (e : Env) | rt (d : D) | bk (e : Env) | ct (e : Env)
/-- what the evaluator knows of the program -/
structure Cfg where
 call : Nat → List D → Wd → R D
 init : Nat → List D → Wd → R (List (Nat × D))
 meth : Nat → Nat → Option Nat
 cellc : Nat → Bool
 fld : Nat → Nat → Bool
 isc : Nat → Nat → Option Bool
 eqm : Nat → Nat → Option Nat
 dw : (W W' : Wd) → Decidable (W = W')
 xm : Nat → Nat → Option Bool
 xis : Nat → Nat → Option Bool
 xf : Nat → Option Nat
 xiv : Nat → Option Bool
 nem : Nat → Nat → Option Nat
inductive Op where
 | add | sub | mul | fdiv | mod | pow
inductive Cm where
 | eq | ne | lt | le | gt | ge | isN | notN | inn | notin
/-- built-in classes,for isinstance -/
inductive Ty where
 | int | bool | str | list | tuple | dict
/-- built-in functions of one value -/
inductive B1 where
 | int | str | tuple | len | sum | any | all | max | min
mutual
inductive E where
 | non | bl (b : Bool) | int (i : Int) | str (s : Str)
 | var (i : Nat)
 | bin (op : Op) (a b : E)
 | cmp (op : Cm) (a b : E)
 | chain (o1 o2 : Cm) (a b c : E)
 | and (es : Es) | or (es : Es) | not (a : E)
 | fld (f : Nat) (a : E)
 | idx (a b : E)
 | sl (a : E) (lo hi : Oe)
 | tup (es : Es)
 | frz (f : Fe) | cell (f : Fe)
 | call (f : Nat) (es : Es)
 | make (c : Nat) (es : Es)
 | meth (m : Nat) (a : E) (es : Es)
 | b1 (b : B1) (a : E)
 | isi (a : E) (t : Ty)
 | index (a b : E)
 | ixd (a b : E)
 | ind (neg : Bool) (a b : E)
 | isw (a : E) (t : Ty)
 | dsp (ks : List Str) (vs : Es)
 | dgc (a b : E)
 | dtg (a b : E)
inductive Oe where
 | none | some (e : E)
inductive Es where
 | nil | cons (e : E) (es : Es) | star (e : E) (es : Es)
/-- what makes a new list -/
inductive Fe where
 | disp (es : Es)
 | of (e : E)
 | sl (a : E) (lo hi : Oe)
 | comp (elt : E) (t : Tg) (it : It) (ifs : Es)
 | range (it : It)
 | scr (i : Nat)
 | add (a b : E)
 | comp2 (elt : E) (t : Tg) (it : It) (t2 : Tg) (it2 : It)
 | compC (elt : E) (t : Tg) (en : Bool) (a : E) (ifs : Es)
/-- what a loop goes over -/
inductive It where
 | seq (e : E) | range1 (a : E) | range2 (a b : E) | enum (e : E)
/-- a target of names -/
inductive Tg where
 | nm (i : Nat) | tup (ts : Tgs)
inductive Tgs where
 | nil | cons (t : Tg) (ts : Tgs)
end
inductive S where
 | skip
 | seq (a b : S)
 | freeze (i : Nat)
 | asg (t : Tg) (e : E)
 | asgO (i : Nat) (f : Fe)
 | fld (f : Nat) (a e : E)
 | idx (a b e : E)
 | aug (i : Nat) (op : Op) (e : E)
 | append (a e : E)
 | extend (a e : E)
 | expr (e : E)
 | ret (e : E)
 | ite (c : E) (a b : S)
 | forS (t : Tg) (it : It) (body : S)
 | whil (fuel : Nat) (c : E) (body : S)
 | pass
 | never
 | dput (a b e : E)
 | forC (t : Tg) (en : Bool) (a : E) (body : S)
 | asgE (i : Nat)
 | putD (i : Nat) (k x : E)
def cap : Nat:=1000000
def limI : Nat:=18446744073709551616
def getV (e : Env) (i : Nat) : Option D :=
 match e[i]? with
 | some (.val d)=>some d
 | _=>none
def binD (op : Op) (x y : D) : Option D :=
 match op,x,y with
 | .add,.int i,.int j=>some (.int (i + j))
 | .add,.str i,.str j=>if i.length + j.length ≤ cap then some (.str (i ++ j)) else none
 | .add,.tup i,.tup j=>if i.length + j.length ≤ cap then some (.tup (i ++ j)) else none
 | .sub,.int i,.int j=>some (.int (i - j))
 | .mul,.int i,.int j=>if i.natAbs < limI ∨ j.natAbs < limI then some (.int (i * j)) else none
 | .fdiv,.int i,.int j=>if 0 < j ∧ j < 1073741824 then some (.int (i / j)) else none
 | .mod,.int i,.int j=>if 0 < j then some (.int (i % j)) else none
 | .pow,.int i,.int j=>if 0 ≤ j ∧ j ≤ 1000000 ∧ i.natAbs < limI then some (.int (i ^ j.toNat)) else none
 | _,_,_=>none
def flatD : D → Bool
 | .non=>true | .bl _=>true | .int _=>true | .str _=>true | _=>false
/-- == of two flat things of like kinds -/
def eqF : D → D → Option Bool
 | .non,.non=>some true
 | .non,.bl _=>some false | .non,.int _=>some false | .non,.str _=>some false
 | .bl _,.non=>some false | .int _,.non=>some false | .str _,.non=>some false
 | .bl a,.bl b=>some (decide (a = b))
 | .int a,.int b=>some (decide (a = b))
 | .str a,.str b=>some (decide (a = b))
 | .int _,.str _=>some false | .str _,.int _=>some false
 | .bl _,.str _=>some false | .str _,.bl _=>some false
 | _,_=>none
/-- plain data of at most n levels -/
def pd : Nat → D → Option PySem.PyData
 | _,.non=>some .none
 | _,.bl b=>some (.bool b)
 | _,.int i=>some (.int i)
 | _,.str s=>if PySem.PyData.strOk s then some (.str s) else none
 | n + 1,.tup xs=>(xs.mapM (pd n)).map .tuple
 | n + 1,.lst xs=>(xs.mapM (pd n)).map .list
 | _,_=>none
def eqD (x y : D) : Option Bool :=
 match eqF x y with
 | some b=>some b
 | none=>(pd 60 x).bind fun p=>(pd 60 y).map fun q=>PySem.PyData.eqv p q
/-- == of flat things -/
def eqVD : D → D → Bool
 | .non,.non=>true
 | .bl a,.bl b=>a == b
 | .bl a,.int b=>(if a then 1 else 0) == b
 | .int a,.bl b=>a == (if b then 1 else 0)
 | .int a,.int b=>a == b
 | .str a,.str b=>a == b
 | _,_=>false
def inD (x : D) (xs : List D) : Option Bool:=if flatD x && xs.all flatD then some (xs.any fun y=>eqVD y x) else none
def truD : D → Option Bool
 | .non=>some false
 | .bl b=>some b
 | .int i=>some (i != 0)
 | .lst xs=>some (!xs.isEmpty)
 | .tup xs=>some (!xs.isEmpty)
 | _=>none
/-- what may be read as a sequence: frozen items,the list of a place,a mutable list,a text -/
inductive Src where
 | frz (xs : List D) (d : D) | slot (i : Nat) (xs : List D) | cell (n : Nat) | str (s : Str)
def srcD : D → Option Src
 | .lst xs=>some (.frz xs (.lst xs))
 | .tup xs=>some (.frz xs (.tup xs))
 | .own n=>some (.cell n)
 | .str s=>some (.str s)
 | _=>none
def srcOf (a : E) (r : Env → Wd → R D) (e : Env) (W : Wd) : R Src :=
 match a with
 | .var i =>
  match e[i]? with
  | some (.ol xs)=>.ok (.slot i xs) W
  | some (.val d)=>opt (srcD d) W
  | _=>.st
 | _=>(r e W).bind fun d W=>opt (srcD d) W
def items (W : Wd) : Src → Option (List D)
 | .frz xs _=>some xs
 | .slot _ xs=>some xs
 | .cell n =>
  match W[n]? with
  | some (.lst xs)=>some xs
  | _=>none
 | .str s=>if s.length ≤ cap then some (s.cps.toList.map fun c=>.str ⟨#[c]⟩) else none
def Src.isStr : Src → Bool
 | .str _=>true | _=>false
def Src.isTup : Src → Bool
 | .frz _ (.tup _)=>true | _=>false
/-- what a loop may go over -/
def Src.isIt : Src → Bool
 | .frz _ _=>true | .slot _ _=>true | _=>false
/-- a list,to be changed or asked by a method -/
def Src.isSlot : Src → Bool
 | .slot _ _=>true | _=>false
def lstSrc (W : Wd) (s : Src) : Bool := !s.isStr && (!s.isTup && (items W s).isSome)
def inG (neg : Bool) (W : Wd) (x : D) (s : Src) : Option D:=if s.isStr then none else (items W s).bind fun xs=>(inD x xs).map fun k=>.bl (if neg then !k else k)
def objOf (a : E) (r : Env → Wd → R D) (e : Env) (W : Wd) : R (Nat × List (Nat × D)) :=
 match a with
 | .var i =>
  match e[i]? with
  | some (.oi c fs)=>.ok (c,fs) W
  | some (.val (.ins c fs))=>.ok (c,fs) W
  | some (.val (.own n))=>(match W[n]? with | some (.ins c fs)=>.ok (c,fs) W | _=>.st)
  | _=>.st
 | _=>(r e W).bind fun d W =>
  match d with
  | .ins c fs=>.ok (c,fs) W
  | .own n=>(match W[n]? with | some (.ins c fs)=>.ok (c,fs) W | _=>.st)
  | _=>.st
def fldD (g : Cfg) (f : Nat) (o : Nat × List (Nat × D)) : Option D:=if g.fld o.1 f then o.2.lookup f else none
def putFd (f : Nat) (d : D) : List (Nat × D) → List (Nat × D)
 | []=>[(f,d)]
 | (g,x) :: r=>if g = f then (g,d) :: r else (g,x) :: putFd f d r
def atD (xs : List D) (i : D) : Option D :=
 match i with
 | .int i=>L2.atI xs i
 | _=>none
def cmpD (op : Cm) (x y : D) : Option D :=
 match op,x,y with
 | .eq,x,y=>(eqD x y).map .bl
 | .ne,x,y=>(eqD x y).map fun b=>.bl (!b)
 | .lt,.int i,.int j=>some (.bl (decide (i < j)))
 | .le,.int i,.int j=>some (.bl (decide (i ≤ j)))
 | .gt,.int i,.int j=>some (.bl (decide (j < i)))
 | .ge,.int i,.int j=>some (.bl (decide (j ≤ i)))
 | .isN,.non,.non=>some (.bl true)
 | .isN,.own _,.non=>some (.bl false)
 | .isN,x,.non=>some (.bl (match x with | .non=>true | _=>false))
 | .notN,x,.non=>some (.bl (match x with | .non=>false | _=>true))
 | .notN,.bl a,.bl b=>some (.bl (!decide (a = b)))
 | _,_,_=>none
def tyD : D → Ty → Option Bool
 | .non,_=>some false
 | .bl _,.bool=>some true | .bl _,.int=>some true | .bl _,_=>some false
 | .int _,.int=>some true | .int _,_=>some false
 | .str _,.str=>some true | .str _,_=>some false
 | .lst _,.list=>some true | .lst _,_=>some false
 | .tup _,.tuple=>some true | .tup _,_=>some false
 | _,_=>none
def intsD : List D → Option (List Int)
 | []=>some []
 | .int i :: r=>(intsD r).map (i :: ·)
 | _=>none
def truFl : D → Option Bool
 | .non=>some false | .bl b=>some b | .int i=>some (i != 0) | _=>none
def boolsD : List D → Option (List Bool)
 | []=>some []
 | d :: r =>
  match truFl d,boolsD r with
  | some a,some b=>some (a :: b)
  | _,_=>none
def indexD (x : D) (xs : List D) : Option Nat:=if flatD x && xs.all flatD then xs.findIdx? (fun y=>eqVD y x) else none
def idxG (W : Wd) (s : Src) (x : D) : Option D:=(items W s).bind fun xs=>(indexD x xs).map fun (k : Nat)=>D.int (k : Int)
def maxI : Int → List Int → Int
 | m,[]=>m
 | m,x :: r=>maxI (if m < x then x else m) r
def minI : Int → List Int → Int
 | m,[]=>m
 | m,x :: r=>minI (if x < m then x else m) r
def strLen (i : Int) : Bool:=decide (i.natAbs < 1000000000000000000000)
def b1D (W : Wd) (b : B1) (s : Src) : Option D :=
 match b with
 | .len=>(items W s).map fun xs=>.int xs.length
 | .tuple=>if s.isStr then none else (items W s).map fun xs=>.tup xs
 | .sum=>if s.isStr then none else (items W s).bind fun xs=>(intsD xs).map fun l=>.int l.sum
 | .any=>if s.isStr then none else (items W s).bind fun xs=>(boolsD xs).map fun l=>.bl (l.any id)
 | .all=>if s.isStr then none else (items W s).bind fun xs=>(boolsD xs).map fun l=>.bl (l.all id)
 | .max=>if s.isStr then none else (items W s).bind fun xs=>(intsD xs).bind fun l=>match l with | []=>none | m :: r=>some (.int (maxI m r))
 | .min=>if s.isStr then none else (items W s).bind fun xs=>(intsD xs).bind fun l=>match l with | []=>none | m :: r=>some (.int (minI m r))
 | _=>none
def conv (b : B1) (d : D) : Option D :=
 match b,d with
 | .int,.int i=>some (.int i)
 | .int,.bl k=>some (.int (if k then 1 else 0))
 | .str,.int i=>if strLen i then some (.str (PySem.Str.ofString (toString i))) else none
 | _,_=>none
def isConv : B1 → Bool
 | .int=>true | .str=>true | _=>false
def cutD (xs : List D) (lo hi : Option Int) : List D:=(xs.drop (HT.sIx xs.length 0 lo)).take (HT.sIx xs.length xs.length hi - HT.sIx xs.length 0 lo)
def rangeD (lo : Int) (n : Nat) : List D:=(List.range n).map fun (k : Nat)=>D.int (lo + (k : Int))
def smallI (i : Int) : Bool:=decide (-4611686018427387904 ≤ i) && decide (i < 4611686018427387904)
def enumD : Nat → List D → List D
 | _,[]=>[]
 | k,x :: r=>.tupz [.int k,x] :: enumD (k + 1) r
def newCell (c : Cell) (W : Wd) : R D:=.ok (.own W.length) (W ++ [c])
mutual
def tgD : Tg → D → Env → Option Env
 | .nm i,d,e=>if i < e.length then some (e.set i (.val d)) else none
 | .tup ts,.tup xs,e=>tgsD ts xs e
 | .tup ts,.tupz xs,e=>tgsD ts xs e
 | .tup _,_,_=>none
def tgsD : Tgs → List D → Env → Option Env
 | .nil,[],e=>some e
 | .cons t ts,x :: xs,e=>(tgD t x e).bind fun e=>tgsD ts xs e
 | _,_,_=>none
end
mutual
def tgN : Tg → List Nat
 | .nm i=>[i]
 | .tup ts=>tgsN ts
def tgsN : Tgs → List Nat
 | .nil=>[]
 | .cons t ts=>tgN t ++ tgsN ts
end
def wipeE (e : Env) : List Nat → Env
 | []=>e
 | v :: vs=>(wipeE e vs).set v .no
/-- a comprehension that changes nothing,over what may be changed -/
def compK (ck : Wd → Bool) (tg : D → Option Env) (elt : Env → Wd → R D) : List D → Wd → R (List D)
 | [],W=>if ck W then .ok [] W else .st
 | d :: ds,W=>if ck W then (opt (tg d) W).bind fun e W=>(elt e W).calm.bind fun x W=>(compK ck tg elt ds W).bind fun xs W=>.ok (x :: xs) W else .st
/-- [elt for t in ds for t2 in it] -/
def comp2L (tg : D → Option Env) (it : Env → Wd → R (List D × Bool)) (tg2 : D → Env → Option Env) (elt : Env → Wd → R D) : Nat → List D → Wd → R (List D)
 | _,[],W=>.ok [] W
 | n,d :: ds,W=>(opt (tg d) W).bind fun e2 W=>(it e2 W).calm.bind fun y W=>if n + y.1.length ≤ cap then
   (compK (fun _=>true) (fun d=>tg2 d e2) elt y.1 W).bind fun xs W=>(comp2L tg it tg2 elt (n + xs.length) ds W).bind fun zs W=>.ok (xs ++ zs) W
  else .st
/-- the loop of a comprehension -/
def compL (tg : D → Option Env) (tst elt : Env → Wd → R D) : List D → Wd → R (List D)
 | [],W=>.ok [] W
 | d :: ds,W=>(opt (tg d) W).bind fun e W=>(tst e W).calm.bind fun b W =>
  match b with
  | .bl true=>(elt e W).calm.bind fun x W=>(compL tg tst elt ds W).bind fun xs W=>.ok (x :: xs) W
  | .bl false=>compL tg tst elt ds W
  | _=>.st
abbrev Ky:=Sum Int Str
def keyD : D → Option Ky
 | .int i=>some (.inl i)
 | .str s=>some (.inr s)
 | _=>none
def lookK (k : Ky) (kvs : List (D × D)) : Option D:=(kvs.find? fun p=>decide (keyD p.1 = some k)).map (·.2)
/-- in a list of data -/
def indD (x : D) (xs : List D) : Option Bool:=(pd 60 x).bind fun d=>(xs.mapM (pd 59)).map fun ds=>ds.any fun z=>PySem.PyData.eqv z d
/-- the first place of one that is equal,data of any depth -/
def ixdG (W : Wd) (s : Src) (x : D) : Option D:=(items W s).bind fun xs=>(pd 60 x).bind fun d=>(xs.mapM (pd 59)).bind fun ds=>(ds.findIdx? fun z=>PySem.PyData.eqv z d).map fun (k : Nat)=>D.int (k : Int)
def indG (neg : Bool) (W : Wd) (x : D) (s : Src) : Option D:=if s.isStr then none else (items W s).bind fun xs=>(indD x xs).map fun k=>.bl (if neg then !k else k)
/-- a mutable list -/
def cellL (d : D) (W : Wd) : Option (Nat × List D):=match d with
 | .own n=>(match W[n]? with | some (.lst xs)=>some (n,xs) | _=>none)
 | _=>none
/-- isinstance,of what may be mutable -/
def tyW (W : Wd) (x : D) (t : Ty) : Option Bool:=match x with
 | .own n=>(match W[n]? with
  | some (.lst _)=>(match t with | .list=>some true | _=>some false)
  | _=>none)
 | x=>tyD x t
/-- a mutable dict of numbers and texts -/
def dctOf (d : D) (W : Wd) : Option (Nat × List (D × D)):=match d with
 | .own n=>(match W[n]? with | some (.dct kvs)=>some (n,kvs) | _=>none)
 | _=>none
def dspR (ks : List Str) (xs : List D) (W : Wd) : R D:=if (ks.length = xs.length ∧ ks.length ≤ 15) ∧ ks.Nodup then newCell (.dct ((ks.map D.str).zip xs)) W else .st
def dgcR (x y : D) (W : Wd) : R D:=opt ((dctOf x W).bind fun p=>(keyD y).bind fun k=>lookK k p.2) W
def putKD (k : Ky) (y v : D) (kvs : List (D × D)) : List (D × D):=if (kvs.any fun p=>decide (keyD p.1 = some k)) = true then kvs.map (fun p=>if keyD p.1 = some k then (p.1,v) else p) else kvs ++ [(y,v)]
def keyI : D → Option (List Int)
 | .tup xs=>intsD xs
 | _=>none
def lookT (k : List Int) (kvs : List (List Int × D)) : Option D:=(kvs.find? fun p=>decide (p.1 = k)).map (·.2)
def putT (k : List Int) (d : D) (kvs : List (List Int × D)) : List (List Int × D):=if (lookT k kvs).isSome = true then kvs.map (fun p=>if p.1 = k then (p.1,d) else p) else kvs ++ [(k,d)]
def dttOf : D → Option (List (List Int × D))
 | .dtt kvs=>some kvs
 | _=>none
def odOf (s : Option Slot) : Option (List (List Int × D)):=match s with
 | some (.od kvs)=>some kvs
 | some (.val d)=>dttOf d
 | _=>none
/-- a dict that is read: a place's own,or a value -/
def dkOf (a : E) (r : Env → Wd → R D) (e : Env) (W : Wd) : R (List (List Int × D)) :=
 match a with
 | .var i=>opt (odOf e[i]?) W
 | _=>(r e W).bind fun d W=>opt (dttOf d) W
def dtgR (kvs : List (List Int × D)) (x : D) (W : Wd) : R D:=opt ((keyI x).bind fun k=>lookT k kvs) W
/-- a list stands as it stood -/
def ckL (g : Cfg) (n : Nat) (xs : List D) (W : Wd) : Bool:=decide (n < W.length) && @decide (W.set n (.lst xs) = W) (g.dw _ _)
def enC (en : Bool) (xs : List D) : List D:=if en then enumD 0 xs else xs
/-- a comprehension over a list that may be changed,but is not -/
def compKT (ck : Wd → Bool) (tg : D → Option Env) (tst elt : Env → Wd → R D) : List D → Wd → R (List D)
 | [],W=>if ck W then .ok [] W else .st
 | d :: ds,W=>if ck W then (opt (tg d) W).bind fun e W=>(tst e W).calm.bind fun b W =>
  match b with
  | .bl true=>(elt e W).calm.bind fun x W=>(compKT ck tg tst elt ds W).bind fun xs W=>.ok (x :: xs) W
  | .bl false=>compKT ck tg tst elt ds W
  | _=>.st
  else .st
mutual
def evE (g : Cfg) : E → Env → Wd → R D
 | .non,_,W=>.ok .non W
 | .bl b,_,W=>.ok (.bl b) W
 | .int i,_,W=>.ok (.int i) W
 | .str s,_,W=>.ok (.str s) W
 | .var i,e,W=>opt (getV e i) W
 | .bin op a b,e,W=>(evE g a e W).bind fun x W=>(evE g b e W).bind fun y W=>opt (binD op x y) W
 | .cmp .inn a b,e,W=>(evE g a e W).bind fun x W=>(srcOf b (evE g b) e W).bind fun s W=>opt (inG false W x s) W
 | .cmp .notin a b,e,W=>(evE g a e W).bind fun x W=>(srcOf b (evE g b) e W).bind fun s W=>opt (inG true W x s) W
 | .cmp op a b,e,W=>(evE g a e W).bind fun x W=>(evE g b e W).bind fun y W=>opt (cmpD op x y) W
 | .chain o1 o2 a b c,e,W=>(evE g a e W).bind fun x W=>(evE g b e W).bind fun y W=>(opt (cmpD o1 x y) W).bind fun k W =>
  match k with
  | .bl true=>(evE g c e W).bind fun z W=>opt (cmpD o2 y z) W
  | .bl false=>.ok (.bl false) W
  | _=>.st
 | .and es,e,W=>evAnd g es e W
 | .or es,e,W=>evOr g es e W
 | .not a,e,W=>(evE g a e W).bind fun x W=>(opt (truD x) W).bind fun k W=>.ok (.bl (!k)) W
 | .fld f a,e,W=>(objOf a (evE g a) e W).bind fun o W=>opt (fldD g f o) W
 | .idx a b,e,W=>(srcOf a (evE g a) e W).bind fun s W=>(evE g b e W).bind fun i W=>opt ((items W s).bind fun xs=>atD xs i) W
 | .sl a lo hi,e,W=>(evE g a e W).bind fun x W=>(evO g lo e W).bind fun l W=>(evO g hi e W).bind fun h W =>
  match x with
  | .tup xs=>.ok (.tup (cutD xs l h)) W
  | .lst xs=>.ok (.lst (cutD xs l h)) W
  | .own n=>(match W[n]? with | some (.lst xs)=>.ok (.lst (cutD xs l h)) W | _=>.st)
  | _=>.st
 | .tup es,e,W=>(evEs g es e W).bind fun xs W=>if xs.length ≤ cap then .ok (.tup xs) W else .st
 | .frz f,e,W=>(evF g f e W).bind fun xs W=>.ok (.lst xs) W
 | .cell f,e,W=>(evF g f e W).bind fun xs W=>newCell (.lst xs) W
 | .call f es,e,W=>(evEs g es e W).bind fun xs W=>g.call f xs W
 | .make c es,e,W=>(evEs g es e W).bind fun xs W=>(g.init c xs W).bind fun fs W=>if g.cellc c then newCell (.ins c fs) W else .ok (.ins c fs) W
 | .meth m a es,e,W=>(evE g a e W).bind fun o W =>
  (match o with
   | .ins c fs=>if (fs.lookup m).isNone then opt (g.meth c m) W else .st
   | .own n=>(match W[n]? with | some (.ins c fs)=>if (fs.lookup m).isNone then opt (g.meth c m) W else .st | _=>.st)
   | _=>.st).bind fun f W=>(evEs g es e W).bind fun xs W=>g.call f (o :: xs) W
 | .b1 b a,e,W=>if isConv b then (evE g a e W).bind fun x W=>opt (conv b x) W else (srcOf a (evE g a) e W).bind fun s W=>opt (b1D W b s) W
 | .isi a t,e,W=>(evE g a e W).bind fun x W=>opt ((tyD x t).map .bl) W
 | .index a b,e,W=>(srcOf a (evE g a) e W).bind fun s W=>if lstSrc W s then (evE g b e W).bind fun x W=>opt (idxG W s x) W else .st
 | .ixd a b,e,W=>(srcOf a (evE g a) e W).bind fun s W=>if lstSrc W s then (evE g b e W).bind fun x W=>opt (ixdG W s x) W else .st
 | .ind neg a b,e,W=>(evE g a e W).bind fun x W=>(srcOf b (evE g b) e W).bind fun s W=>opt (indG neg W x s) W
 | .isw a t,e,W=>(evE g a e W).bind fun x W=>opt ((tyW W x t).map .bl) W
 | .dsp ks vs,e,W=>(evEs g vs e W).bind fun xs W=>dspR ks xs W
 | .dgc a b,e,W=>(evE g a e W).bind fun x W=>(evE g b e W).bind fun y W=>dgcR x y W
 | .dtg a b,e,W=>(dkOf a (evE g a) e W).bind fun kvs W=>(evE g b e W).bind fun x W=>dtgR kvs x W
def evO (g : Cfg) : Oe → Env → Wd → R (Option Int)
 | .none,_,W=>.ok none W
 | .some a,e,W=>(evE g a e W).bind fun x W=>match x with | .int i=>.ok (some i) W | _=>.st
def evEs (g : Cfg) : Es → Env → Wd → R (List D)
 | .nil,_,W=>.ok [] W
 | .cons a es,e,W=>(evE g a e W).bind fun x W=>(evEs g es e W).bind fun xs W=>.ok (x :: xs) W
 | .star a es,e,W=>(evE g a e W).bind fun x W =>
  match x with
  | .tup ys=>(evEs g es e W).bind fun xs W=>.ok (ys ++ xs) W
  | .lst ys=>(evEs g es e W).bind fun xs W=>.ok (ys ++ xs) W
  | _=>.st
def evAnd (g : Cfg) : Es → Env → Wd → R D
 | .nil,_,_=>.st
 | .cons a .nil,e,W=>evE g a e W
 | .cons a es,e,W=>(evE g a e W).bind fun x W =>
  match x with
  | .bl true=>evAnd g es e W
  | .bl false=>.ok (.bl false) W
  | _=>.st
 | .star _ _,_,_=>.st
def evOr (g : Cfg) : Es → Env → Wd → R D
 | .nil,_,_=>.st
 | .cons a .nil,e,W=>evE g a e W
 | .cons a es,e,W=>(evE g a e W).bind fun x W =>
  match x with
  | .bl true=>.ok (.bl true) W
  | .bl false=>evOr g es e W
  | _=>.st
 | .star _ _,_,_=>.st
def evF (g : Cfg) : Fe → Env → Wd → R (List D)
 | .disp es,e,W=>(evEs g es e W).bind fun xs W=>if xs.length ≤ cap then .ok xs W else .st
 | .of a,e,W=>(srcOf a (evE g a) e W).bind fun s W=>if s.isStr then .st else opt (items W s) W
 | .sl a lo hi,e,W=>(srcOf a (evE g a) e W).bind fun s W=>(evO g lo e W).bind fun l W=>(evO g hi e W).bind fun h W =>
  if s.isStr || s.isTup then .st else opt ((items W s).map fun xs=>cutD xs l h) W
 | .comp elt t it ifs,e,W=>(evIt g it e W).bind fun ds W =>
  if ds.1.length ≤ cap then compL (fun d=>tgD t d (wipeE e (tgN t))) (evTs g ifs) (evE g elt) ds.1 W else .st
 | .range it,e,W=>(evIt g it e W).bind fun ds W=>if ds.1.length ≤ cap then .ok ds.1 W else .st
 | .add a b,e,W=>(srcOf a (evE g a) e W).bind fun s W=>(srcOf b (evE g b) e W).bind fun s2 W=>if (s.isStr || s.isTup) || (s2.isStr || s2.isTup) then .st else (opt (items W s) W).bind fun xs W=>(opt (items W s2) W).bind fun ys W=>if xs.length + ys.length ≤ cap then .ok (xs ++ ys) W else .st
 | .comp2 elt t it t2 it2,e,W=>(evIt g it e W).bind fun ds W=>comp2L (fun d=>tgD t d (wipeE e (tgN t ++ tgN t2))) (evIt g it2) (fun d e2=>tgD t2 d (wipeE e2 (tgN t2))) (evE g elt) 0 ds.1 W
 | .scr i,e,W=>(match e[i]? with | some (.val (.ext ns))=>.ok (ns.map D.int) W | _=>.st)
 | .compC elt t en a ifs,e,W=>(evE g a e W).bind fun d W=>(opt (cellL d W) W).bind fun p W =>
  if (enC en p.2).length ≤ cap then compKT (ckL g p.1 p.2) (fun d=>tgD t d (wipeE e (tgN t))) (evTs g ifs) (evE g elt) (enC en p.2) W else .st
/-- a clause's tests -/
def evTs (g : Cfg) : Es → Env → Wd → R D
 | .nil,_,W=>.ok (.bl true) W
 | .cons a .nil,e,W=>(evE g a e W).bind fun x W=>(opt (truD x) W).bind fun k W=>.ok (.bl k) W
 | _,_,_=>.st
def evIt (g : Cfg) : It → Env → Wd → R (List D × Bool)
 | .seq a,e,W=>(srcOf a (evE g a) e W).bind fun s W=>if s.isIt then opt ((items W s).map fun xs=>(xs,s.isSlot)) W else .st
 | .range1 a,e,W=>(evE g a e W).bind fun x W=>match x with | .int j=>if smallI j then .ok (rangeD 0 j.toNat,false) W else .st | _=>.st
 | .range2 a b,e,W=>(evE g a e W).bind fun x W=>(evE g b e W).bind fun y W =>
  match x,y with
  | .int i,.int j=>if smallI i && smallI j then .ok (rangeD i (j - i).toNat,false) W else .st
  | _,_=>.st
 | .enum a,e,W=>(srcOf a (evE g a) e W).bind fun s W=>if s.isIt then opt ((items W s).map fun xs=>(enumD 0 xs,s.isSlot)) W else .st
end
/-- a for loop,from the items that are left -/
def forL (tg : D → Env → Option Env) (body : Env → Wd → R Fl) : List D → Env → Wd → R Fl
 | [],e,W=>.ok (.nx e) W
 | d :: ds,e,W=>(opt (tg d e) W).bind fun e W=>(body e W).bind fun f W =>
  match f with
  | .nx e=>forL tg body ds e W
  | .ct e=>forL tg body ds e W
  | .bk e=>.ok (.nx e) W
  | .rt d=>.ok (.rt d) W
/-- a for loop over a list that may be changed,but is not -/
def forK (ck : Wd → Bool) (tg : D → Env → Option Env) (body : Env → Wd → R Fl) : List D → Env → Wd → R Fl
 | [],e,W=>if ck W then .ok (.nx e) W else .st
 | d :: ds,e,W=>if ck W then (opt (tg d e) W).bind fun e W=>(body e W).bind fun f W =>
  match f with
  | .nx e=>forK ck tg body ds e W
  | .ct e=>forK ck tg body ds e W
  | .bk e=>.ok (.nx e) W
  | .rt d=>.ok (.rt d) W
  else .st
def whileL (c : Env → Wd → R D) (body : Env → Wd → R Fl) : Nat → Env → Wd → R Fl
 | 0,_,_=>.st
 | n + 1,e,W=>(c e W).bind fun x W=>(opt (truD x) W).bind fun k W =>
  if k then (body e W).bind fun f W =>
   match f with
   | .nx e=>whileL c body n e W
   | .ct e=>whileL c body n e W
   | .bk e=>.ok (.nx e) W
   | .rt d=>.ok (.rt d) W
  else .ok (.nx e) W
def setCell (n : Nat) (c : Cell) (W : Wd) : Wd:=W.set n c
def setAt (xs : List D) (i : D) (d : D) : Option (List D) :=
 match i with
 | .int i=>(L2.ixN xs.length i).map fun j=>xs.set j d
 | _=>none
def putList (s : Src) (xs : List D) (e : Env) (W : Wd) : R Fl :=
 match s with
 | .slot i _=>.ok (.nx (e.set i (.ol xs))) W
 | .cell n=>.ok (.nx e) (W.set n (.lst xs))
 | _=>.st
def odS (s : Option Slot) : Option (List (List Int × D)):=match s with
 | some (.od kvs)=>some kvs
 | _=>none
def exS (g : Cfg) : S → Env → Wd → R Fl
 | .skip,e,W=>.ok (.nx e) W
 | .pass,e,W=>.ok (.nx e) W
 | .never,_,_=>.st
 | .seq a b,e,W=>(exS g a e W).bind fun f W=>match f with | .nx e=>exS g b e W | f=>.ok f W
 | .freeze i,e,W=>(match e[i]? with | some (.ol xs)=>.ok (.nx (e.set i (.val (.lst xs)))) W | some (.od kvs)=>.ok (.nx (e.set i (.val (.dtt kvs)))) W | some (.val _)=>.ok (.nx e) W | _=>.st)
 | .asg t a,e,W=>(evE g a e W).bind fun d W=>(opt (tgD t d e) W).bind fun e W=>.ok (.nx e) W
 | .asgO i f,e,W=>(evF g f e W).bind fun xs W=>if i < e.length then .ok (.nx (e.set i (.ol xs))) W else .st
 | .fld f a b,e,W=>(evE g b e W).bind fun d W =>
  (match a with
   | .var i =>
    match e[i]? with
    | some (.oi c fs)=>if g.fld c f && decide (fs.length < 100) then .ok (.nx (e.set i (.oi c (putFd f d fs)))) W else .st
    | some (.val (.own n))=>(match W[n]? with | some (.ins c fs)=>if g.fld c f && decide (fs.length < 100) then .ok (.nx e) (W.set n (.ins c (putFd f d fs))) else .st | _=>.st)
    | _=>.st
   | _=>.st)
 | .idx a b x,e,W=>(evE g x e W).bind fun d W=>(srcOf a (evE g a) e W).bind fun s W=>(evE g b e W).bind fun i W =>
  if s.isStr || s.isTup then .st else (opt ((items W s).bind fun xs=>setAt xs i d) W).bind fun ys W=>putList s ys e W
 | .aug i op a,e,W=>(opt (getV e i) W).bind fun x W=>(evE g a e W).bind fun y W=>(opt (match x,y with | .int _,.int _=>binD op x y | _,_=>none) W).bind fun z W=>if i < e.length then .ok (.nx (e.set i (.val z))) W else .st
 | .append a x,e,W=>(srcOf a (evE g a) e W).bind fun s W=>if !lstSrc W s then .st else (evE g x e W).bind fun d W=>(opt (items W s) W).bind fun xs W=>if xs.length < cap then putList s (xs ++ [d]) e W else .st
 | .extend a x,e,W=>(srcOf a (evE g a) e W).bind fun s W=>if !lstSrc W s then .st else (srcOf x (evE g x) e W).bind fun s2 W=>(opt (items W s) W).bind fun xs W =>
  match s2 with
  | .frz ys _=>if xs.length + ys.length ≤ cap then putList s (xs ++ ys) e W else .st
  | _=>.st
 | .expr a,e,W=>(evE g a e W).bind fun _ W=>.ok (.nx e) W
 | .ret a,e,W=>(evE g a e W).bind fun d W=>.ok (.rt d) W
 | .ite c a b,e,W=>(evE g c e W).bind fun x W=>(opt (truD x) W).bind fun k W=>if k then exS g a e W else exS g b e W
 | .forS t it b,e,W=>(evIt g it e W).bind fun ds W=>if ds.2 then .st else forL (tgD t) (exS g b) ds.1 e W
 | .whil n c b,e,W=>whileL (evE g c) (exS g b) n e W
 | .dput a b x,e,W=>(evE g x e W).bind fun d W=>(evE g a e W).bind fun s W=>(evE g b e W).bind fun y W =>
  (opt (dctOf s W) W).bind fun p W=>(opt (keyD y) W).bind fun k W=>if p.2.length < cap then .ok (.nx e) (W.set p.1 (.dct (putKD k y d p.2))) else .st
 | .forC t en a b,e,W=>(evE g a e W).bind fun d W=>(opt (cellL d W) W).bind fun p W=>forK (ckL g p.1 p.2) (tgD t) (exS g b) (enC en p.2) e W
 | .asgE i,e,W=>if i < e.length then .ok (.nx (e.set i (.od []))) W else .st
 | .putD i k x,e,W=>(evE g x e W).bind fun d W=>(opt (odS e[i]?) W).bind fun kvs W=>(evE g k e W).bind fun y W=>(opt (keyI y) W).bind fun k W =>
  if kvs.length < cap then .ok (.nx (e.set i (.od (putT k d kvs)))) W else .st
end DL
set_option maxRecDepth 100000
namespace DL
open PySem PySem.Spec PyProof.Rows
open L2 hiding St
/-- the program's tables: where the classes stand,the fields' names -/
structure Tb0 where
 ca : Nat → Addr
 fn : Nat → Str
 nA : Nat
 kl : Addr → List Int → Prop
 inj : ∀ i j,i < nA → j < nA → fn i = fn j → i = j
 xf : Nat → Nat
/-- a tuple whose object is known and bears no dict -/
def TupF (F : Hp) (a : Addr) (vs : List V) : Prop := ∃ o : Obj,o.dict = none ∧ F a = some (.frz o (.tup vs))
/-- an entry of a dict whose keys are tuples of whole numbers; the dict itself,by its object -/
def tEnt (x : List Int × Addr × Value) : DictEntry:=⟨reduceHash (Builtin.Tuple.tupleHashOf (x.1.map hashInt)),.ref x.2.1,x.2.2⟩
def dtO (a : Addr) (xs : List (List Int × Addr × Value)) (ep : Nat) : HO:=.ext fun h=>((a == sysModules) = false ∧ (xs.map (·.1)).Nodup) ∧ ∃ o es,h.get? a = some o ∧ o.ExactDict ∧ o.data = .dict es ep ∧ es.toList = xs.map tEnt
section
variable (B : Tb0) (F : Hp) (eta : List Addr)
mutual
inductive Rep : D → V → Prop where
 | non : Rep .non .non
 | bl (b : Bool) : Rep (.bl b) (.bl b)
 | int (i : Int) : Rep (.int i) (.int i)
 | str (s : Str) : Rep (.str s) (.str s)
 | tup {a : Addr} {xs : List D} {vs : List V} (h : TupF F a vs) (r : RepL xs vs) : Rep (.tup xs) (.ref a)
 | dct {a : Addr} {kvs : List (D × D)} {gs : List (Key × V)} (h : F a = some (.dK gs)) (r : RepK kvs gs) : Rep (.dct kvs) (.ref a)
 | tupz {a : Addr} {xs : List D} {vs : List V} (h : F a = some (.tup vs)) (r : RepL xs vs) : Rep (.tupz xs) (.ref a)
 | dtt {a : Addr} {ep : Nat} {kvs : List (List Int × D)} {xs : List (List Int × Addr × Value)} (h : F a = some (dtO a xs ep)) (r : RepT kvs xs) : Rep (.dtt kvs) (.ref a)
 | lst {a : Addr} {xs : List D} {vs : List V} (h : F a = some (.lst vs)) (r : RepL xs vs) : Rep (.lst xs) (.ref a)
 | ins {a dx : Addr} {c : Nat} {fs : List (Nat × D)} {gs : List (Str × V)} (h : F a = some (.ins (B.ca c) dx gs)) (r : RepF fs gs) : Rep (.ins c fs) (.ref a)
 | own {n : Nat} {a : Addr} (h : eta[n]? = some a) : Rep (.own n) (.ref a)
 | ext {a : Addr} {ns : List Int} (h : (∃ o,F a = some (.frz o (.lst (ns.map V.int)))) ∨ B.kl a ns) : Rep (.ext ns) (.ref a)
inductive RepK : List (D × D) → List (Key × V) → Prop where
 | nil : RepK [] []
 | cons {d x : D} {k : Key} {v : V} {ds : List (D × D)} {vs : List (Key × V)} (hk : keyD d = some k) (h : Rep x v) (t : RepK ds vs) : RepK ((d,x) :: ds) ((k,v) :: vs)
inductive RepT : List (List Int × D) → List (List Int × Addr × Value) → Prop where
 | nil : RepT [] []
 | cons {k : List Int} {d : D} {b : Addr} {u : Value} {v : V} {ds : List (List Int × D)} {xs : List (List Int × Addr × Value)} (hk : TupF F b (k.map V.int)) (h : Rep d v) (hu : RelV v u) (t : RepT ds xs) : RepT ((k,d) :: ds) ((k,b,u) :: xs)
inductive RepL : List D → List V → Prop where
 | nil : RepL [] []
 | cons {d : D} {v : V} {ds : List D} {vs : List V} (h : Rep d v) (t : RepL ds vs) : RepL (d :: ds) (v :: vs)
inductive RepF : List (Nat × D) → List (Str × V) → Prop where
 | nil : RepF [] []
 | cons {f : Nat} {d : D} {v : V} {ds : List (Nat × D)} {vs : List (Str × V)} (hf : f < B.nA) (h : Rep d v) (t : RepF ds vs) : RepF ((f,d) :: ds) ((B.fn f,v) :: vs)
end
end
def SubH (F F' : Hp) : Prop := ∀ a o,F a = some o → F' a = some o
theorem TupF.mono {F F' : Hp} {a : Addr} {vs : List V} (s : SubH F F') : TupF F a vs → TupF F' a vs:=fun ⟨o,h1,h2⟩=>⟨o,h1,s _ _ h2⟩
theorem TupF.sq {K : PySem.W.Frag} {F : Hp} {a : Addr} {vs : List V} : TupF F a vs → SqT K F a vs:=fun ⟨o,_,h⟩=>.inl (.inr ⟨o,h⟩)
theorem TupF.new {F : Hp} {a : Addr} {vs : List V} {o : Obj} (h : o.dict = none) : TupF (upd F a (.frz o (.tup vs))) a vs:=⟨o,h,upd_same⟩
theorem SubH.refl (F : Hp) : SubH F F:=fun _ _ h=>h
theorem SubH.trans {F G H : Hp} (a : SubH F G) (b : SubH G H) : SubH F H:=fun x o h=>b x o (a x o h)
section
variable {B : Tb0} {F F' F2 H H' H2 : Hp} {eta eta' eta2 : List Addr} {W W' W2 : Wd}
theorem zZEB {l l' : List Addr} {n : Nat} {a : Addr} (p : l <+: l') (h : l[n]? = some a) : l'[n]? = some a:=by
 obtain ⟨t,rfl⟩:=p
 have hn : n < l.length:=(List.getElem?_eq_some_iff.mp h).1
 rw [List.getElem?_append_left hn]; exact h
mutual
theorem Rep.mono (s : SubH F F') (p : eta <+: eta') : ∀ {d : D} {v : V},Rep B F eta d v → Rep B F' eta' d v
 | _,_,.non=>.non
 | _,_,.bl b=>.bl b
 | _,_,.int i=>.int i
 | _,_,.str z=>.str z
 | _,_,.tup h r=>.tup (h.mono s) (RepL.mono s p r)
 | _,_,.tupz h r=>.tupz (s _ _ h) (RepL.mono s p r)
 | _,_,.dtt h r=>.dtt (s _ _ h) (RepT.mono s p r)
 | _,_,.dct h r=>.dct (s _ _ h) (RepK.mono s p r)
 | _,_,.lst h r=>.lst (s _ _ h) (RepL.mono s p r)
 | _,_,.ins h r=>.ins (s _ _ h) (RepF.mono s p r)
 | _,_,.own h=>.own (zZEB p h)
 | _,_,.ext h=>.ext (h.imp (fun ⟨o,q⟩=>⟨o,s _ _ q⟩) id)
theorem RepK.mono (s : SubH F F') (p : eta <+: eta') : ∀ {d : List (D × D)} {v : List (Key × V)},RepK B F eta d v → RepK B F' eta' d v
 | _,_,.nil=>.nil
 | _,_,.cons hk h t=>.cons hk (Rep.mono s p h) (RepK.mono s p t)
theorem RepT.mono (s : SubH F F') (p : eta <+: eta') : ∀ {d : List (List Int × D)} {v : List (List Int × Addr × Value)},RepT B F eta d v → RepT B F' eta' d v
 | _,_,.nil=>.nil
 | _,_,.cons hk h hu t=>.cons (hk.mono s) (Rep.mono s p h) hu (RepT.mono s p t)
theorem RepL.mono (s : SubH F F') (p : eta <+: eta') : ∀ {d : List D} {v : List V},RepL B F eta d v → RepL B F' eta' d v
 | _,_,.nil=>.nil
 | _,_,.cons h t=>.cons (Rep.mono s p h) (RepL.mono s p t)
theorem RepF.mono (s : SubH F F') (p : eta <+: eta') : ∀ {d : List (Nat × D)} {v : List (Str × V)},RepF B F eta d v → RepF B F' eta' d v
 | _,_,.nil=>.nil
 | _,_,.cons hf h t=>.cons hf (Rep.mono s p h) (RepF.mono s p t)
end
theorem RepL.length : ∀ {d : List D} {v : List V},RepL B F eta d v → d.length = v.length
 | _,_,.nil=>rfl
 | _,_,.cons _ t=>by simp [RepL.length t]
theorem RepF.length : ∀ {d : List (Nat × D)} {v : List (Str × V)},RepF B F eta d v → d.length = v.length
 | _,_,.nil=>rfl
 | _,_,.cons _ _ t=>by simp [RepF.length t]
theorem RepL.get : ∀ {d : List D} {v : List V} {i : Nat} {x : D},RepL B F eta d v → d[i]? = some x → ∃ y,v[i]? = some y ∧ Rep B F eta x y
 | _,_,_,_,.nil,e=>by simp at e
 | _,_,0,_,.cons h _,e=>by simp at e; subst e; exact ⟨_,rfl,h⟩
 | _,_,i + 1,x,.cons _ t,e=>by
  obtain ⟨y,h1,h2⟩:=RepL.get (i:=i) (x:=x) t (by simpa using e)
  exact ⟨y,by simpa using h1,h2⟩
theorem RepL.append : ∀ {d d2 : List D} {v v2 : List V},RepL B F eta d v → RepL B F eta d2 v2 → RepL B F eta (d ++ d2) (v ++ v2)
 | _,_,_,_,.nil,q=>q
 | _,_,_,_,.cons h t,q=>.cons h (RepL.append t q)
theorem RepL.set {x : D} {y : V} (r : Rep B F eta x y) : ∀ {d : List D} {v : List V} (i : Nat),RepL B F eta d v → RepL B F eta (d.set i x) (v.set i y)
 | _,_,_,.nil=>.nil
 | _,_,0,.cons _ t=>.cons r t
 | _,_,i + 1,.cons h t=>.cons h (RepL.set r i t)
theorem RepL.take : ∀ {d : List D} {v : List V} (n : Nat),RepL B F eta d v → RepL B F eta (d.take n) (v.take n)
 | _,_,0,_=>.nil
 | _,_,_ + 1,.nil=>.nil
 | _,_,n + 1,.cons h t=>.cons h (RepL.take n t)
theorem RepL.drop : ∀ {d : List D} {v : List V} (n : Nat),RepL B F eta d v → RepL B F eta (d.drop n) (v.drop n)
 | _,_,0,r=>r
 | _,_,_ + 1,.nil=>.nil
 | _,_,n + 1,.cons _ t=>RepL.drop n t
theorem RepL.atI {d : List D} {v : List V} {i : Int} {x : D} (r : RepL B F eta d v) (h : L2.atI d i = some x) : ∃ y,L2.atI v i = some y ∧ Rep B F eta x y:=by
 unfold L2.atI at *
 rw [← r.length]
 cases q : ixN d.length i with
 | none=>rw [q] at h; cases h
 | some j =>
  rw [q] at h
  simp only [Option.bind_some] at h ⊢
  exact r.get h
theorem RepF.lookup : ∀ {d : List (Nat × D)} {v : List (Str × V)} {f : Nat} {x : D},f < B.nA → RepF B F eta d v → d.lookup f = some x → ∃ y,v.lookup (B.fn f) = some y ∧ Rep B F eta x y
 | _,_,f,x,_,.nil,e=>by simp at e
 | _,_,f,x,hf,.cons (f:=g) hg h t,e=>by
  rw [List.lookup_cons] at e
  rw [List.lookup_cons]
  by_cases hq : f = g
  ·subst hq
   simp at e
   subst e
   exact ⟨_,by simp,h⟩
  ·have h1 : (f == g) = false:=by simpa using hq
   have h2 : (B.fn f == B.fn g) = false:=by
    have : B.fn f ≠ B.fn g:=fun z=>hq (B.inj _ _ hf hg z)
    simpa using this
   rw [h1] at e
   rw [h2]
   exact RepF.lookup hf t e
theorem RepF.lookup_none : ∀ {d : List (Nat × D)} {v : List (Str × V)} {f : Nat},f < B.nA → RepF B F eta d v → d.lookup f = none → v.lookup (B.fn f) = none
 | _,_,f,_,.nil,e=>by simp
 | _,_,f,hf,.cons (f:=g) hg h t,e=>by
  rw [List.lookup_cons] at e
  rw [List.lookup_cons]
  by_cases hq : f = g
  ·subst hq
   simp at e
  ·have h1 : (f == g) = false:=by simpa using hq
   have h2 : (B.fn f == B.fn g) = false:=by
    have : B.fn f ≠ B.fn g:=fun z=>hq (B.inj _ _ hf hg z)
    simpa using this
   rw [h1] at e
   rw [h2]
   exact RepF.lookup_none hf t e
theorem RepF.put {f : Nat} {x : D} {y : V} (hf : f < B.nA) (r : Rep B F eta x y) : ∀ {d : List (Nat × D)} {v : List (Str × V)},RepF B F eta d v → RepF B F eta (putFd f x d) (putF (B.fn f) y v)
 | _,_,.nil=>.cons hf r .nil
 | _,_,.cons (f:=g) hg h t=>by
  unfold putFd putF
  by_cases hq : g = f
  ·subst hq
   rw [if_pos rfl,if_pos rfl]
   exact .cons hg r t
  ·have : ¬ B.fn g = B.fn f:=fun z=>hq (B.inj _ _ hg hf z)
   rw [if_neg hq,if_neg this]
   exact .cons hg h (RepF.put hf r t)
/-- what a cell stands for -/
def CellRep (B : Tb0) (F : Hp) (eta : List Addr) (H : Hp) (a : Addr) : Cell → Prop
 | .lst xs => ∃ vs,H a = some (.lst vs) ∧ RepL B F eta xs vs
 | .ins c fs => ∃ dx gs,H a = some (.ins (B.ca c) dx gs) ∧ RepF B F eta fs gs
 | .dct kvs => ∃ gs,H a = some (.dK gs) ∧ RepK B F eta kvs gs
 | .dead=>H a ≠ none
theorem CellRep.there {a : Addr} {c : Cell} (h : CellRep B F eta H a c) : H a ≠ none:=by
 cases c with
 | lst xs=>obtain ⟨vs,e,_⟩:=h; rw [e]; simp
 | ins c fs=>obtain ⟨_,_,e,_⟩:=h; rw [e]; simp
 | dct _=>obtain ⟨gs,e,_⟩:=h; rw [e]; simp
 | dead=>exact h
structure OkH (B : Tb0) (F : Hp) (eta : List Addr) (W : Wd) (H : Hp) : Prop where
 sub : SubH F H
 cF : ∀ a,a ∈ eta → F a = none
 nd : eta.Nodup
 len : eta.length = W.length
 cell : ∀ (n : Nat) a c,eta[n]? = some a → W[n]? = some c → CellRep B F eta H a c
theorem OkH.there (o : OkH B F eta W H) {a : Addr} (h : a ∈ eta) : H a ≠ none:=by
 obtain ⟨n,hn,e⟩:=List.mem_iff_getElem.mp h
 have h1 : eta[n]? = some a:=by rw [List.getElem?_eq_getElem hn,e]
 have h2 : n < W.length:=by rw [← o.len]; exact hn
 exact (o.cell n a W[n] h1 (List.getElem?_eq_getElem h2)).there
theorem OkH.notF (o : OkH B F eta W H) {a : Addr} (h : H a = none) : F a = none:=by
 cases q : F a with
 | none=>rfl
 | some u=>rw [o.sub a u q] at h; cases h
theorem OkH.notE (o : OkH B F eta W H) {a : Addr} (h : H a = none) : a ∉ eta:=fun z=>o.there z h
/-- what is kept from one heap to a later one -/
structure Ext (F : Hp) (eta : List Addr) (H F' : Hp) (eta' : List Addr) (H' : Hp) : Prop where
 sub : SubH F F'
 pre : eta <+: eta'
 keep : ∀ a o,H a = some o → a ∉ eta → H' a = some o
 newF : ∀ a,F' a ≠ none → F a ≠ none ∨ H a = none
 newE : ∀ a,a ∈ eta' → a ∈ eta ∨ H a = none
theorem Ext.refl (F : Hp) (eta : List Addr) (H : Hp) : Ext F eta H F eta H :=
 ⟨SubH.refl _,List.prefix_refl _,fun _ _ h _=>h,fun _ h=>.inl h,fun _ h=>.inl h⟩
theorem Ext.there (x : Ext F eta H F' eta' H') (o : OkH B F eta W H) (o' : OkH B F' eta' W' H') {a : Addr} (h : H' a = none) : H a = none:=by
 cases q : H a with
 | none=>rfl
 | some u =>
  by_cases hm : a ∈ eta
  ·exact absurd h (o'.there (x.pre.subset hm))
  ·rw [x.keep a u q hm] at h; cases h
theorem Ext.trans (o : OkH B F eta W H) (o' : OkH B F' eta' W' H') (x : Ext F eta H F' eta' H') (y : Ext F' eta' H' F2 eta2 H2) : Ext F eta H F2 eta2 H2 where
 sub:=x.sub.trans y.sub
 pre:=x.pre.trans y.pre
 keep:=fun a u h hn=>y.keep a u (x.keep a u h hn) fun z=>by
  rcases x.newE a z with q | q
  ·exact hn q
  ·rw [h] at q; cases q
 newF:=fun a h=>by
  rcases y.newF a h with q | q
  ·exact x.newF a q
  ·exact .inr (x.there o o' q)
 newE:=fun a h=>by
  rcases y.newE a h with q | q
  ·exact x.newE a q
  ·exact .inr (x.there o o' q)
theorem Ext.there' {B : Tb0} {F F' H H' : Hp} {eta eta' : List Addr} {W' : Wd} (x : Ext F eta H F' eta' H') (o' : OkH B F' eta' W' H') {a : Addr} (h : H' a = none) : H a = none:=by
 cases q : H a with
 | none=>rfl
 | some u =>
  by_cases hm : a ∈ eta
  ·exact absurd h (o'.there (x.pre.subset hm))
  ·rw [x.keep a u q hm] at h; cases h
theorem Ext.trans' {B : Tb0} {F F' F2 H H' H2 : Hp} {eta eta' eta2 : List Addr} {W' : Wd} (o : True) (o' : OkH B F' eta' W' H') (x : Ext F eta H F' eta' H') (y : Ext F' eta' H' F2 eta2 H2) : Ext F eta H F2 eta2 H2:=by
 have there : ∀ a,H' a = none → H a = none:=fun a h=>by
  cases q : H a with
  | none=>rfl
  | some u =>
   by_cases hm : a ∈ eta
   ·exact absurd h (o'.there (x.pre.subset hm))
   ·rw [x.keep a u q hm] at h; cases h
 refine ⟨x.sub.trans y.sub,x.pre.trans y.pre,fun a u h hn=>y.keep a u (x.keep a u h hn) fun z => ?_,fun a h => ?_,fun a h => ?_⟩
 ·rcases x.newE a z with q | q
  ·exact hn q
  ·rw [h] at q; cases q
 ·rcases y.newF a h with q | q
  ·exact x.newF a q
  ·exact .inr (there a q)
 ·rcases y.newE a h with q | q
  ·exact x.newE a q
  ·exact .inr (there a q)
/-- the tables; where an exception stands that is handled,its class; what is wished of an exception that is raised; where the wish began: slots that are kept,heap -/
structure Tb extends Tb0 where
 xa : Addr
 xc : Nat
 xd : Option Addr
 xq : Nat → D → Wd → Prop
 wx : WX
 xk : List Nat
 xn : Nat
 xs : L2.St
 xF : Hp
 xeta : List Addr
 xH : Hp
/-- nothing is wished of exceptions -/
def Tb.mute (B : Tb) : Tb:={ B with xq:=fun _ _ _=>False,wx:=fun _ _ _ _=>False }
instance : Coe Tb Tb0:=⟨Tb.toTb0⟩
def XPay (B : Tb0) (F : Hp) (eta : List Addr) (H : Hp) (c : Nat) (p : D) (d : Option Addr) : Prop:=(p = .non ∧ d = none) ∨ ∃ (x : D) (v : V) (dd : Addr),p = .tup [x] ∧ d = some dd ∧ H dd = some (.xd [(B.fn (B.xf c),v)]) ∧ Rep B F eta x v ∧ dd ∉ eta
theorem XPay.ext {B : Tb0} {F F' H H' : Hp} {eta eta' : List Addr} {c : Nat} {p : D} {d : Option Addr} (h : XPay B F eta H c p d) (x : Ext F eta H F' eta' H') : XPay B F' eta' H' c p d:=by
 rcases h with h | ⟨y,v,dd,h1,h2,h3,h4,h5⟩
 ·exact .inl h
 ·refine .inr ⟨y,v,dd,h1,h2,x.keep dd _ h3 h5,h4.mono x.sub x.pre,fun z => ?_⟩
  rcases x.newE dd z with q | q
  ·exact h5 q
  ·rw [h3] at q; cases q
theorem XPay.write {B : Tb0} {F H : Hp} {eta : List Addr} {c : Nat} {p : D} {d : Option Addr} {a : Addr} {o : HO} (h : XPay B F eta H c p d) (ha : ∀ fs,H a ≠ some (.xd fs)) : XPay B F eta (upd H a o) c p d:=by
 rcases h with h | ⟨y,v,dd,h1,h2,h3,h4,h5⟩
 ·exact .inl h
 ·refine .inr ⟨y,v,dd,h1,h2, ?_,h4,h5⟩
  have : dd ≠ a:=fun z=>ha _ (by rw [← z]; exact h3)
  rw [upd_ne this]
  exact h3
def Slot.owned : Slot → Bool
 | .ol _=>true | .oi _ _=>true | .od _=>true | _=>false
def SlotRep (B : Tb) (F : Hp) (eta : List Addr) (H : Hp) (sg : L2.St) (i : Nat) : Slot → Prop
 | .no=>True
 | .val d => ∃ v,sg[i]? = some (some v) ∧ Rep B F eta d v
 | .ol xs => ∃ a vs,sg[i]? = some (some (V.ref a)) ∧ H a = some (.lst vs) ∧ RepL B F eta xs vs ∧ F a = none ∧ a ∉ eta
 | .oi c fs => ∃ a dx gs,sg[i]? = some (some (V.ref a)) ∧ H a = some (.ins (B.ca c) dx gs) ∧ RepF B F eta fs gs ∧ F a = none ∧ a ∉ eta
 | .od kvs => ∃ a xs ep,sg[i]? = some (some (V.ref a)) ∧ H a = some (dtO a xs ep) ∧ RepT B F eta kvs xs ∧ F a = none ∧ a ∉ eta
 | .xv c p=>sg[i]? = some (some (V.ref B.xa)) ∧ c = B.xc ∧ XPay B.toTb0 F eta H c p B.xd
structure Stt (B : Tb) (e : Env) (W : Wd) (sg : L2.St) (H F : Hp) (eta : List Addr) : Prop where
 ok : OkH B F eta W H
 len : e.length = sg.length
 sl : ∀ (i : Nat) (s : Slot),e[i]? = some s → SlotRep B F eta H sg i s
 un : ∀ (i j : Nat) (si sj : Slot) (a : Addr),e[i]? = some si → e[j]? = some sj → si.owned = true → sj.owned = true → sg[i]? = some (some (V.ref a)) → sg[j]? = some (some (V.ref a)) → i = j
 xr : ∀ i ∈ B.xk,sg[i]? = B.xs[i]?
 xl : sg.length = B.xn
 xx : Ext B.xF B.xeta B.xH F eta H
variable {e : Env} {sg : L2.St}
theorem Stt.ext {B : Tb} (s : Stt B e W sg H F eta) (x : Ext F eta H F' eta' H') (o : OkH B F' eta' W' H') : Stt B e W' sg H' F' eta':=by
 refine ⟨o,s.len,fun i z h => ?_,s.un,s.xr,s.xl,Ext.trans' trivial s.ok s.xx x⟩
 have q:=s.sl i z h
 have nF : ∀ {a : Addr} {u : HO},H a = some u → F a = none → F' a = none:=fun {a u} h1 h2=>by
  cases q : F' a with
  | none=>rfl
  | some w =>
   rcases x.newF a (by rw [q]; simp) with z | z
   ·exact absurd h2 z
   ·rw [h1] at z; cases z
 have nE : ∀ {a : Addr} {u : HO},H a = some u → a ∉ eta → a ∉ eta':=fun {a u} h1 h2 z=>by
  rcases x.newE a z with q | q
  ·exact h2 q
  ·rw [h1] at q; cases q
 cases z with
 | no=>trivial
 | val d =>
  obtain ⟨v,h1,h2⟩:=q
  exact ⟨v,h1,h2.mono x.sub x.pre⟩
 | ol xs =>
  obtain ⟨a,vs,h1,h2,h3,h4,h5⟩:=q
  exact ⟨a,vs,h1,x.keep a _ h2 h5,h3.mono x.sub x.pre,nF h2 h4,nE h2 h5⟩
 | oi c fs =>
  obtain ⟨a,dx,gs,h1,h2,h3,h4,h5⟩:=q
  exact ⟨a,dx,gs,h1,x.keep a _ h2 h5,h3.mono x.sub x.pre,nF h2 h4,nE h2 h5⟩
 | od kvs =>
  obtain ⟨a,xs,ep,h1,h2,h3,h4,h5⟩:=q
  exact ⟨a,xs,ep,h1,x.keep a _ h2 h5,h3.mono x.sub x.pre,nF h2 h4,nE h2 h5⟩
 | xv c p=>exact ⟨q.1,q.2.1,q.2.2.ext x⟩
theorem Stt.mute {B : Tb} (s : Stt B e W sg H F eta) : Stt B.mute e W sg H F eta:=⟨s.ok,s.len,s.sl,s.un,s.xr,s.xl,s.xx⟩
theorem Stt.unmute {B : Tb} (s : Stt B.mute e W sg H F eta) : Stt B e W sg H F eta:=⟨s.ok,s.len,s.sl,s.un,s.xr,s.xl,s.xx⟩
/-- a new object that is not frozen -/
theorem OkH.new (o : OkH B F eta W H) {p : Addr} {u : HO} (hp : H p = none) : OkH B F eta W (upd H p u):=by
 refine ⟨fun a w h => ?_,o.cF,o.nd,o.len,fun n a c h1 h2 => ?_⟩
 ·have : a ≠ p:=ne_of_none (o.sub a w h) hp
  rw [upd_ne this]; exact o.sub a w h
 ·have hm : a ∈ eta:=List.mem_of_getElem? h1
  have hne : a ≠ p:=fun z=>o.there hm (by rw [z]; exact hp)
  have q:=o.cell n a c h1 h2
  cases c with
  | lst xs=>obtain ⟨vs,e,r⟩:=q; exact ⟨vs,by rw [upd_ne hne]; exact e,r⟩
  | ins c fs=>obtain ⟨dx,gs,e,r⟩:=q; exact ⟨dx,gs,by rw [upd_ne hne]; exact e,r⟩
  | dct kvs=>obtain ⟨gs,e,r⟩:=q; exact ⟨gs,by rw [upd_ne hne]; exact e,r⟩
  | dead=>show upd H p u a ≠ none; rw [upd_ne hne]; exact q
theorem Ext.new {p : Addr} {u : HO} (hp : H p = none) : Ext F eta H F eta (upd H p u) :=
 ⟨SubH.refl _,List.prefix_refl _,fun a o h _=>by rw [upd_ne (ne_of_none h hp)]; exact h,fun _ h=>.inl h,fun _ h=>.inl h⟩
theorem CellRep.monoF {a : Addr} {c : Cell} (s : SubH F F') (p : eta <+: eta') (h : CellRep B F eta H a c) : CellRep B F' eta' H a c:=by
 cases c with
 | lst xs=>obtain ⟨vs,e,r⟩:=h; exact ⟨vs,e,r.mono s p⟩
 | ins c fs=>obtain ⟨dx,gs,e,r⟩:=h; exact ⟨dx,gs,e,r.mono s p⟩
 | dct kvs=>obtain ⟨gs,e,r⟩:=h; exact ⟨gs,e,r.mono s p⟩
 | dead=>exact h
/-- an object of the heap is frozen -/
theorem OkH.frz (o : OkH B F eta W H) {p : Addr} {u : HO} (hp : H p = some u) (hF : F p = none) (hE : p ∉ eta) : OkH B (upd F p u) eta W H:=by
 have s : SubH F (upd F p u):=fun a w h=>by rw [upd_ne (ne_of_none h hF)]; exact h
 refine ⟨fun a w h => ?_,fun a h => ?_,o.nd,o.len,fun n a c h1 h2=>(o.cell n a c h1 h2).monoF s (List.prefix_refl _)⟩
 ·by_cases e : a = p
  ·subst e; rw [upd_same] at h; cases h; exact hp
  ·rw [upd_ne e] at h; exact o.sub a w h
 ·rw [upd_ne (fun z=>hE (by rw [← z]; exact h))]; exact o.cF a h
theorem zZ8 {p : Addr} {u : HO} (hF : F p = none) : SubH F (upd F p u):=fun a w h=>by rw [upd_ne (ne_of_none h hF)]; exact h
/-- a new object,frozen at once -/
theorem OkH.newF (o : OkH B F eta W H) {p : Addr} {u : HO} (hp : H p = none) : OkH B (upd F p u) eta W (upd H p u) :=
 (o.new hp).frz upd_same (o.notF hp) (o.notE hp)
theorem Ext.newFz (o : OkH B F eta W H) {p : Addr} {u : HO} (hp : H p = none) : Ext F eta H (upd F p u) eta (upd H p u) :=
 ⟨zZ8 (o.notF hp),List.prefix_refl _,fun a w h _=>by rw [upd_ne (ne_of_none h hp)]; exact h,fun a h=>by
  by_cases e : a = p
  ·subst e; exact .inr hp
  ·rw [upd_ne e] at h; exact .inl h,fun _ h=>.inl h⟩
/-- a tracked object that no one else holds becomes a cell -/
theorem OkH.toCell (o : OkH B F eta W H) {p : Addr} {c : Cell} (hF : F p = none) (hE : p ∉ eta) (hc : CellRep B F (eta ++ [p]) H p c) : OkH B F (eta ++ [p]) (W ++ [c]) H:=by
 refine ⟨o.sub,fun a h => ?_, ?_,by simp [o.len],fun n a d h1 h2 => ?_⟩
 ·rcases List.mem_append.mp h with h | h
  ·exact o.cF a h
  ·rw [List.mem_singleton.mp h]; exact hF
 ·rw [List.nodup_append]
  exact ⟨o.nd,by simp,fun a ha b hb=>by rw [List.mem_singleton.mp hb]; intro z; exact hE (by rw [← z]; exact ha)⟩
 ·by_cases hn : n < eta.length
  ·rw [List.getElem?_append_left hn] at h1
   rw [List.getElem?_append_left (by rw [← o.len]; exact hn)] at h2
   exact (o.cell n a d h1 h2).monoF (SubH.refl _) (List.prefix_append _ _)
  ·have e : n = eta.length:=by
    have:=(List.getElem?_eq_some_iff.mp h1).1
    simp at this; omega
   subst e
   rw [List.getElem?_append_right (Nat.le_refl _)] at h1
   rw [List.getElem?_append_right (by rw [o.len]; exact Nat.le_refl _)] at h2
   rw [o.len] at h2
   simp only [o.len,Nat.sub_self,List.getElem?_cons_zero,Option.some.injEq] at h1 h2
   subst h1 h2
   exact hc
/-- a cell is written -/
theorem OkH.setCell (o : OkH B F eta W H) {n : Nat} {p : Addr} {c : Cell} {u : HO} (hn : eta[n]? = some p) (hc : CellRep B F eta (upd H p u) p c) : OkH B F eta (W.set n c) (upd H p u):=by
 have hm : p ∈ eta:=List.mem_of_getElem? hn
 refine ⟨fun a w h => ?_,o.cF,o.nd,by simp [o.len],fun k a d h1 h2 => ?_⟩
 ·have : a ≠ p:=fun z=>by rw [z,o.cF p hm] at h; cases h
  rw [upd_ne this]; exact o.sub a w h
 ·by_cases hk : k = n
  ·subst hk
   rw [hn] at h1; cases h1
   rw [List.getElem?_set_self (by rw [← o.len]; exact (List.getElem?_eq_some_iff.mp hn).1)] at h2
   cases h2
   exact hc
  ·rw [List.getElem?_set_ne (fun z=>hk z.symm)] at h2
   have hne : a ≠ p:=fun z=>by
    subst z
    have i1:=(List.getElem?_eq_some_iff.mp h1)
    have i2:=(List.getElem?_eq_some_iff.mp hn)
    obtain ⟨l1,e1⟩:=i1
    obtain ⟨l2,e2⟩:=i2
    exact hk ((List.getElem_inj o.nd).mp (e1.trans e2.symm))
   have q:=o.cell k a d h1 h2
   cases d with
   | lst xs=>obtain ⟨vs,e,r⟩:=q; exact ⟨vs,by rw [upd_ne hne]; exact e,r⟩
   | ins c fs=>obtain ⟨dx,gs,e,r⟩:=q; exact ⟨dx,gs,by rw [upd_ne hne]; exact e,r⟩
   | dct kvs=>obtain ⟨gs,e,r⟩:=q; exact ⟨gs,by rw [upd_ne hne]; exact e,r⟩
   | dead=>show upd H p u a ≠ none; rw [upd_ne hne]; exact q
theorem Ext.setCell {p : Addr} {u : HO} (hm : p ∈ eta) : Ext F eta H F eta (upd H p u) :=
 ⟨SubH.refl _,List.prefix_refl _,fun a o h hn=>by rw [upd_ne (fun z=>hn (by rw [z]; exact hm))]; exact h,fun _ h=>.inl h,fun _ h=>.inl h⟩
/-- an object of a frame's own is written -/
theorem OkH.writeO (o : OkH B F eta W H) {p : Addr} {u : HO} (hF : F p = none) (hE : p ∉ eta) : OkH B F eta W (upd H p u):=by
 refine ⟨fun a w h => ?_,o.cF,o.nd,o.len,fun n a c h1 h2 => ?_⟩
 ·rw [upd_ne (fun z=>by rw [z,hF] at h; cases h)]; exact o.sub a w h
 ·have hm : a ∈ eta:=List.mem_of_getElem? h1
  have hne : a ≠ p:=fun z=>hE (by rw [← z]; exact hm)
  have q:=o.cell n a c h1 h2
  cases c with
  | lst xs=>obtain ⟨vs,e,r⟩:=q; exact ⟨vs,by rw [upd_ne hne]; exact e,r⟩
  | ins c fs=>obtain ⟨dx,gs,e,r⟩:=q; exact ⟨dx,gs,by rw [upd_ne hne]; exact e,r⟩
  | dct kvs=>obtain ⟨gs,e,r⟩:=q; exact ⟨gs,by rw [upd_ne hne]; exact e,r⟩
  | dead=>show upd H p u a ≠ none; rw [upd_ne hne]; exact q
end
section
variable {X : Cx} {es : List Expr} {t : TA} {pos : Pos}
def tTupB (t : TA) : TE:=fun σ H Q=>t σ H fun xs H1=>xs.length ≤ sizeLine ∧ ∀ (p : Addr) (o : Obj),o.dict = none → H1 p = none → Q (.ref p) (upd H1 p (.frz o (.tup xs)))
theorem zZMs {x1 : Nat} (h : PA X es t) : PE X (.Tuple es x1 pos) (tTupB t):=by
 refine ⟨fun pins s σ H Q I hq => ?_⟩
 refine wpAny_Tuple_spliced (thn (h.run pos pins s σ H _ I hq) fun us s1 ⟨xs,H1,I1,r,z,q⟩=>⟨by rw [← r.length]; exact z, ?_⟩)
 have hf : H1 s1.heap.objs.size = none:=I1.hok.fresh (Nat.le_refl _)
 refine ⟨.ref s1.heap.objs.size,upd H1 s1.heap.objs.size (.frz { cls:=.type "tuple",data:=.seq us.toArray } (.tup xs)),I1.laid (t':=s1.toks) (fun b u e=>Heap.get?_push_of_some _ e) (Nat.le_refl _) ?_,rfl,q _ _ rfl hf⟩
 exact ⟨Heap.get?_push_size _ rfl,z,us,r,⟨_,Heap.get?_push_size _ rfl,rfl,_,rfl⟩⟩
theorem zZGZ : CallR X (.type "tuple") (fun xs H Q => ∃ p ys,xs = [.ref p] ∧ ((SqL X.K H p ys ∧ ∀ (l : Addr) (o : Obj),o.dict = none → H l = none → Q (.ref l) (upd H l (.frz o (.tup ys)))) ∨ (SqT X.K H p ys ∧ Q (.ref p) H))):=by
 intro pins s σ H xs us Q I r h
 obtain ⟨p,ys,rfl,h⟩:=h
 obtain ⟨u,rfl,rx⟩:=vals1 r
 cases rx
 rcases h with ⟨hq,q⟩ | ⟨hq,q⟩
 ·obtain ⟨its,r',pl,hz⟩:=I.list hq
  have hlen:=r'.length
  refine call_tuple_list pl.isList (fun h' kp => ?_) (by simp only [List.size_toArray] <;> omega)
  have I1 : L2.Inv X pins σ H { s with heap:=h' }:=I.kept (t':=s.toks) kp
  have I2 : L2.Inv X pins σ (upd H h'.objs.size (.frz { cls:=.type "tuple",data:=.seq its.toArray } (.tup ys))) { s with heap:=h'.push { cls:=.type "tuple",data:=.seq its.toArray } } :=
   I1.laid (t':=s.toks) (fun b o e=>Heap.get?_push_of_some _ e) (Nat.le_refl _) (show ObjOk X.prog X.w _ _ _ (.frz _ (.tup ys)) from ⟨Heap.get?_push_size _ rfl,hz,its,r',IsTup.new _ _⟩)
  exact ⟨.ref h'.objs.size,_,I2,rfl,q _ _ rfl (I1.hok.fresh (Nat.le_refl _))⟩
 ·obtain ⟨its,r',pl,hz⟩:=I.tuple hq
  exact call_tuple_same pl ⟨.ref p,H,I,rfl,q⟩
def rSlB (K : PySem.W.Frag) : V → Option Int → Option Int → Hp → VK → Prop:=fun x lo hi H Q => ∃ a xs,x = .ref a ∧ SqT K H a xs ∧
 (HT.sIx xs.length 0 lo = 0 ∧ HT.sIx xs.length xs.length hi = xs.length → Q (.ref a) H) ∧ (¬ (HT.sIx xs.length 0 lo = 0 ∧ HT.sIx xs.length xs.length hi = xs.length) → ∀ (p : Addr) (o : Obj),o.dict = none → H p = none → Q (.ref p) (upd H p (.frz o (.tup (cutV xs lo hi)))))
theorem sl_tupB : L2.SlR X (rSlB X.K):=by
 intro pins s σ H x v vl vu lo hi sl Q I rx hs pl pu h
 obtain ⟨a,xs,rfl,hx,q1,q2⟩:=h
 cases rx
 obtain ⟨its,r,ht,hz⟩:=I.tuple hx
 have hlen : its.toArray.size = xs.length:=by rw [List.size_toArray]; exact r.length.symm
 refine ⟨"tuple",_,PyProof.Rows.slot_tuple_getitem.lookup,ht.typeIs, ?_⟩
 by_cases hw : HT.sIx xs.length 0 lo = 0 ∧ HT.sIx xs.length xs.length hi = xs.length
 ·exact getItem_tuple_whole ht hs pl pu (by rw [hlen]; exact hw) ⟨.ref a,H,I,rfl,q1 hw⟩
 ·refine HT.getItem_tuple_cut ht hs pl pu (by rw [hlen]; exact hw) ?_ (by rw [hlen]; exact hz)
  rw [hlen]
  refine ⟨.ref s.heap.objs.size,_,I.laid (t':=s.toks) (o:=.frz { cls:=.type "tuple",data:=.seq ((its.toArray.toList.drop (HT.sIx xs.length 0 lo)).take (HT.sIx xs.length xs.length hi - HT.sIx xs.length 0 lo)).toArray } (.tup (cutV xs lo hi))) (fun b ob q=>Heap.get?_push_of_some _ q) (Nat.le_refl _) ?_,rfl,q2 hw _ _ rfl (I.hok.fresh (Nat.le_refl _))⟩
  exact ⟨Heap.get?_push_size _ rfl,Nat.le_trans (cutV_length xs lo hi) hz,_,(r.drop (HT.sIx xs.length 0 lo)).take (HT.sIx xs.length xs.length hi - HT.sIx xs.length 0 lo),IsTup.new _ _⟩
def rCatB (K : PySem.W.Frag) : R2:=fun x y H Q => ∃ a b xs ys,x = .ref a ∧ y = .ref b ∧ SqT K H a xs ∧ SqT K H b ys ∧ xs.length + ys.length ≤ sizeLine ∧
 (xs = [] → Q (.ref b) H) ∧ (xs ≠ [] → ys = [] → Q (.ref a) H) ∧ (xs ≠ [] → ys ≠ [] → ∀ (p : Addr) (o : Obj),o.dict = none → H p = none → Q (.ref p) (upd H p (.frz o (.tup (xs ++ ys)))))
theorem zZNy : OpR X (binaryOp .Add) (rCatB X.K):=by
 intro pins s σ H x y v u Q I rx ry h
 obtain ⟨a,b,xs,ys,rfl,rfl,ha,hb,hz,q0,q1,q2⟩:=h
 by_cases hx : xs = []
 ·subst hx
  cases rx
  cases ry
  obtain ⟨its,r1,p1,_⟩:=I.tuple ha
  obtain ⟨its2,r2,p2,_⟩:=I.tuple hb
  cases r1
  exact cat_tup0 p1 p2 ⟨.ref b,H,I,rfl,q0 rfl⟩
 ·cases rx
  cases ry
  obtain ⟨its,r1,p1,_⟩:=I.tuple ha
  obtain ⟨its2,r2,p2,_⟩:=I.tuple hb
  refine HT.cat_tup p1 p2 (fun z=>hx (r1.nil_iff.mp z)) (fun z=>⟨.ref a,H,I,rfl,q1 hx (r2.nil_iff.mp z)⟩) (fun z => ?_) (by rw [← r1.length,← r2.length]; exact hz)
  refine ⟨.ref s.heap.objs.size,_,I.laid (t':=s.toks) (o:=.frz { cls:=.type "tuple",data:=.seq (its ++ its2).toArray } (.tup (xs ++ ys))) (fun b ob q=>Heap.get?_push_of_some _ q) (Nat.le_refl _) ?_,rfl,q2 hx (fun w=>z (r2.nil_iff.mpr w)) _ _ rfl (I.hok.fresh (Nat.le_refl _))⟩
  exact ⟨Heap.get?_push_size _ rfl,by rw [List.length_append]; exact hz,_,r1.append r2,IsTup.new _ _⟩
end
end DL
set_option maxRecDepth 100000
set_option maxHeartbeats 4000000
namespace DL
open PySem PySem.Spec PyProof.Rows
open L2 hiding St
section
variable (B : Tb) (X : Cx)
/-- an expression's value follows f -/
def EOk (py : Expr) (f : Env → Wd → R D) : Prop := ∃ t : TE,PE X py t ∧ ∀ (e : Env) (W : Wd) (sg : L2.St) (H F : Hp) (eta : List Addr) (Q : VK),Stt B e W sg H F eta →
 (f e W).wp B.xq (fun d W' => ∀ (v : V) (H' F' : Hp) (eta' : List Addr),OkH B F' eta' W' H' → Ext F eta H F' eta' H' → Rep B F' eta' d v → Q v H') → t sg H Q
/-- a test's truth follows f -/
def TOk (py : Expr) (f : Env → Wd → R Bool) : Prop := ∃ t : TT,PT X py t ∧ ∀ (e : Env) (W : Wd) (sg : L2.St) (H F : Hp) (eta : List Addr) (Q : Bool → Hp → Prop),Stt B e W sg H F eta →
 (f e W).wp B.xq (fun k W' => ∀ (H' F' : Hp) (eta' : List Addr),OkH B F' eta' W' H' → Ext F eta H F' eta' H' → Q k H') → t sg H Q
def WOk (py : Expr) (f : Env → Wd → R Bool) : Prop := ∃ t : TT,PW X py t ∧ ∀ (e : Env) (W : Wd) (sg : L2.St) (H F : Hp) (eta : List Addr) (Q : Bool → Hp → Prop),Stt B e W sg H F eta →
 (f e W).wp B.xq (fun k W' => ∀ (H' F' : Hp) (eta' : List Addr),OkH B F' eta' W' H' → Ext F eta H F' eta' H' → Q k H') → t sg H Q
/-- the value that is named as a sequence -/
def SrcRep (e : Env) (sg : L2.St) (F : Hp) (eta : List Addr) : Src → V → Prop
 | .frz xs d,v=>Rep B F eta d v ∧ (d = .lst xs ∨ d = .tup xs)
 | .slot i xs,v=>e[i]? = some (.ol xs) ∧ sg[i]? = some (some v)
 | .cell n,v => ∃ a,eta[n]? = some a ∧ v = .ref a
 | .str s,v=>v = .str s
def SOk (py : Expr) (f : Env → Wd → R Src) : Prop := ∃ t : TE,PE X py t ∧ ∀ (e : Env) (W : Wd) (sg : L2.St) (H F : Hp) (eta : List Addr) (Q : VK),Stt B e W sg H F eta →
 (f e W).wp B.xq (fun s W' => ∀ (v : V) (H' F' : Hp) (eta' : List Addr),OkH B F' eta' W' H' → Ext F eta H F' eta' H' → SrcRep B e sg F' eta' s v → Q v H') → t sg H Q
/-- arguments -/
def AOk (py : List Expr) (f : Env → Wd → R (List D)) : Prop := ∃ t : TA,PA X py t ∧ ∀ (e : Env) (W : Wd) (sg : L2.St) (H F : Hp) (eta : List Addr) (Q : List V → Hp → Prop),Stt B e W sg H F eta →
 (f e W).wp B.xq (fun ds W' => ∀ (vs : List V) (H' F' : Hp) (eta' : List Addr),OkH B F' eta' W' H' → Ext F eta H F' eta' H' → RepL B F' eta' ds vs → Q vs H') → t sg H Q
/-- a part of a slice -/
def OOk (py : Option Expr) (f : Env → Wd → R (Option Int)) : Prop := ∃ t : TO,PO X py t ∧ ∀ (e : Env) (W : Wd) (sg : L2.St) (H F : Hp) (eta : List Addr) (Q : Option Int → Hp → Prop),Stt B e W sg H F eta →
 (f e W).wp B.xq (fun o W' => ∀ (H' F' : Hp) (eta' : List Addr),OkH B F' eta' W' H' → Ext F eta H F' eta' H' → Q o H') → t sg H Q
/-- what makes a new list: it stands at a new place,not yet frozen -/
def FOk (py : Expr) (f : Env → Wd → R (List D)) : Prop := ∃ t : TE,PE X py t ∧ ∀ (e : Env) (W : Wd) (sg : L2.St) (H F : Hp) (eta : List Addr) (Q : VK),Stt B e W sg H F eta →
 (f e W).wp B.xq (fun ds W' => ∀ (a : Addr) (vs : List V) (H' F' : Hp) (eta' : List Addr),OkH B F' eta' W' H' → Ext F eta H F' eta' H' → H a = none → H' a = some (.lst vs) → F' a = none → a ∉ eta' → RepL B F' eta' ds vs → Q (.ref a) H') → t sg H Q
end
section
variable {B : Tb} {X : Cx} {py pa pb pc : Expr} {f fa fb fc : Env → Wd → R D} {pos : Pos}
theorem zZFo {d : D} {v : V} (h : PE X py (tC v)) (r : ∀ F eta,Rep B F eta d v) : EOk B X py (fun _ W=>.ok d W) :=
 ⟨_,h,fun e W sg H F eta Q s k=>k v H F eta s.ok (Ext.refl _ _ _) (r F eta)⟩
theorem zZNF {j} : EOk B X (.Constant .none j pos) (fun _ W=>.ok .non W):=zZFo pe_non fun _ _=>.non
theorem zZOn {b j} : EOk B X (.Constant (.bool b) j pos) (fun _ W=>.ok (.bl b) W):=zZFo pe_bl fun _ _=>.bl b
theorem zZNE {i j} : EOk B X (.Constant (.int i) j pos) (fun _ W=>.ok (.int i) W):=zZFo pe_int fun _ _=>.int i
theorem zZN1 {z j} : EOk B X (.Constant (.str z) j pos) (fun _ W=>.ok (.str z) W):=zZFo pe_str fun _ _=>.str z
theorem zZNL {i : Nat} {x : Str} (hN : X.N[i]? = some x) (hv : Vis X.env.scope x) (hd : (x == ("__debug__" : Str)) = false) (hc : (x == ("__classdict__" : Str)) = false) :
  EOk B X (.Name x pos) (fun e W=>opt (getV e i) W):=by
 refine ⟨_,pe_var hN hv hd hc,fun e W sg H F eta Q s k => ?_⟩
 cases q : e[i]? with
 | none=>simp [getV,q,R.wp] at k
 | some z =>
  cases z with
  | val d =>
   have r:=s.sl i _ q
   obtain ⟨v,h1,h2⟩:=r
   simp only [getV,q,zZn,R.wp_ok] at k
   exact ⟨v,h1,k v H F eta s.ok (Ext.refl _ _ _) h2⟩
  | _=>simp [getV,q,R.wp] at k
/-- two expressions in a row,then a rule by values -/
theorem zZJM {r : R2} {g : D → D → Option D} {t2 : TE → TE → TE} (ha : EOk B X pa fa) (hb : EOk B X pb fb)
  (hp : ∀ ta tb,PE X pa ta → PE X pb tb → PE X py (t2 ta tb)) (ht : ∀ ta tb sg H Q,(ta sg H fun x H1=>tb sg H1 fun y H2=>r x y H2 Q) → t2 ta tb sg H Q)
  (hr : ∀ x y v u (H F : Hp) (eta : List Addr) (W : Wd) (Q : VK) z,OkH B F eta W H → Rep B F eta x v → Rep B F eta y u → g x y = some z →
   (∀ (w : V) (H' F' : Hp) (eta' : List Addr),OkH B F' eta' W H' → Ext F eta H F' eta' H' → Rep B F' eta' z w → Q w H') → r v u H Q) :
  EOk B X py (fun e W=>(fa e W).bind fun x W=>(fb e W).bind fun y W=>opt (g x y) W):=by
 obtain ⟨ta,ha,ka⟩:=ha
 obtain ⟨tb,hb,kb⟩:=hb
 refine ⟨_,hp _ _ ha hb,fun e W sg H F eta Q s k=>ht _ _ _ _ _ ?_⟩
 refine ka e W sg H F eta _ s ?_
 rw [R.wp_bind] at k
 refine R.wp_mono k fun x W1 k v H1 F1 eta1 o1 x1 r1 => ?_
 rw [R.wp_bind] at k
 refine kb e W1 sg H1 F1 eta1 _ (s.ext x1 o1) (R.wp_mono k fun y W2 k u H2 F2 eta2 o2 x2 r2 => ?_)
 cases q : g x y with
 | none=>rw [q] at k; exact k.elim
 | some z =>
  rw [q] at k
  refine hr x y v u H2 F2 eta2 W2 Q z o2 (r1.mono x2.sub x2.pre) r2 q fun w H' F' eta' o' x' rw' => ?_
  exact k w H' F' eta' o' (Ext.trans s.ok o1 x1 (Ext.trans o1 o2 x2 x')) rw'
theorem zZBh {op : Operator} {r : R2} {g : D → D → Option D} (ho : OpR X (binaryOp op) r) (ha : EOk B X pa fa) (hb : EOk B X pb fb)
  (hr : ∀ x y v u (H F : Hp) (eta : List Addr) (W : Wd) (Q : VK) z,OkH B F eta W H → Rep B F eta x v → Rep B F eta y u → g x y = some z →
   (∀ (w : V) (H' F' : Hp) (eta' : List Addr),OkH B F' eta' W H' → Ext F eta H F' eta' H' → Rep B F' eta' z w → Q w H') → r v u H Q) :
  EOk B X (.BinOp pa op pb pos) (fun e W=>(fa e W).bind fun x W=>(fb e W).bind fun y W=>opt (g x y) W) :=
 zZJM ha hb (fun _ _ h1 h2=>pe_op ho h1 h2) (fun _ _ _ _ _ h=>h) hr
/-- a comparison by a rule on values -/
def CRule (B : Tb) (X : Cx) (op : CmpOp) (g : D → D → Option D) : Prop := ∃ r : R2,OpR X (compareOp op) r ∧
 ∀ x y v u (H F : Hp) (eta : List Addr) (W : Wd) (Q : VK) z,OkH B F eta W H → Rep B F eta x v → Rep B F eta y u → g x y = some z →
   (∀ (w : V) (H' F' : Hp) (eta' : List Addr),OkH B F' eta' W H' → Ext F eta H F' eta' H' → Rep B F' eta' z w → Q w H') → r v u H Q
theorem zZMI {op : CmpOp} {g : D → D → Option D} (c : CRule B X op g) (hm : behindInMarks op pb = false) (ha : EOk B X pa fa) (hb : EOk B X pb fb) :
  EOk B X (.Compare pa [op] [pb] pos) (fun e W=>(fa e W).bind fun x W=>(fb e W).bind fun y W=>opt (g x y) W):=by
 obtain ⟨r,ho,hr⟩:=c
 exact zZJM ha hb (fun _ _ h1 h2=>pe_cmpR ho h1 h2 hm) (fun _ _ _ _ _ h=>h) hr
theorem zZKx {i : Int} (h : i.natAbs < limI) : -(2 ^ 64) < i ∧ i < 2 ^ 64:=by unfold limI at h; omega
theorem zZc : cap ≤ sizeLine:=by rw [sizeLine_eq]; decide
def pyOp : Op → Operator
 | .add=>.Add | .sub=>.Sub | .mul=>.Mult | .fdiv=>.FloorDiv | .mod=>.Mod | .pow=>.Pow
theorem zZN6 (op : Op) (ha : EOk B X pa fa) (hb : EOk B X pb fb) : EOk B X (.BinOp pa (pyOp op) pb pos) (fun e W=>(fa e W).bind fun x W=>(fb e W).bind fun y W=>opt (binD op x y) W):=by
 cases op with
 | add =>
  refine zZBh (g:=binD .add) ((op_add.or op_add_str).or zZNy) ha hb fun x y v u H F eta W Q z o r1 r2 q k => ?_
  unfold binD at q
  cases r1 <;> cases r2 <;> simp at q
  ·subst q; exact .inl (.inl ⟨_,_,rfl,rfl,k _ H F eta o (Ext.refl _ _ _) (.int _)⟩)
  ·obtain ⟨hl,rfl⟩:=q
   exact .inl (.inr ⟨_,_,rfl,rfl,Nat.le_trans hl zZc,k _ H F eta o (Ext.refl _ _ _) (.str _)⟩)
  ·rename_i a1 xs vs h1 r1 a2 ys us h2 r2
   obtain ⟨hl,rfl⟩:=q
   refine .inr ⟨_,_,_,_,rfl,rfl,(h1.mono o.sub).sq,(h2.mono o.sub).sq,by rw [← r1.length,← r2.length]; exact Nat.le_trans hl zZc,fun e1 => ?_,fun _ e2 => ?_,fun _ _ p ob hob hp => ?_⟩
   ·subst e1
    cases r1
    exact k _ H F eta o (Ext.refl _ _ _) (.tup h2 r2)
   ·subst e2
    cases r2
    exact k _ H F eta o (Ext.refl _ _ _) (.tup h1 (by simpa using r1))
   ·have s1:=fun u=>zZ8 (u:=u) (o.notF hp)
    exact k _ _ _ eta (o.newF hp) (Ext.newFz o hp) (.tup (.new hob) ((r1.append r2).mono (s1 _) (List.prefix_refl _)))
 | sub =>
  refine zZBh (g:=binD .sub) op_sub ha hb fun x y v u H F eta W Q z o r1 r2 q k => ?_
  unfold binD at q
  cases r1 <;> cases r2 <;> simp at q
  subst q; exact ⟨_,_,rfl,rfl,k _ H F eta o (Ext.refl _ _ _) (.int _)⟩
 | mul =>
  refine zZBh (g:=binD .mul) op_mul ha hb fun x y v u H F eta W Q z o r1 r2 q k => ?_
  unfold binD at q
  cases r1 <;> cases r2 <;> simp at q
  obtain ⟨hl,rfl⟩:=q
  exact ⟨_,_,rfl,rfl,hl.imp zZKx zZKx,k _ H F eta o (Ext.refl _ _ _) (.int _)⟩
 | fdiv =>
  refine zZBh (g:=binD .fdiv) op_fdiv ha hb fun x y v u H F eta W Q z o r1 r2 q k => ?_
  unfold binD at q
  cases r1 <;> cases r2 <;> simp at q
  obtain ⟨hl,rfl⟩:=q
  exact ⟨_,_,rfl,rfl,hl,k _ H F eta o (Ext.refl _ _ _) (.int _)⟩
 | mod =>
  refine zZBh (g:=binD .mod) op_mod ha hb fun x y v u H F eta W Q z o r1 r2 q k => ?_
  unfold binD at q
  cases r1 <;> cases r2 <;> simp at q
  obtain ⟨hl,rfl⟩:=q
  exact ⟨_,_,rfl,rfl,hl,k _ H F eta o (Ext.refl _ _ _) (.int _)⟩
 | pow =>
  refine zZBh (g:=binD .pow) op_pow ha hb fun x y v u H F eta W Q z o r1 r2 q k => ?_
  unfold binD at q
  cases r1 <;> cases r2 <;> simp at q
  obtain ⟨hl,rfl⟩:=q
  exact ⟨_,_,rfl,rfl,⟨hl.1,hl.2.1,hl.2.2⟩,k _ H F eta o (Ext.refl _ _ _) (.int _)⟩
mutual
theorem zZKQ : ∀ (n : Nat) (d : D) (p : PyData),pd n d = some p → p.canLay0 = true ∧ p.depth ≤ n
 | n,.non,p,h=>by simp [pd] at h; subst h; simp [PyData.canLay0,PyData.depth]
 | n,.bl b,p,h=>by simp [pd] at h; subst h; simp [PyData.canLay0,PyData.depth]
 | n,.int b,p,h=>by simp [pd] at h; subst h; simp [PyData.canLay0,PyData.depth]
 | n,.str b,p,h=>by
  simp [pd] at h
  obtain ⟨h1,rfl⟩:=h
  simp [PyData.canLay0,PyData.depth,h1]
 | 0,.tup _,p,h=>by simp [pd] at h
 | 0,.lst _,p,h=>by simp [pd] at h
 | n + 1,.tup xs,p,h=>by
  simp only [pd,Option.map_eq_some_iff] at h
  obtain ⟨ps,h1,rfl⟩:=h
  obtain ⟨a,b⟩:=zZGl n xs ps h1
  simp only [PyData.canLay0,PyData.depth]
  exact ⟨a,by omega⟩
 | n + 1,.lst xs,p,h=>by
  simp only [pd,Option.map_eq_some_iff] at h
  obtain ⟨ps,h1,rfl⟩:=h
  obtain ⟨a,b⟩:=zZGl n xs ps h1
  simp only [PyData.canLay0,PyData.depth]
  exact ⟨a,by omega⟩
 | n,.ins _ _,p,h=>by cases n <;> simp [pd] at h
 | n,.dct _,p,h=>by cases n <;> simp [pd] at h
 | n,.own _,p,h=>by cases n <;> simp [pd] at h
 | n,.ext _,p,h=>by cases n <;> simp [pd] at h
 | n,.tupz _,p,h=>by cases n <;> simp [pd] at h
 | n,.dtt _,p,h=>by cases n <;> simp [pd] at h
theorem zZGl : ∀ (n : Nat) (ds : List D) (ps : List PyData),ds.mapM (pd n) = some ps → PyData.canLayAll0 ps = true ∧ PyData.depthAll ps ≤ n
 | n,[],ps,h=>by simp at h; subst h; simp [PyData.canLayAll0,PyData.depthAll]
 | n,d :: ds,ps,h=>by
  simp only [List.mapM_cons,Option.bind_eq_bind,Option.bind_eq_some_iff,Option.pure_def,Option.some.injEq] at h
  obtain ⟨p,h1,qs,h2,rfl⟩:=h
  obtain ⟨a1,b1⟩:=zZKQ n d p h1
  obtain ⟨a2,b2⟩:=zZGl n ds qs h2
  simp only [PyData.canLayAll0,PyData.depthAll,a1,a2]
  exact ⟨rfl,by omega⟩
end
theorem yZW {d : D} {p : PyData} (h : pd 60 d = some p) : SeqAt.shaped p = true:=by
 obtain ⟨a,b⟩:=zZKQ 60 d p h
 unfold SeqAt.shaped
 simp only [a,Bool.true_and,decide_eq_true_eq]
 omega
mutual
theorem Rep.dp {K : PySem.W.Frag} {F H : Hp} {eta : List Addr} (s : SubH F H) : ∀ {d : D} {v : V} (n : Nat) (p : PyData),Rep B F eta d v → pd n d = some p → Dp K H v p
 | _,_,n,p,.non,h=>by simp [pd] at h; subst h; exact .non
 | _,_,n,p,.bl b,h=>by simp [pd] at h; subst h; exact .bl b
 | _,_,n,p,.int b,h=>by simp [pd] at h; subst h; exact .int b
 | _,_,n,p,.str b,h=>by simp [pd] at h; obtain ⟨_,rfl⟩:=h; exact .str b
 | _,_,0,p,.tup _ _,h=>by simp [pd] at h
 | _,_,0,p,.lst _ _,h=>by simp [pd] at h
 | _,_,n + 1,p,.tup e r,h=>by
  simp only [pd,Option.map_eq_some_iff] at h
  obtain ⟨ps,h1,rfl⟩:=h
  exact .tup (e.mono s).sq (RepL.dp s n ps r h1)
 | _,_,n + 1,p,.lst e r,h=>by
  simp only [pd,Option.map_eq_some_iff] at h
  obtain ⟨ps,h1,rfl⟩:=h
  exact .lst (SqL.of (s _ _ e)) (RepL.dp s n ps r h1)
 | _,_,n,p,.ins _ _,h=>by cases n <;> simp [pd] at h
 | _,_,n,p,.own _,h=>by cases n <;> simp [pd] at h
 | _,_,n,p,.ext _,h=>by cases n <;> simp [pd] at h
 | _,_,n,p,.tupz _ _,h=>by cases n <;> simp [pd] at h
 | _,_,n,p,.dtt _ _,h=>by cases n <;> simp [pd] at h
 | _,_,n,p,.dct _ _,h=>by cases n <;> simp [pd] at h
theorem RepL.dp {K : PySem.W.Frag} {F H : Hp} {eta : List Addr} (s : SubH F H) : ∀ {d : List D} {v : List V} (n : Nat) (p : List PyData),RepL B F eta d v → d.mapM (pd n) = some p → DpAll K H v p
 | _,_,n,p,.nil,h=>by simp at h; subst h; exact .nil
 | _,_,n,p,.cons r t,h=>by
  simp only [List.mapM_cons,Option.bind_eq_bind,Option.bind_eq_some_iff,Option.pure_def,Option.some.injEq] at h
  obtain ⟨p,h1,qs,h2,rfl⟩:=h
  exact .cons (Rep.dp s n p r h1) (RepL.dp s n qs t h2)
end
theorem zZLB {x y : D} {v u : V} {F : Hp} {eta : List Addr} {b : Bool} (r1 : Rep B F eta x v) (r2 : Rep B F eta y u) (h : eqF x y = some b) : scal v u = true ∧ decide (v = u) = b:=by
 unfold eqF at h
 cases r1 <;> cases r2 <;> simp at h <;> simp_all [scal]
def rEqA (K : PySem.W.Frag) : R2:=fun x y H Q=>rEq x y H Q ∨ rEqD K x y H Q
def rNeA (K : PySem.W.Frag) : R2:=fun x y H Q=>rNe x y H Q ∨ rNeD K x y H Q
theorem zZPC (hu : X.A.units + 64 < cLine) : CRule B X .Eq (cmpD .eq):=by
 refine ⟨rEqA X.K,op_eq.or (op_eqD hu),fun x y v u H F eta W Q z o r1 r2 q k => ?_⟩
 simp only [cmpD,Option.map_eq_some_iff] at q
 obtain ⟨b,q,rfl⟩:=q
 have fin:=k (.bl b) H F eta o (Ext.refl _ _ _) (.bl b)
 unfold eqD at q
 cases e : eqF x y with
 | some b' =>
  rw [e] at q
  cases q
  obtain ⟨h1,h2⟩:=zZLB r1 r2 e
  exact .inl ⟨h1,by rw [h2]; exact fin⟩
 | none =>
  rw [e] at q
  simp only [Option.bind_eq_some_iff,Option.map_eq_some_iff] at q
  obtain ⟨p,h1,p2,h2,rfl⟩:=q
  exact .inr ⟨p,p2,r1.dp o.sub 60 p h1,r2.dp o.sub 60 p2 h2,yZW h1,yZW h2,fin⟩
theorem zZPE (hu : X.A.units + 64 < cLine) : CRule B X .NotEq (cmpD .ne):=by
 refine ⟨rNeA X.K,op_ne.or (op_neD hu),fun x y v u H F eta W Q z o r1 r2 q k => ?_⟩
 simp only [cmpD,Option.map_eq_some_iff] at q
 obtain ⟨b,q,rfl⟩:=q
 have fin:=k (.bl (!b)) H F eta o (Ext.refl _ _ _) (.bl (!b))
 unfold eqD at q
 cases e : eqF x y with
 | some b' =>
  rw [e] at q
  cases q
  obtain ⟨h1,h2⟩:=zZLB r1 r2 e
  exact .inl ⟨h1,by rw [h2]; exact fin⟩
 | none =>
  rw [e] at q
  simp only [Option.bind_eq_some_iff,Option.map_eq_some_iff] at q
  obtain ⟨p,h1,p2,h2,rfl⟩:=q
  exact .inr ⟨p,p2,r1.dp o.sub 60 p h1,r2.dp o.sub 60 p2 h2,yZW h1,yZW h2,fin⟩
theorem zZEC {op : CmpOp} {c : Cm} {p : Int → Int → Bool} (ho : OpR X (compareOp op) (rI0 fun i j=>.bl (p i j)))
  (hc : ∀ x y z,cmpD c x y = some z → ∃ i j,x = .int i ∧ y = .int j ∧ z = .bl (p i j)) : CRule B X op (cmpD c):=by
 refine ⟨_,ho,fun x y v u H F eta W Q z o r1 r2 q k => ?_⟩
 obtain ⟨i,j,rfl,rfl,rfl⟩:=hc x y z q
 cases r1
 cases r2
 exact ⟨i,j,rfl,rfl,k _ H F eta o (Ext.refl _ _ _) (.bl _)⟩
def pyCm : Cm → CmpOp
 | .eq=>.Eq | .ne=>.NotEq | .lt=>.Lt | .le=>.LtE | .gt=>.Gt | .ge=>.GtE | .isN=>.Is | .notN=>.IsNot | .inn=>.In | .notin=>.NotIn
theorem zZI1 {x : D} {v : V} {F : Hp} {eta : List Addr} (r : Rep B F eta x v) : decide (v = .non) = (match x with | .non=>true | _=>false):=by
 cases r <;> simp
theorem zZOb (x y z : D) (h : cmpD .lt x y = some z) : ∃ i j,x = .int i ∧ y = .int j ∧ z = .bl (decide (i < j)):=by
 cases x <;> cases y <;> simp [cmpD] at h
 exact ⟨_,_,rfl,rfl,h.symm⟩
theorem zZOT (x y z : D) (h : cmpD .le x y = some z) : ∃ i j,x = .int i ∧ y = .int j ∧ z = .bl (decide (i ≤ j)):=by
 cases x <;> cases y <;> simp [cmpD] at h
 exact ⟨_,_,rfl,rfl,h.symm⟩
theorem zZO5 (x y z : D) (h : cmpD .gt x y = some z) : ∃ i j,x = .int i ∧ y = .int j ∧ z = .bl (decide (j < i)):=by
 cases x <;> cases y <;> simp [cmpD] at h
 exact ⟨_,_,rfl,rfl,h.symm⟩
theorem zZN8 (x y z : D) (h : cmpD .ge x y = some z) : ∃ i j,x = .int i ∧ y = .int j ∧ z = .bl (decide (j ≤ i)):=by
 cases x <;> cases y <;> simp [cmpD] at h
 exact ⟨_,_,rfl,rfl,h.symm⟩
theorem zZMc : OpR X (compareOp .IsNot) (fun x y H Q=>(y = .non ∧ Q (.bl (!decide (x = .non))) H) ∨ ∃ a b,x = .bl a ∧ y = .bl b ∧ Q (.bl (!decide (a = b))) H):=by
 intro pins s σ H x y v u Q I rx ry h
 rcases h with ⟨rfl,q⟩ | ⟨a,b,rfl,rfl,q⟩
 ·exact op_notN pins s σ H x _ v u Q I rx ry ⟨rfl,q⟩
 ·cases (show v = Value.bool a from rx)
  cases (show u = Value.bool b from ry)
  by_cases e : a = b
  ·subst e
   exact wpAny_isNot_self rfl ⟨.bl false,H,I,rfl,by simpa using q⟩
  ·exact wpAny_isNot_other rfl (fun z=>e (Value.bool.inj z)) ⟨.bl true,H,I,rfl,by simpa [e] using q⟩
theorem crule (op : Cm) (h1 : op ≠ .inn) (h2 : op ≠ .notin) (hu : X.A.units + 64 < cLine) : CRule B X (pyCm op) (cmpD op):=by
 cases op with
 | eq=>exact zZPC hu
 | ne=>exact zZPE hu
 | lt=>exact zZEC op_lt zZOb
 | le=>exact zZEC op_le zZOT
 | gt=>exact zZEC op_gt zZO5
 | ge=>exact zZEC op_ge zZN8
 | isN =>
  refine ⟨_,op_isN,fun x y v u H F eta W Q z o r1 r2 q k => ?_⟩
  cases r2 <;> cases x <;> simp [cmpD] at q <;> subst q <;> refine ⟨rfl, ?_⟩ <;> rw [zZI1 r1] <;> exact k _ H F eta o (Ext.refl _ _ _) (.bl _)
 | notN =>
  refine ⟨_,zZMc,fun x y v u H F eta W Q z o r1 r2 q k => ?_⟩
  cases r2 with
  | bl b =>
   cases x <;> simp [cmpD] at q
   subst q
   cases r1
   refine .inr ⟨_,_,rfl,rfl, ?_⟩
   simpa using k _ H F eta o (Ext.refl _ _ _) (.bl _)
  | _=>cases x <;> simp [cmpD] at q <;> subst q <;> refine .inl ⟨rfl, ?_⟩ <;> rw [zZI1 r1] <;> exact k _ H F eta o (Ext.refl _ _ _) (.bl _)
 | inn=>exact absurd rfl h1
 | notin=>exact absurd rfl h2
theorem zZD4 {op : Cm} {x y z : D} (h : cmpD op x y = some z) : ∃ b,z = .bl b:=by
 unfold cmpD at h
 split at h
 all_goals first
  | (simp only [Option.map_eq_some_iff] at h; obtain ⟨b,_,rfl⟩:=h; exact ⟨_,rfl⟩)
  | exact ⟨_,(Option.some.inj h).symm⟩
  | cases h
theorem xZt {op : Cm} (h1 : op ≠ .inn) (h2 : op ≠ .notin) (b : Expr) : behindInMarks (pyCm op) b = false:=by
 refine nomark b ?_ ?_ <;> cases op <;> simp_all [pyCm]
theorem xZI (op : Cm) (h1 : op ≠ .inn) (h2 : op ≠ .notin) (hu : X.A.units + 64 < cLine) (ha : EOk B X pa fa) (hb : EOk B X pb fb) :
  EOk B X (.Compare pa [pyCm op] [pb] pos) (fun e W=>(fa e W).bind fun x W=>(fb e W).bind fun y W=>opt (cmpD op x y) W) :=
 zZMI (crule op h1 h2 hu) (xZt h1 h2 _) ha hb
end
end DL
set_option maxRecDepth 100000
set_option maxHeartbeats 4000000
namespace DL
open PySem PySem.Spec PyProof.Rows
open L2 hiding St
section
variable {B : Tb} {X : Cx} {py pa pb pc : Expr} {f fa fb fc : Env → Wd → R D} {pos : Pos}
def tv (f : Env → Wd → R D) : Env → Wd → R Bool:=fun e W=>(f e W).bind fun x W=>opt (truD x) W
theorem zZB {A : Type} {o : Option A} {W : Wd} {Q : A → Wd → Prop} (h : (opt o W).wp B.xq Q) : ∃ a,o = some a ∧ Q a W:=by
 cases o with
 | none=>exact h.elim
 | some a=>exact ⟨a,rfl,h⟩
/-- a test by a value's truth -/
theorem zZK4 (ha : EOk B X pa fa) (he : ∀ whole,isTrue pa X.env whole = (do let v ← whole; standAt pa.pos; holding [v] (truthy v))) : TOk B X pa (tv fa):=by
 obtain ⟨ta,ha,ka⟩:=ha
 refine ⟨_,pt_truth ha he,fun e W sg H F eta Q s k => ?_⟩
 refine ka e W sg H F eta _ s ?_
 unfold tv at k
 rw [R.wp_bind] at k
 refine R.wp_mono k fun x W1 k v H1 F1 eta1 o1 x1 r1 => ?_
 obtain ⟨b,q,k⟩:=zZB k
 refine ⟨b, ?_,k H1 F1 eta1 o1 x1⟩
 cases r1 with
 | non=>simp [truD] at q; exact q
 | bl c=>simp [truD] at q; exact q.symm
 | int i=>simp [truD] at q; rw [← q]; rfl
 | str _=>simp [truD] at q
 | tup h r =>
  have q:=Option.some.inj q
  refine .inr (.inl ⟨_,(h.mono o1.sub).sq, ?_⟩)
  rw [← q]
  cases r <;> rfl
 | lst h r =>
  have q:=Option.some.inj q
  refine .inl ⟨_,SqL.of (o1.sub _ _ h), ?_⟩
  rw [← q]
  cases r <;> rfl
 | ins h r=>simp [truD] at q
 | own h=>simp [truD] at q
 | ext h=>simp [truD] at q
 | tupz h r=>simp [truD] at q
 | dct h r=>simp [truD] at q
 | dtt h r=>simp [truD] at q
theorem zZNe (ha : TOk B X pa (tv fa)) : TOk B X (.UnaryOp .Not pa pos) (tv (fun e W=>(fa e W).bind fun x W=>(opt (truD x) W).bind fun k W=>.ok (.bl (!k)) W)):=by
 obtain ⟨ta,ha,ka⟩:=ha
 refine ⟨_,pt_not ha,fun e W sg H F eta Q s k => ?_⟩
 refine ka e W sg H F eta _ s ?_
 unfold tv at k ⊢
 rw [R.bind_assoc] at k
 rw [R.wp_bind] at k ⊢
 refine R.wp_mono k fun x W1 k => ?_
 rw [R.bind_assoc,R.wp_bind] at k
 refine R.wp_mono k fun b W2 k => ?_
 simpa [truD] using k
/-- a comparison as a test -/
theorem zZMY {op : CmpOp} {g : D → D → Option D} (c : CRule B X op g) (hb' : ∀ x y z,g x y = some z → ∃ b,z = .bl b) (hm : behindInMarks op pb = false) (ha : EOk B X pa fa) (hb : EOk B X pb fb) :
  TOk B X (.Compare pa [op] [pb] pos) (tv (fun e W=>(fa e W).bind fun x W=>(fb e W).bind fun y W=>opt (g x y) W)):=by
 obtain ⟨r,ho,hr⟩:=c
 obtain ⟨ta,ha,ka⟩:=ha
 obtain ⟨tb,hb,kb⟩:=hb
 refine ⟨_,pt_cmpR ho ha hb hm,fun e W sg H F eta Q s k => ?_⟩
 refine ka e W sg H F eta _ s ?_
 unfold tv at k
 rw [R.bind_assoc,R.wp_bind] at k
 refine R.wp_mono k fun x W1 k v H1 F1 eta1 o1 x1 r1 => ?_
 rw [R.bind_assoc,R.wp_bind] at k
 refine kb e W1 sg H1 F1 eta1 _ (s.ext x1 o1) (R.wp_mono k fun y W2 k u H2 F2 eta2 o2 x2 r2 => ?_)
 rw [R.wp_bind] at k
 obtain ⟨z,q,k⟩:=zZB k
 obtain ⟨b,rfl⟩:=hb' x y z q
 refine hr x y v u H2 F2 eta2 W2 _ _ o2 (r1.mono x2.sub x2.pre) r2 q fun w H' F' eta' o' x' rw' => ?_
 cases rw'
 exact ⟨b,rfl,k H' F' eta' o' (Ext.trans s.ok o1 x1 (Ext.trans o1 o2 x2 x'))⟩
theorem xZH (op : Cm) (h1 : op ≠ .inn) (h2 : op ≠ .notin) (hu : X.A.units + 64 < cLine) (ha : EOk B X pa fa) (hb : EOk B X pb fb) :
  TOk B X (.Compare pa [pyCm op] [pb] pos) (tv (fun e W=>(fa e W).bind fun x W=>(fb e W).bind fun y W=>opt (cmpD op x y) W)) :=
 zZMY (crule op h1 h2 hu) (fun _ _ _=>zZD4) (xZt h1 h2 _) ha hb
def chainF (o1 o2 : Cm) (fa fb fc : Env → Wd → R D) : Env → Wd → R D:=fun e W=>(fa e W).bind fun x W=>(fb e W).bind fun y W=>(opt (cmpD o1 x y) W).bind fun k W =>
  match k with
  | .bl true=>(fc e W).bind fun z W=>opt (cmpD o2 y z) W
  | .bl false=>.ok (.bl false) W
  | _=>.st
theorem zZF8 {o1 o2 : Cm} (h1 : o1 ≠ .inn) (h2 : o1 ≠ .notin) (h3 : o2 ≠ .inn) (h4 : o2 ≠ .notin) (hu : X.A.units + 64 < cLine) (ha : EOk B X pa fa) (hb : EOk B X pb fb) (hc : EOk B X pc fc) :
  ∃ (r r' : R2) (ta tb tc : TE),OpR X (compareOp (pyCm o1)) r ∧ OpR X (compareOp (pyCm o2)) r' ∧ PE X pa ta ∧ PE X pb tb ∧ PE X pc tc ∧
   ∀ (e : Env) (W : Wd) (sg : L2.St) (H F : Hp) (eta : List Addr) (Q : VK),Stt B e W sg H F eta →
   (chainF o1 o2 fa fb fc e W).wp B.xq (fun d W' => ∀ (v : V) (H' F' : Hp) (eta' : List Addr),OkH B F' eta' W' H' → Ext F eta H F' eta' H' → Rep B F' eta' d v → Q v H') → tChain r r' ta tb tc sg H Q:=by
 obtain ⟨r,ho,hr⟩:=crule (B:=B) (X:=X) o1 h1 h2 hu
 obtain ⟨r',ho',hr'⟩:=crule (B:=B) (X:=X) o2 h3 h4 hu
 obtain ⟨ta,ha,ka⟩:=ha
 obtain ⟨tb,hb,kb⟩:=hb
 obtain ⟨tc,hc,kc⟩:=hc
 refine ⟨r,r',ta,tb,tc,ho,ho',ha,hb,hc,fun e W sg H F eta Q s k => ?_⟩
 refine ka e W sg H F eta _ s ?_
 unfold chainF at k
 rw [R.wp_bind] at k
 refine R.wp_mono k fun x W1 k v H1 F1 eta1 o1' x1 r1 => ?_
 rw [R.wp_bind] at k
 refine kb e W1 sg H1 F1 eta1 _ (s.ext x1 o1') (R.wp_mono k fun y W2 k u H2 F2 eta2 o2' x2 r2 => ?_)
 rw [R.wp_bind] at k
 obtain ⟨z,q,k⟩:=zZB k
 obtain ⟨b,rfl⟩:=zZD4 q
 refine hr x y v u H2 F2 eta2 W2 _ _ o2' (r1.mono x2.sub x2.pre) r2 q fun w H3 F3 eta3 o3' x3 rw' => ?_
 cases rw'
 have y2:=Ext.trans s.ok o1' x1 x2
 have y3:=Ext.trans s.ok o2' y2 x3
 refine ⟨b,rfl, ?_⟩
 cases b with
 | false=>exact k _ H3 F3 eta3 o3' y3 (.bl _)
 | true =>
  rw [if_pos rfl]
  simp only [] at k
  rw [R.wp_bind] at k
  refine kc e W2 sg H3 F3 eta3 _ (s.ext y3 o3') (R.wp_mono k fun z W4 k t H4 F4 eta4 o4' x4 r4 => ?_)
  obtain ⟨z2,q2,k⟩:=zZB k
  have y4:=Ext.trans s.ok o3' y3 x4
  refine hr' y z u t H4 F4 eta4 W4 _ z2 o4' (r2.mono (x3.sub.trans x4.sub) (x3.pre.trans x4.pre)) r4 q2 fun w H5 F5 eta5 o5' x5 rw' => ?_
  exact k w H5 F5 eta5 o5' (Ext.trans s.ok o4' y4 x5) rw'
theorem zZLw {o1 o2 : Cm} {e : Env} {W : Wd} {Q : D → Wd → Prop} (h : (chainF o1 o2 fa fb fc e W).wp B.xq Q) : (chainF o1 o2 fa fb fc e W).wp B.xq fun d W'=>(∃ b,d = .bl b) ∧ Q d W':=by
 unfold chainF at *
 rw [R.wp_bind] at h ⊢
 refine R.wp_mono h fun x W1 h => ?_
 rw [R.wp_bind] at h ⊢
 refine R.wp_mono h fun y W2 h => ?_
 rw [R.wp_bind] at h ⊢
 obtain ⟨z,q,h⟩:=zZB h
 rw [q]
 obtain ⟨b,rfl⟩:=zZD4 q
 cases b with
 | false=>exact ⟨⟨_,rfl⟩,h⟩
 | true =>
  simp only [zZn,R.wp_ok] at h ⊢
  rw [R.wp_bind] at h ⊢
  refine R.wp_mono h fun z W4 h => ?_
  obtain ⟨z2,q2,h⟩:=zZB h
  rw [q2]
  exact ⟨zZD4 q2,h⟩
theorem zZKp {o1 o2 : Cm} (h1 : o1 ≠ .inn) (h2 : o1 ≠ .notin) (h3 : o2 ≠ .inn) (h4 : o2 ≠ .notin) (hu : X.A.units + 64 < cLine) (ha : EOk B X pa fa) (hb : EOk B X pb fb) (hc : EOk B X pc fc) :
  EOk B X (.Compare pa [pyCm o1,pyCm o2] [pb,pc] pos) (chainF o1 o2 fa fb fc):=by
 obtain ⟨r,r',ta,tb,tc,ho,ho',pa',pb',pc',k⟩:=zZF8 h1 h2 h3 h4 hu ha hb hc
 exact ⟨_,pe_chain ho ho' pa' pb' pc' (xZt h3 h4 _),k⟩
theorem zZLJ {o1 o2 : Cm} (h1 : o1 ≠ .inn) (h2 : o1 ≠ .notin) (h3 : o2 ≠ .inn) (h4 : o2 ≠ .notin) (hu : X.A.units + 64 < cLine) (ha : EOk B X pa fa) (hb : EOk B X pb fb) (hc : EOk B X pc fc) :
  TOk B X (.Compare pa [pyCm o1,pyCm o2] [pb,pc] pos) (tv (chainF o1 o2 fa fb fc)):=by
 obtain ⟨r,r',ta,tb,tc,ho,ho',pa',pb',pc',k⟩:=zZF8 h1 h2 h3 h4 hu ha hb hc
 refine ⟨_,pt_chain ho ho' pa' pb' pc' (xZt h3 h4 _),fun e W sg H F eta Q s q => ?_⟩
 refine k e W sg H F eta _ s ?_
 unfold tv at q
 rw [R.wp_bind] at q
 refine R.wp_mono (zZLw q) fun d W1 ⟨⟨b,hb⟩,q⟩ v H1 F1 eta1 o1' x1 r1 => ?_
 subst hb
 cases r1
 exact ⟨b,rfl,q H1 F1 eta1 o1' x1⟩
end
end DL
set_option maxRecDepth 100000
set_option maxHeartbeats 4000000
namespace DL
open PySem PySem.Spec PyProof.Rows
open L2 hiding St
section
variable {B : Tb} {X : Cx} {py pa pb pc : Expr} {f fa fb fc fr : Env → Wd → R D} {rest : List Expr} {pos : Pos}
def andF (fa fr : Env → Wd → R D) : Env → Wd → R D:=fun e W=>(fa e W).bind fun x W =>
  match x with
  | .bl true=>fr e W
  | .bl false=>.ok (.bl false) W
  | _=>.st
def orF (fa fr : Env → Wd → R D) : Env → Wd → R D:=fun e W=>(fa e W).bind fun x W =>
  match x with
  | .bl true=>.ok (.bl true) W
  | .bl false=>fr e W
  | _=>.st
theorem zZJQ {op : BoolOp} (ha : EOk B X pa fa) : EOk B X (.BoolOp op [pa] pos) fa:=by
 obtain ⟨ta,ha,ka⟩:=ha
 exact ⟨_,pe_one ha,ka⟩
theorem zZN0 (ha : EOk B X pa fa) (hb : EOk B X (.BoolOp .And (pb :: rest) pos) fr) : EOk B X (.BoolOp .And (pa :: pb :: rest) pos) (andF fa fr):=by
 obtain ⟨ta,ha,ka⟩:=ha
 obtain ⟨tb,hb,kb⟩:=hb
 refine ⟨_,pe_and ha hb,fun e W sg H F eta Q s k => ?_⟩
 refine ka e W sg H F eta _ s ?_
 unfold andF at k
 rw [R.wp_bind] at k
 refine R.wp_mono k fun x W1 k v H1 F1 eta1 o1 x1 r1 => ?_
 cases r1 with
 | bl b =>
  cases b with
  | true=>exact ⟨true,rfl,kb e W1 sg H1 F1 eta1 _ (s.ext x1 o1) (R.wp_mono k fun d W2 k v H' F' eta' o' x' r'=>k v H' F' eta' o' (Ext.trans s.ok o1 x1 x') r')⟩
  | false=>exact ⟨false,rfl,k _ H1 F1 eta1 o1 x1 (.bl _)⟩
 | _=>exact k.elim
theorem zZOM (ha : EOk B X pa fa) (hb : EOk B X (.BoolOp .Or (pb :: rest) pos) fr) : EOk B X (.BoolOp .Or (pa :: pb :: rest) pos) (orF fa fr):=by
 obtain ⟨ta,ha,ka⟩:=ha
 obtain ⟨tb,hb,kb⟩:=hb
 refine ⟨_,pe_or ha hb,fun e W sg H F eta Q s k => ?_⟩
 refine ka e W sg H F eta _ s ?_
 unfold orF at k
 rw [R.wp_bind] at k
 refine R.wp_mono k fun x W1 k v H1 F1 eta1 o1 x1 r1 => ?_
 cases r1 with
 | bl b =>
  cases b with
  | false=>exact ⟨false,rfl,kb e W1 sg H1 F1 eta1 _ (s.ext x1 o1) (R.wp_mono k fun d W2 k v H' F' eta' o' x' r'=>k v H' F' eta' o' (Ext.trans s.ok o1 x1 x') r')⟩
  | true=>exact ⟨true,rfl,k _ H1 F1 eta1 o1 x1 (.bl _)⟩
 | _=>exact k.elim
theorem TOk.ofW (h : WOk B X pa (tv fa)) : TOk B X pa (tv fa):=by
 obtain ⟨t,h,k⟩:=h
 exact ⟨t,h.pt,k⟩
theorem zZLm (ha : TOk B X pa (tv fa)) : WOk B X (.BoolOp .And [pa] pos) (tv fa):=by
 obtain ⟨t,h,k⟩:=ha
 exact ⟨t,pw_and1 h,k⟩
theorem zZM7 (ha : TOk B X pa (tv fa)) : WOk B X (.BoolOp .Or [pa] pos) (tv fa):=by
 obtain ⟨t,h,k⟩:=ha
 exact ⟨t,pw_or1 h,k⟩
theorem zZNT (ha : TOk B X pa (tv fa)) (hb : WOk B X (.BoolOp .And (pb :: rest) pos) (tv fr)) : WOk B X (.BoolOp .And (pa :: pb :: rest) pos) (tv (andF fa fr)):=by
 obtain ⟨ta,ha,ka⟩:=ha
 obtain ⟨tb,hb,kb⟩:=hb
 refine ⟨_,pw_and ha hb,fun e W sg H F eta Q s k => ?_⟩
 refine ka e W sg H F eta _ s ?_
 unfold tv andF at k
 unfold tv
 rw [R.bind_assoc,R.wp_bind] at k
 rw [R.wp_bind]
 refine R.wp_mono k fun x W1 k => ?_
 cases x with
 | bl b =>
  simp only [truD,zZn,R.wp_ok]
  intro H1 F1 eta1 o1 x1
  cases b with
  | true =>
   rw [if_pos rfl]
   exact kb e W1 sg H1 F1 eta1 _ (s.ext x1 o1) (R.wp_mono k fun d W2 k H' F' eta' o' x'=>k H' F' eta' o' (Ext.trans s.ok o1 x1 x'))
  | false =>
   rw [if_neg (by decide)]
   exact k H1 F1 eta1 o1 x1
 | _=>exact k.elim
theorem zZOu (ha : TOk B X pa (tv fa)) (hb : WOk B X (.BoolOp .Or (pb :: rest) pos) (tv fr)) : WOk B X (.BoolOp .Or (pa :: pb :: rest) pos) (tv (orF fa fr)):=by
 obtain ⟨ta,ha,ka⟩:=ha
 obtain ⟨tb,hb,kb⟩:=hb
 refine ⟨_,pw_or ha hb,fun e W sg H F eta Q s k => ?_⟩
 refine ka e W sg H F eta _ s ?_
 unfold tv orF at k
 unfold tv
 rw [R.bind_assoc,R.wp_bind] at k
 rw [R.wp_bind]
 refine R.wp_mono k fun x W1 k => ?_
 cases x with
 | bl b =>
  simp only [truD,zZn,R.wp_ok]
  intro H1 F1 eta1 o1 x1
  cases b with
  | false =>
   rw [if_neg (by decide)]
   exact kb e W1 sg H1 F1 eta1 _ (s.ext x1 o1) (R.wp_mono k fun d W2 k H' F' eta' o' x'=>k H' F' eta' o' (Ext.trans s.ok o1 x1 x'))
  | true =>
   rw [if_pos rfl]
   exact k H1 F1 eta1 o1 x1
 | _=>exact k.elim
variable {e : Env} {sg : L2.St} {F F' H H' : Hp} {eta eta' : List Addr} {W W' : Wd}
theorem SrcRep.ext {s : Src} {v : V} (h : SrcRep B e sg F eta s v) (x : Ext F eta H F' eta' H') : SrcRep B e sg F' eta' s v:=by
 cases s with
 | frz xs d=>exact ⟨h.1.mono x.sub x.pre,h.2⟩
 | slot i xs=>exact h
 | cell n=>obtain ⟨a,h1,h2⟩:=h; exact ⟨a,zZEB x.pre h1,h2⟩
 | str z=>exact h
theorem SrcRep.seq {s : Src} {v : V} {xs : List D} (st : Stt B e W sg H F eta) (h : SrcRep B e sg F eta s v) (hi : items W s = some xs) (hs : s.isStr = false) :
  ∃ a vs,v = .ref a ∧ RepL B F eta xs vs ∧ (H a = some (.lst vs) ∨ TupF H a vs):=by
 cases s with
 | frz ys d =>
  simp [items] at hi
  subst hi
  obtain ⟨r,hd⟩:=h
  rcases hd with rfl | rfl
  ·cases r with
   | lst h r=>exact ⟨_,_,rfl,r,.inl (st.ok.sub _ _ h)⟩
  ·cases r with
   | tup h r=>exact ⟨_,_,rfl,r,.inr (h.mono st.ok.sub)⟩
 | slot i ys =>
  simp [items] at hi
  subst hi
  obtain ⟨h1,h2⟩:=h
  obtain ⟨a,vs,q1,q2,q3,_,_⟩:=st.sl i _ h1
  rw [q1] at h2
  cases h2
  exact ⟨a,vs,rfl,q3,.inl q2⟩
 | cell n =>
  obtain ⟨a,h1,rfl⟩:=h
  simp only [items] at hi
  split at hi
  ·rename_i ys hw
   cases hi
   obtain ⟨vs,q1,q2⟩:=st.ok.cell n a _ h1 hw
   exact ⟨a,vs,rfl,q2,.inl q1⟩
  ·cases hi
 | str z=>cases hs
theorem zZHl {d : D} {s : Src} {v : V} (h : srcD d = some s) (r : Rep B F eta d v) : SrcRep B e sg F eta s v:=by
 cases r with
 | str z=>simp [srcD] at h; subst h; rfl
 | tup h1 r1=>simp [srcD] at h; subst h; exact ⟨.tup h1 r1,.inr rfl⟩
 | lst h1 r1=>simp [srcD] at h; subst h; exact ⟨.lst h1 r1,.inl rfl⟩
 | own h1=>simp [srcD] at h; subst h; exact ⟨_,h1,rfl⟩
 | ext _=>simp [srcD] at h
 | tupz _ _=>simp [srcD] at h
 | dct _ _=>simp [srcD] at h
 | dtt _ _=>simp [srcD] at h
 | _=>simp [srcD] at h
theorem zZOL (ha : EOk B X pa fa) : SOk B X pa (fun e W=>(fa e W).bind fun d W=>opt (srcD d) W):=by
 obtain ⟨ta,ha,ka⟩:=ha
 refine ⟨_,ha,fun e W sg H F eta Q s k => ?_⟩
 refine ka e W sg H F eta _ s ?_
 rw [R.wp_bind] at k
 refine R.wp_mono k fun x W1 k v H1 F1 eta1 o1 x1 r1 => ?_
 obtain ⟨z,q,k⟩:=zZB k
 exact k v H1 F1 eta1 o1 x1 (zZHl q r1)
theorem zZNN {i : Nat} {x : Str} (hN : X.N[i]? = some x) (hv : Vis X.env.scope x) (hd : (x == ("__debug__" : Str)) = false) (hc : (x == ("__classdict__" : Str)) = false) (g : Cfg) :
  SOk B X (.Name x pos) (srcOf (.var i) (evE g (.var i))):=by
 refine ⟨_,pe_var hN hv hd hc,fun e W sg H F eta Q s k => ?_⟩
 unfold srcOf at k
 simp only [] at k
 split at k
 ·rename_i xs q
  have z:=s.sl i _ q
  obtain ⟨a,vs,h1,_⟩:=z
  exact ⟨_,h1,k _ H F eta s.ok (Ext.refl _ _ _) ⟨q,h1⟩⟩
 ·rename_i d q
  obtain ⟨z,q2,k⟩:=zZB k
  have r:=s.sl i _ q
  obtain ⟨v,h1,h2⟩:=r
  exact ⟨v,h1,k v H F eta s.ok (Ext.refl _ _ _) (zZHl q2 h2)⟩
 ·exact k.elim
/-- a sequence,then an expression,then a rule by values -/
theorem zZME {r : R2} {fs : Env → Wd → R Src} {g : Wd → Src → D → Option D} {t2 : TE → TE → TE} (ha : SOk B X pa fs) (hb : EOk B X pb fb)
  (hp : ∀ ta tb,PE X pa ta → PE X pb tb → PE X py (t2 ta tb)) (ht : ∀ ta tb sg H Q,(ta sg H fun x H1=>tb sg H1 fun y H2=>r x y H2 Q) → t2 ta tb sg H Q)
  (hr : ∀ (e : Env) (sg : L2.St) s y v u (H F : Hp) (eta : List Addr) (W : Wd) (Q : VK) z,Stt B e W sg H F eta → SrcRep B e sg F eta s v → Rep B F eta y u → g W s y = some z →
   (∀ (w : V) (H' F' : Hp) (eta' : List Addr),OkH B F' eta' W H' → Ext F eta H F' eta' H' → Rep B F' eta' z w → Q w H') → r v u H Q) :
  EOk B X py (fun e W=>(fs e W).bind fun s W=>(fb e W).bind fun y W=>opt (g W s y) W):=by
 obtain ⟨ta,ha,ka⟩:=ha
 obtain ⟨tb,hb,kb⟩:=hb
 refine ⟨_,hp _ _ ha hb,fun e W sg H F eta Q s k=>ht _ _ _ _ _ ?_⟩
 refine ka e W sg H F eta _ s ?_
 rw [R.wp_bind] at k
 refine R.wp_mono k fun x W1 k v H1 F1 eta1 o1 x1 r1 => ?_
 rw [R.wp_bind] at k
 refine kb e W1 sg H1 F1 eta1 _ (s.ext x1 o1) (R.wp_mono k fun y W2 k u H2 F2 eta2 o2 x2 r2 => ?_)
 obtain ⟨z,q,k⟩:=zZB k
 refine hr e sg x y v u H2 F2 eta2 W2 Q z (s.ext (Ext.trans s.ok o1 x1 x2) o2) (r1.ext x2) r2 q fun w H' F' eta' o' x' rw' => ?_
 exact k w H' F' eta' o' (Ext.trans s.ok o1 x1 (Ext.trans o1 o2 x2 x')) rw'
theorem zZM1 {xs : List D} {i z : D} (h : atD xs i = some z) : ∃ k,i = .int k ∧ L2.atI xs k = some z:=by
 cases i <;> simp [atD] at h
 exact ⟨_,rfl,h⟩
theorem zZNV {fs : Env → Wd → R Src} (hx : PlainIx pb) (ha : SOk B X pa fs) (hb : EOk B X pb fb) :
  EOk B X (.Subscript pa pb pos) (fun e W=>(fs e W).bind fun s W=>(fb e W).bind fun i W=>opt ((items W s).bind fun xs=>atD xs i) W):=by
 refine zZME (g:=fun W s i=>(items W s).bind fun xs=>atD xs i) (r:=rIx X.K) ha hb (fun _ _ h1 h2=>pe_ix ix_seq h1 h2 hx) (fun _ _ _ _ _ h=>h) ?_
 intro e sg s y v u H F eta W Q z st r1 r2 q k
 simp only [Option.bind_eq_some_iff] at q
 obtain ⟨xs,hi,q⟩:=q
 obtain ⟨i,rfl,q3⟩:=zZM1 q
 clear q
 cases r2
 cases hs : s.isStr with
 | false =>
  obtain ⟨a,vs,rfl,rl,hh⟩:=r1.seq st hi hs
  obtain ⟨w,q1,q2⟩:=rl.atI q3
  rcases hh with hh | hh
  ·exact .inl ⟨a,vs,i,w,rfl,rfl,SqL.of hh,q1,k w H F eta st.ok (Ext.refl _ _ _) q2⟩
  ·exact .inr (.inl ⟨a,vs,i,w,rfl,rfl,hh.sq,q1,k w H F eta st.ok (Ext.refl _ _ _) q2⟩)
 | true =>
  cases s with
  | str zz =>
   obtain rfl : v = .str zz:=r1
   simp only [items] at hi
   split at hi
   ·rename_i hl
    cases hi
    obtain ⟨c,hc,rfl⟩ : ∃ c,L2.atI zz.cps.toList i = some c ∧ D.str ⟨#[c]⟩ = z:=by
     unfold L2.atI at q3 ⊢
     rw [List.length_map] at q3
     cases hq : ixN zz.cps.toList.length i with
     | none=>rw [hq] at q3; cases q3
     | some j =>
      rw [hq] at q3
      simp only [Option.bind_some,List.getElem?_map,Option.map_eq_some_iff] at q3 ⊢
      exact q3
    exact .inr (.inr ⟨zz,i,c,rfl,rfl,Nat.le_trans hl zZc,hc,k _ H F eta st.ok (Ext.refl _ _ _) (.str _)⟩)
   ·cases hi
  | _=>cases hs
theorem zZGV {d : D} {v : V} (r : Rep B F eta d v) (h : flatD d = true) : flatV v = true:=by
 cases r <;> simp_all [flatD,flatV]
theorem zZEc : ∀ {ds : List D} {vs : List V},RepL B F eta ds vs → ds.all flatD = true → vs.all flatV = true
 | _,_,.nil,_=>rfl
 | _,_,.cons r t,h=>by
  simp only [List.all_cons,Bool.and_eq_true] at h ⊢
  exact ⟨zZGV r h.1,zZEc t h.2⟩
theorem zZLN {x y : D} {v u : V} (r1 : Rep B F eta x v) (r2 : Rep B F eta y u) (h1 : flatD x = true) (h2 : flatD y = true) : eqV v u = eqVD x y:=by
 cases r1 <;> simp [flatD] at h1 <;> cases r2 <;> simp [flatD] at h2 <;> rfl
theorem inVD {x : D} {u : V} (r1 : Rep B F eta x u) (h1 : flatD x = true) : ∀ {ds : List D} {vs : List V},RepL B F eta ds vs → ds.all flatD = true → inV u vs = ds.any fun y=>eqVD y x
 | _,_,.nil,_=>rfl
 | _,_,.cons r t,h=>by
  simp only [List.all_cons,Bool.and_eq_true] at h
  unfold inV at *
  simp only [List.any_cons]
  rw [zZLN r r1 h.1 h1]
  have:=inVD r1 h1 t h.2
  unfold inV at this
  rw [this]
/-- an expression,then a sequence -/
theorem zZEX {r : R2} {fs : Env → Wd → R Src} {g : Wd → D → Src → Option D} {t2 : TE → TE → TE} (ha : EOk B X pa fa) (hb : SOk B X pb fs)
  (hp : ∀ ta tb,PE X pa ta → PE X pb tb → PE X py (t2 ta tb)) (ht : ∀ ta tb sg H Q,(ta sg H fun x H1=>tb sg H1 fun y H2=>r x y H2 Q) → t2 ta tb sg H Q)
  (hr : ∀ (e : Env) (sg : L2.St) x s v u (H F : Hp) (eta : List Addr) (W : Wd) (Q : VK) z,Stt B e W sg H F eta → Rep B F eta x v → SrcRep B e sg F eta s u → g W x s = some z →
   (∀ (w : V) (H' F' : Hp) (eta' : List Addr),OkH B F' eta' W H' → Ext F eta H F' eta' H' → Rep B F' eta' z w → Q w H') → r v u H Q) :
  EOk B X py (fun e W=>(fa e W).bind fun x W=>(fs e W).bind fun s W=>opt (g W x s) W):=by
 obtain ⟨ta,ha,ka⟩:=ha
 obtain ⟨tb,hb,kb⟩:=hb
 refine ⟨_,hp _ _ ha hb,fun e W sg H F eta Q s k=>ht _ _ _ _ _ ?_⟩
 refine ka e W sg H F eta _ s ?_
 rw [R.wp_bind] at k
 refine R.wp_mono k fun x W1 k v H1 F1 eta1 o1 x1 r1 => ?_
 rw [R.wp_bind] at k
 refine kb e W1 sg H1 F1 eta1 _ (s.ext x1 o1) (R.wp_mono k fun y W2 k u H2 F2 eta2 o2 x2 r2 => ?_)
 obtain ⟨z,q,k⟩:=zZB k
 refine hr e sg x y v u H2 F2 eta2 W2 Q z (s.ext (Ext.trans s.ok o1 x1 x2) o2) (r1.mono x2.sub x2.pre) r2 q fun w H' F' eta' o' x' rw' => ?_
 exact k w H' F' eta' o' (Ext.trans s.ok o1 x1 (Ext.trans o1 o2 x2 x')) rw'
theorem zZGk {neg : Bool} {x z : D} {s : Src} {v u : V} {Q : VK} (st : Stt B e W sg H F eta) (r1 : Rep B F eta x v) (r2 : SrcRep B e sg F eta s u) (q : inG neg W x s = some z)
  (k : ∀ (w : V) (H' F' : Hp) (eta' : List Addr),OkH B F' eta' W H' → Ext F eta H F' eta' H' → Rep B F' eta' z w → Q w H') (K : PySem.W.Frag) : rIn K neg v u H Q:=by
 unfold inG at q
 cases hs : s.isStr with
 | true=>rw [hs] at q; cases q
 | false =>
  rw [hs,if_neg (by decide)] at q
  simp only [Option.bind_eq_some_iff,Option.map_eq_some_iff] at q
  obtain ⟨xs,hi,b,q,rfl⟩:=q
  obtain ⟨a,vs,rfl,rl,hh⟩:=r2.seq st hi hs
  unfold inD at q
  split at q
  ·rename_i hf
   simp only [Bool.and_eq_true] at hf
   cases q
   have e1:=inVD r1 hf.1 rl hf.2
   refine ⟨a,vs,rfl,hh.imp SqL.of TupF.sq,zZGV r1 hf.1,zZEc rl hf.2, ?_⟩
   rw [e1]
   exact k _ H F eta st.ok (Ext.refl _ _ _) (.bl _)
  ·cases q
theorem zZOt {fs : Env → Wd → R Src} (hm : behindInMarks .In pb = false) (ha : EOk B X pa fa) (hb : SOk B X pb fs) :
  EOk B X (.Compare pa [.In] [pb] pos) (fun e W=>(fa e W).bind fun x W=>(fs e W).bind fun s W=>opt (inG false W x s) W) :=
 zZEX ha hb (fun _ _ h1 h2=>pe_cmpR op_in_seq h1 h2 hm) (fun _ _ _ _ _ h=>h) fun e sg x s v u H F eta W Q z st r1 r2 q k=>zZGk st r1 r2 q k _
theorem zZKJ {fs : Env → Wd → R Src} (hm : behindInMarks .NotIn pb = false) (ha : EOk B X pa fa) (hb : SOk B X pb fs) :
  EOk B X (.Compare pa [.NotIn] [pb] pos) (fun e W=>(fa e W).bind fun x W=>(fs e W).bind fun s W=>opt (inG true W x s) W) :=
 zZEX ha hb (fun _ _ h1 h2=>pe_cmpR op_notIn_seq h1 h2 hm) (fun _ _ _ _ _ h=>h) fun e sg x s v u H F eta W Q z st r1 r2 q k=>zZGk st r1 r2 q k _
theorem zZJE {op : CmpOp} {neg : Bool} {fs : Env → Wd → R Src} (ho : OpR X (compareOp op) (rIn X.K neg)) (hm : behindInMarks op pb = false) (ha : EOk B X pa fa) (hb : SOk B X pb fs) :
  TOk B X (.Compare pa [op] [pb] pos) (tv (fun e W=>(fa e W).bind fun x W=>(fs e W).bind fun s W=>opt (inG neg W x s) W)):=by
 obtain ⟨ta,ha,ka⟩:=ha
 obtain ⟨tb,hb,kb⟩:=hb
 refine ⟨_,pt_cmpR ho ha hb hm,fun e W sg H F eta Q s k => ?_⟩
 refine ka e W sg H F eta _ s ?_
 unfold tv at k
 rw [R.bind_assoc,R.wp_bind] at k
 refine R.wp_mono k fun x W1 k v H1 F1 eta1 o1 x1 r1 => ?_
 rw [R.bind_assoc,R.wp_bind] at k
 refine kb e W1 sg H1 F1 eta1 _ (s.ext x1 o1) (R.wp_mono k fun y W2 k u H2 F2 eta2 o2 x2 r2 => ?_)
 rw [R.wp_bind] at k
 obtain ⟨z,q,k⟩:=zZB k
 refine zZGk (s.ext (Ext.trans s.ok o1 x1 x2) o2) (r1.mono x2.sub x2.pre) r2 q (fun w H' F' eta' o' x' rw' => ?_) _
 have hz : ∃ b,z = .bl b:=by
  unfold inG at q
  split at q
  ·cases q
  ·simp only [Option.bind_eq_some_iff,Option.map_eq_some_iff] at q
   obtain ⟨_,_,b,_,rfl⟩:=q
   exact ⟨_,rfl⟩
 obtain ⟨b,rfl⟩:=hz
 cases rw'
 exact ⟨b,rfl,k H' F' eta' o' (Ext.trans s.ok o1 x1 (Ext.trans o1 o2 x2 x'))⟩
end
end DL
set_option maxRecDepth 100000
set_option maxHeartbeats 4000000
namespace DL
open PySem PySem.Spec PyProof.Rows
open L2 hiding St
section
variable {B : Tb} {X : Cx} {py pa pb pc : Expr} {f fa fb fc fr : Env → Wd → R D} {rest es : List Expr} {pos : Pos}
variable {e : Env} {sg : L2.St} {F F' H H' : Hp} {eta eta' : List Addr} {W W' : Wd}
theorem zZNA {x : D} {v : V} {b : Bool} (o : OkH B F eta W H) (r1 : Rep B F eta x v) (q : truD x = some b) (K : PySem.W.Frag) : TruV K v H b:=by
 cases r1 with
 | non=>simp [truD] at q; exact q
 | bl c=>simp [truD] at q; exact q.symm
 | int i=>simp [truD] at q; rw [← q]; rfl
 | str _=>simp [truD] at q
 | tup h r =>
  have q:=Option.some.inj q
  refine .inr (.inl ⟨_,(h.mono o.sub).sq, ?_⟩)
  rw [← q]
  cases r <;> rfl
 | lst h r =>
  have q:=Option.some.inj q
  refine .inl ⟨_,SqL.of (o.sub _ _ h), ?_⟩
  rw [← q]
  cases r <;> rfl
 | ins h r=>simp [truD] at q
 | own h=>simp [truD] at q
 | ext h=>simp [truD] at q
 | tupz h r=>simp [truD] at q
 | dct h r=>simp [truD] at q
 | dtt h r=>simp [truD] at q
theorem zZLs (ha : EOk B X pa fa) : EOk B X (.UnaryOp .Not pa pos) (fun e W=>(fa e W).bind fun x W=>(opt (truD x) W).bind fun k W=>.ok (.bl (!k)) W):=by
 obtain ⟨ta,ha,ka⟩:=ha
 refine ⟨_,pe_notT ha,fun e W sg H F eta Q s k => ?_⟩
 refine ka e W sg H F eta _ s ?_
 rw [R.wp_bind] at k
 refine R.wp_mono k fun x W1 k v H1 F1 eta1 o1 x1 r1 => ?_
 rw [R.wp_bind] at k
 obtain ⟨b,q,k⟩:=zZB k
 exact ⟨b,zZNA o1 r1 q _,k _ H1 F1 eta1 o1 x1 (.bl _)⟩
def ObOk (B : Tb) (X : Cx) (py : Expr) (f : Env → Wd → R (Nat × List (Nat × D))) : Prop := ∃ t : TE,PE X py t ∧ ∀ (e : Env) (W : Wd) (sg : L2.St) (H F : Hp) (eta : List Addr) (Q : VK),Stt B e W sg H F eta →
 (f e W).wp B.xq (fun o W' => ∀ (a dx : Addr) (gs : List (Str × V)) (H' F' : Hp) (eta' : List Addr),OkH B F' eta' W' H' → Ext F eta H F' eta' H' → H' a = some (.ins (B.ca o.1) dx gs) → RepF B F' eta' o.2 gs → Q (.ref a) H') → t sg H Q
theorem zZL7 {i : Nat} {x : Str} (hN : X.N[i]? = some x) (hv : Vis X.env.scope x) (hd : (x == ("__debug__" : Str)) = false) (hc : (x == ("__classdict__" : Str)) = false) (g : Cfg) :
  ObOk B X (.Name x pos) (objOf (.var i) (evE g (.var i))):=by
 refine ⟨_,pe_var hN hv hd hc,fun e W sg H F eta Q s k => ?_⟩
 unfold objOf at k
 simp only [] at k
 split at k
 ·rename_i c fs q
  obtain ⟨a,dx,gs,h1,h2,h3,_⟩:=s.sl i _ q
  exact ⟨_,h1,k a dx gs H F eta s.ok (Ext.refl _ _ _) h2 h3⟩
 ·rename_i c fs q
  obtain ⟨v,h1,h2⟩:=s.sl i _ q
  cases h2 with
  | ins h r=>exact ⟨_,h1,k _ _ _ H F eta s.ok (Ext.refl _ _ _) (s.ok.sub _ _ h) r⟩
 ·rename_i n q
  obtain ⟨v,h1,h2⟩:=s.sl i _ q
  cases h2 with
  | own h =>
   split at k
   ·rename_i c fs hw
    obtain ⟨dx,gs,q1,q2⟩:=s.ok.cell n _ _ h hw
    exact ⟨_,h1,k _ dx gs H F eta s.ok (Ext.refl _ _ _) q1 q2⟩
   ·exact k.elim
 ·exact k.elim
theorem zZNx (ha : EOk B X pa fa) : ObOk B X pa (fun e W=>(fa e W).bind fun d W =>
  match d with
  | .ins c fs=>.ok (c,fs) W
  | .own n=>(match W[n]? with | some (.ins c fs)=>.ok (c,fs) W | _=>.st)
  | _=>.st):=by
 obtain ⟨ta,ha,ka⟩:=ha
 refine ⟨_,ha,fun e W sg H F eta Q s k => ?_⟩
 refine ka e W sg H F eta _ s ?_
 rw [R.wp_bind] at k
 refine R.wp_mono k fun x W1 k v H1 F1 eta1 o1 x1 r1 => ?_
 cases r1 with
 | ins h r=>exact k _ _ _ H1 F1 eta1 o1 x1 (o1.sub _ _ h) r
 | own h =>
  simp only [] at k
  split at k
  ·rename_i c fs hw
   obtain ⟨dx,gs,q1,q2⟩:=o1.cell _ _ _ h hw
   exact k _ dx gs H1 F1 eta1 o1 x1 q1 q2
  ·exact k.elim
 | _=>exact k.elim
/-- the fields that a class has -/
def FldOk (B : Tb0) (K : PySem.W.Frag) (g : Cfg) : Prop := ∀ c f,g.fld c f = true → f < B.nA ∧ Cls K (B.ca c) ∧ NoAttr K (B.ca c) (B.fn f)
theorem zZNZ {g : Cfg} {nm : Str} {f : Nat} {fo : Env → Wd → R (Nat × List (Nat × D))} (hf : FldOk B X.K g) (hn : B.fn f = nm) (hb : attributeBase pa nm X.env (eval pa X.env) = eval pa X.env) (ha : ObOk B X pa fo) :
  EOk B X (.Attribute pa nm pos) (fun e W=>(fo e W).bind fun o W=>opt (fldD g f o) W):=by
 subst hn
 obtain ⟨ta,ha,ka⟩:=ha
 refine ⟨_,pe_fld ha hb,fun e W sg H F eta Q s k => ?_⟩
 refine ka e W sg H F eta _ s ?_
 rw [R.wp_bind] at k
 refine R.wp_mono k fun o W1 k a dx gs H1 F1 eta1 o1 x1 h1 r1 => ?_
 obtain ⟨z,q,k⟩:=zZB k
 unfold fldD at q
 split at q
 ·rename_i hg
  obtain ⟨f1,f2,f3⟩:=hf _ _ hg
  obtain ⟨y,y1,y2⟩:=r1.lookup f1 q
  exact ⟨a,_,dx,gs,y,rfl,h1,f2,f3,y1,k y H1 F1 eta1 o1 x1 y2⟩
 ·cases q
def notStar : Expr → Bool
 | .Starred _ _=>false | _=>true
theorem star1 {a : Expr} (h : notStar a = true) (es : List Expr) (env : PySem.Env) : starEach (a :: es) env = (false,eval a env) :: starEach es env:=by
 cases a <;> first | rfl | cases h
theorem starS (a : Expr) (p : Pos) (es : List Expr) (env : PySem.Env) : starEach (.Starred a p :: es) env = (true,eval a env) :: starEach es env:=rfl
theorem xZm : ∀ {es : List Expr} (env : PySem.Env) (pos : Pos),es.all notStar = true → (backTo pos (starEach es env)).any (·.1) = false
 | [],_,_,_=>rfl
 | a :: es,env,pos,h=>by
  simp only [List.all_cons,Bool.and_eq_true] at h
  rw [star1 h.1]
  have:=xZm (es:=es) env pos h.2
  unfold backTo at this ⊢
  simpa using this
theorem zZGr : ∀ {es : List Expr} (env : PySem.Env) (pos : Pos),es.all notStar = false → (backTo pos (starEach es env)).any (·.1) = true
 | [],_,_,h=>by simp at h
 | a :: es,env,pos,h=>by
  cases ha : notStar a with
  | true =>
   have h2 : es.all notStar = false:=by simpa [ha] using h
   rw [star1 ha]
   have:=zZGr (es:=es) env pos h2
   unfold backTo at this ⊢
   simpa using this
  | false =>
   cases a with
   | Starred v p=>rw [starS]; unfold backTo; simp
   | _=>cases ha
theorem zZNa : AOk B X [] (fun _ W=>.ok [] W):=⟨_,pa_nil,fun e W sg H F eta Q s k=>k [] H F eta s.ok (Ext.refl _ _ _) .nil⟩
theorem zZML {fs : Env → Wd → R (List D)} (hn : notStar pa = true) (ha : EOk B X pa fa) (hs : AOk B X es fs) :
  AOk B X (pa :: es) (fun e W=>(fa e W).bind fun x W=>(fs e W).bind fun xs W=>.ok (x :: xs) W):=by
 obtain ⟨ta,ha,ka⟩:=ha
 obtain ⟨tb,hb,kb⟩:=hs
 refine ⟨_,pa_cons ha hb (star1 hn _ _),fun e W sg H F eta Q s k => ?_⟩
 refine ka e W sg H F eta _ s ?_
 rw [R.wp_bind] at k
 refine R.wp_mono k fun x W1 k v H1 F1 eta1 o1 x1 r1 => ?_
 rw [R.wp_bind] at k
 refine kb e W1 sg H1 F1 eta1 _ (s.ext x1 o1) (R.wp_mono k fun y W2 k u H2 F2 eta2 o2 x2 r2 => ?_)
 exact k _ H2 F2 eta2 o2 (Ext.trans s.ok o1 x1 x2) (.cons (r1.mono x2.sub x2.pre) r2)
def starF (fa : Env → Wd → R D) (fs : Env → Wd → R (List D)) : Env → Wd → R (List D):=fun e W=>(fa e W).bind fun x W =>
  match x with
  | .tup ys=>(fs e W).bind fun xs W=>.ok (ys ++ xs) W
  | .lst ys=>(fs e W).bind fun xs W=>.ok (ys ++ xs) W
  | _=>.st
theorem zZLg {fs : Env → Wd → R (List D)} {p : Pos} (ha : EOk B X pa fa) (hs : AOk B X es fs) : AOk B X (.Starred pa p :: es) (starF fa fs):=by
 obtain ⟨ta,ha,ka⟩:=ha
 obtain ⟨tb,hb,kb⟩:=hs
 refine ⟨_,StX.pa_star ha hb,fun e W sg H F eta Q s k => ?_⟩
 refine ka e W sg H F eta _ s ?_
 unfold starF at k
 rw [R.wp_bind] at k
 refine R.wp_mono k fun x W1 k v H1 F1 eta1 o1 x1 r1 => ?_
 cases r1 with
 | tup h r =>
  simp only [] at k
  rw [R.wp_bind] at k
  refine ⟨_,_,rfl,.inl (h.mono o1.sub).sq, ?_⟩
  refine kb e W1 sg H1 F1 eta1 _ (s.ext x1 o1) (R.wp_mono k fun y W2 k u H2 F2 eta2 o2 x2 r2 => ?_)
  exact k _ H2 F2 eta2 o2 (Ext.trans s.ok o1 x1 x2) ((r.mono x2.sub x2.pre).append r2)
 | lst h r =>
  simp only [] at k
  rw [R.wp_bind] at k
  refine ⟨_,_,rfl,.inr (SqL.of (o1.sub _ _ h)), ?_⟩
  refine kb e W1 sg H1 F1 eta1 _ (s.ext x1 o1) (R.wp_mono k fun y W2 k u H2 F2 eta2 o2 x2 r2 => ?_)
  exact k _ H2 F2 eta2 o2 (Ext.trans s.ok o1 x1 x2) ((r.mono x2.sub x2.pre).append r2)
 | _=>exact k.elim
theorem zZMr {fs : Env → Wd → R (List D)} {x1 : Nat} (hs : AOk B X es fs) : EOk B X (.Tuple es x1 pos) (fun e W=>(fs e W).bind fun xs W=>if xs.length ≤ cap then .ok (.tup xs) W else .st):=by
 obtain ⟨tb,hb,kb⟩:=hs
 refine ⟨_,zZMs hb,fun e W sg H F eta Q s k => ?_⟩
 refine kb e W sg H F eta _ s ?_
 rw [R.wp_bind] at k
 refine R.wp_mono k fun xs W1 k vs H1 F1 eta1 o1 x1 r1 => ?_
 split at k
 ·rename_i hl
  refine ⟨by rw [← r1.length]; exact Nat.le_trans hl zZc,fun p ob hob hp => ?_⟩
  have s1:=zZ8 (u:=HO.frz ob (.tup vs)) (o1.notF hp)
  exact k _ _ _ eta1 (o1.newF hp) (Ext.trans s.ok o1 x1 (Ext.newFz o1 hp)) (.tup (.new hob) (r1.mono s1 (List.prefix_refl _)))
 ·exact k.elim
theorem zZLZ {fs : Env → Wd → R (List D)} (hs : AOk B X es fs) : FOk B X (.List es pos) (fun e W=>(fs e W).bind fun xs W=>if xs.length ≤ cap then .ok xs W else .st):=by
 obtain ⟨tb,hb,kb⟩:=hs
 refine ⟨_,pe_lst hb,fun e W sg H F eta Q s k => ?_⟩
 refine kb e W sg H F eta _ s ?_
 rw [R.wp_bind] at k
 refine R.wp_mono k fun xs W1 k vs H1 F1 eta1 o1 x1 r1 => ?_
 split at k
 ·rename_i hl
  refine ⟨by rw [← r1.length]; exact Nat.le_trans hl zZc,fun p hp => ?_⟩
  exact k p vs _ F1 eta1 (o1.new hp) (Ext.trans s.ok o1 x1 (Ext.new hp)) (x1.there s.ok o1 hp) upd_same (o1.notF hp) (o1.notE hp) r1
 ·exact k.elim
/-- a new list is frozen,becomes a cell -/
theorem zZNU {fs : Env → Wd → R (List D)} (hs : FOk B X py fs) : EOk B X py (fun e W=>(fs e W).bind fun xs W=>.ok (.lst xs) W):=by
 obtain ⟨tb,hb,kb⟩:=hs
 refine ⟨_,hb,fun e W sg H F eta Q s k => ?_⟩
 refine kb e W sg H F eta _ s ?_
 rw [R.wp_bind] at k
 refine R.wp_mono k fun xs W1 k a vs H1 F1 eta1 o1 x1 h0 h1 h2 h3 r1 => ?_
 have s1:=zZ8 (u:=HO.lst vs) h2
 refine k (.ref a) H1 (upd F1 a (.lst vs)) eta1 (o1.frz h1 h2 h3) ⟨x1.sub.trans s1,x1.pre,x1.keep,fun b hb => ?_,x1.newE⟩ (.lst upd_same (r1.mono s1 (List.prefix_refl _)))
 by_cases e : b = a
 ·subst e; exact .inr h0
 ·rw [upd_ne e] at hb; exact x1.newF b hb
theorem zZL4 {fs : Env → Wd → R (List D)} (hs : FOk B X py fs) : EOk B X py (fun e W=>(fs e W).bind fun xs W=>newCell (.lst xs) W):=by
 obtain ⟨tb,hb,kb⟩:=hs
 refine ⟨_,hb,fun e W sg H F eta Q s k => ?_⟩
 refine kb e W sg H F eta _ s ?_
 rw [R.wp_bind] at k
 refine R.wp_mono k fun xs W1 k a vs H1 F1 eta1 o1 x1 h0 h1 h2 h3 r1 => ?_
 have o2 : OkH B F1 (eta1 ++ [a]) (W1 ++ [.lst xs]) H1:=o1.toCell h2 h3 ⟨vs,h1,r1.mono (SubH.refl _) (List.prefix_append _ _)⟩
 refine k (.ref a) H1 F1 (eta1 ++ [a]) o2 ⟨x1.sub,x1.pre.trans (List.prefix_append _ _),x1.keep,x1.newF,fun b hb => ?_⟩ (.own ?_)
 ·rcases List.mem_append.mp hb with hb | hb
  ·exact x1.newE b hb
  ·rw [List.mem_singleton.mp hb]; exact .inr h0
 ·rw [← o1.len]; simp
theorem zZL6 : OOk B X none (fun _ W=>.ok none W):=⟨_,po_none,fun e W sg H F eta Q s k=>k H F eta s.ok (Ext.refl _ _ _)⟩
theorem zZLc (ha : EOk B X pa fa) : OOk B X (some pa) (fun e W=>(fa e W).bind fun x W=>match x with | .int i=>.ok (some i) W | _=>.st):=by
 obtain ⟨ta,ha,ka⟩:=ha
 refine ⟨_,po_some ha,fun e W sg H F eta Q s k => ?_⟩
 refine ka e W sg H F eta _ s ?_
 rw [R.wp_bind] at k
 refine R.wp_mono k fun x W1 k v H1 F1 eta1 o1 x1 r1 => ?_
 cases r1 with
 | int i=>exact ⟨i,rfl,k H1 F1 eta1 o1 x1⟩
 | _=>exact k.elim
theorem RepL.cut {ds : List D} {vs : List V} (r : RepL B F eta ds vs) (lo hi : Option Int) : RepL B F eta (cutD ds lo hi) (cutV vs lo hi):=by
 unfold cutD cutV
 rw [← r.length]
 exact (r.drop _).take _
theorem zZKP {xs : List D} {lo hi : Option Int} (h1 : HT.sIx xs.length 0 lo = 0) (h2 : HT.sIx xs.length xs.length hi = xs.length) : cutD xs lo hi = xs:=by
 unfold cutD
 rw [h1,h2]
 simp
def slF (fa : Env → Wd → R D) (fl fh : Env → Wd → R (Option Int)) : Env → Wd → R D:=fun e W=>(fa e W).bind fun x W=>(fl e W).bind fun l W=>(fh e W).bind fun h W =>
  match x with
  | .tup xs=>.ok (.tup (cutD xs l h)) W
  | .lst xs=>.ok (.lst (cutD xs l h)) W
  | .own n=>(match W[n]? with | some (.lst xs)=>.ok (.lst (cutD xs l h)) W | _=>.st)
  | _=>.st
theorem zZOI {lo hi : Option Expr} {p2 : Pos} {fl fh : Env → Wd → R (Option Int)} (ha : EOk B X pa fa) (hl : OOk B X lo fl) (hh : OOk B X hi fh) :
  EOk B X (.Subscript pa (.Slice lo hi none p2) pos) (slF fa fl fh):=by
 obtain ⟨ta,ha,ka⟩:=ha
 obtain ⟨tl,hl,kl⟩:=hl
 obtain ⟨th,hh,kh⟩:=hh
 refine ⟨_,pe_slice (sl_tupB.or sl_list) ha hl hh,fun e W sg H F eta Q s k => ?_⟩
 refine ka e W sg H F eta _ s ?_
 unfold slF at k
 rw [R.wp_bind] at k
 refine R.wp_mono k fun x W1 k v H1 F1 eta1 o1 x1 r1 => ?_
 rw [R.wp_bind] at k
 refine kl e W1 sg H1 F1 eta1 _ (s.ext x1 o1) (R.wp_mono k fun l W2 k H2 F2 eta2 o2 x2 => ?_)
 rw [R.wp_bind] at k
 have y2:=Ext.trans s.ok o1 x1 x2
 refine kh e W2 sg H2 F2 eta2 _ (s.ext y2 o2) (R.wp_mono k fun h W3 k H3 F3 eta3 o3 x3 => ?_)
 have y3:=Ext.trans s.ok o2 y2 x3
 have r3:=r1.mono (x2.sub.trans x3.sub) (x2.pre.trans x3.pre)
 cases r3 with
 | tup q r =>
  simp only [] at k
  refine .inl ⟨_,_,rfl,(q.mono o3.sub).sq,fun hw => ?_,fun hw p ob hob hp => ?_⟩
  ·have e : cutD _ l h = _:=zZKP (by rw [r.length]; exact hw.1) (by rw [r.length]; exact hw.2)
   rw [e] at k
   exact k _ H3 F3 eta3 o3 y3 (.tup q r)
  ·have s1:=fun u=>zZ8 (u:=u) (o3.notF hp)
   exact k _ _ _ eta3 (o3.newF hp) (Ext.trans s.ok o3 y3 (Ext.newFz o3 hp)) (.tup (.new hob) ((r.cut l h).mono (s1 _) (List.prefix_refl _)))
 | lst q r =>
  simp only [] at k
  refine .inr ⟨_,_,rfl,SqL.of (o3.sub _ _ q),fun p hp => ?_⟩
  have s1:=fun u=>zZ8 (u:=u) (o3.notF hp)
  exact k _ _ _ eta3 (o3.newF hp) (Ext.trans s.ok o3 y3 (Ext.newFz o3 hp)) (.lst upd_same ((r.cut l h).mono (s1 _) (List.prefix_refl _)))
 | own q =>
  simp only [] at k
  split at k
  ·rename_i ys hw
   obtain ⟨vs,q1,q2⟩:=o3.cell _ _ _ q hw
   refine .inr ⟨_,_,rfl,SqL.of q1,fun p hp => ?_⟩
   have s1:=fun u=>zZ8 (u:=u) (o3.notF hp)
   exact k _ _ _ eta3 (o3.newF hp) (Ext.trans s.ok o3 y3 (Ext.newFz o3 hp)) (.lst upd_same ((q2.cut l h).mono (s1 _) (List.prefix_refl _)))
  ·exact k.elim
 | _=>exact k.elim
theorem SrcRep.lst {s : Src} {v : V} {xs : List D} (st : Stt B e W sg H F eta) (h : SrcRep B e sg F eta s v) (hi : items W s = some xs) (hs : s.isStr = false) (ht : s.isTup = false) :
  ∃ a vs,v = .ref a ∧ RepL B F eta xs vs ∧ H a = some (.lst vs):=by
 cases s with
 | frz ys d =>
  simp [items] at hi
  subst hi
  obtain ⟨r,hd⟩:=h
  rcases hd with rfl | rfl
  ·cases r with
   | lst h r=>exact ⟨_,_,rfl,r,st.ok.sub _ _ h⟩
  ·cases ht
 | slot i ys =>
  simp [items] at hi
  subst hi
  obtain ⟨h1,h2⟩:=h
  obtain ⟨a,vs,q1,q2,q3,_,_⟩:=st.sl i _ h1
  rw [q1] at h2
  cases h2
  exact ⟨a,vs,rfl,q3,q2⟩
 | cell n =>
  obtain ⟨a,h1,rfl⟩:=h
  simp only [items] at hi
  split at hi
  ·rename_i ys hw
   cases hi
   obtain ⟨vs,q1,q2⟩:=st.ok.cell n a _ h1 hw
   exact ⟨a,vs,rfl,q2,q1⟩
  ·cases hi
 | str z=>cases hs
def slFF (fs : Env → Wd → R Src) (fl fh : Env → Wd → R (Option Int)) : Env → Wd → R (List D):=fun e W=>(fs e W).bind fun s W=>(fl e W).bind fun l W=>(fh e W).bind fun h W =>
  if s.isStr || s.isTup then .st else opt ((items W s).map fun xs=>cutD xs l h) W
theorem zZN7 {lo hi : Option Expr} {p2 : Pos} {fs : Env → Wd → R Src} {fl fh : Env → Wd → R (Option Int)} (ha : SOk B X pa fs) (hl : OOk B X lo fl) (hh : OOk B X hi fh) :
  FOk B X (.Subscript pa (.Slice lo hi none p2) pos) (slFF fs fl fh):=by
 obtain ⟨ta,ha,ka⟩:=ha
 obtain ⟨tl,hl,kl⟩:=hl
 obtain ⟨th,hh,kh⟩:=hh
 refine ⟨_,pe_slice sl_list ha hl hh,fun e W sg H F eta Q s k => ?_⟩
 refine ka e W sg H F eta _ s ?_
 unfold slFF at k
 rw [R.wp_bind] at k
 refine R.wp_mono k fun x W1 k v H1 F1 eta1 o1 x1 r1 => ?_
 rw [R.wp_bind] at k
 refine kl e W1 sg H1 F1 eta1 _ (s.ext x1 o1) (R.wp_mono k fun l W2 k H2 F2 eta2 o2 x2 => ?_)
 rw [R.wp_bind] at k
 have y2:=Ext.trans s.ok o1 x1 x2
 refine kh e W2 sg H2 F2 eta2 _ (s.ext y2 o2) (R.wp_mono k fun h W3 k H3 F3 eta3 o3 x3 => ?_)
 have y3:=Ext.trans s.ok o2 y2 x3
 split at k
 ·exact k.elim
 ·rename_i hc
  simp only [Bool.or_eq_true,not_or,Bool.not_eq_true] at hc
  obtain ⟨z,q,k⟩:=zZB k
  simp only [Option.map_eq_some_iff] at q
  obtain ⟨xs,hi,rfl⟩:=q
  obtain ⟨a,vs,rfl,rl,hl⟩:=((r1.ext x2).ext x3).lst (s.ext y3 o3) hi hc.1 hc.2
  refine ⟨a,vs,rfl,SqL.of hl,fun p hp => ?_⟩
  exact k p _ _ F3 eta3 (o3.new hp) (Ext.trans s.ok o3 y3 (Ext.new hp)) (y3.there s.ok o3 hp) upd_same (o3.notF hp) (o3.notE hp) (rl.cut l h)
def addF (fs fs2 : Env → Wd → R Src) : Env → Wd → R (List D):=fun e W=>(fs e W).bind fun s W=>(fs2 e W).bind fun s2 W=>if (s.isStr || s.isTup) || (s2.isStr || s2.isTup) then .st else (opt (items W s) W).bind fun xs W=>(opt (items W s2) W).bind fun ys W=>if xs.length + ys.length ≤ cap then .ok (xs ++ ys) W else .st
theorem zZM6 {fs fs2 : Env → Wd → R Src} (ha : SOk B X pa fs) (hb : SOk B X pb fs2) : FOk B X (.BinOp pa .Add pb pos) (addF fs fs2):=by
 obtain ⟨ta,ha,ka⟩:=ha
 obtain ⟨tb,hb,kb⟩:=hb
 refine ⟨_,pe_op op_cat ha hb,fun e W sg H F eta Q s k => ?_⟩
 refine ka e W sg H F eta _ s ?_
 unfold addF at k
 rw [R.wp_bind] at k
 refine R.wp_mono k fun z1 W1 k v H1 F1 eta1 o1 x1 r1 => ?_
 rw [R.wp_bind] at k
 refine kb e W1 sg H1 F1 eta1 _ (s.ext x1 o1) (R.wp_mono k fun z2 W2 k u H2 F2 eta2 o2 x2 r2 => ?_)
 have y2:=Ext.trans s.ok o1 x1 x2
 have st2:=s.ext y2 o2
 split at k
 ·exact k.elim
 ·rename_i hc
  simp only [Bool.or_eq_true,not_or,Bool.not_eq_true] at hc
  rw [R.wp_bind] at k
  obtain ⟨xs,hi,k⟩:=zZB k
  rw [R.wp_bind] at k
  obtain ⟨ys,hj,k⟩:=zZB k
  split at k
  ·rename_i hl
   obtain ⟨a,vs,rfl,rl,g1⟩:=(r1.ext x2).lst st2 hi hc.1.1 hc.1.2
   obtain ⟨b,us,rfl,rl2,g2⟩:=r2.lst st2 hj hc.2.1 hc.2.2
   refine ⟨a,b,vs,us,rfl,rfl,g1,g2,by rw [← rl.length,← rl2.length]; exact Nat.le_trans hl zZc,fun p hp => ?_⟩
   exact k p _ _ F2 eta2 (o2.new hp) (Ext.trans s.ok o2 y2 (Ext.new hp)) (y2.there s.ok o2 hp) upd_same (o2.notF hp) (o2.notE hp) (rl.append rl2)
  ·exact k.elim
end
end DL
set_option maxRecDepth 100000
set_option maxHeartbeats 4000000
namespace DL
open PySem PySem.Spec PyProof.Rows
open L2 hiding St
section
variable {X : Cx}
/-- sum of a tuple of ints -/
theorem zZLu {prog : Program} {w : World} {A : Around} {E : Value → Shared → Prop} {s : Shared} {l : Addr} {its : List Value} {ns : List Int} {Q : Value → Shared → Prop} (hh : A.handled = none) (hl : s.heap.IsTuple l its.toArray) (hi : IntsAre its ns)
  (h : ∀ h' tk t',(∀ b o,s.heap.get? b = some o → h'.get? b = some o) → Q (.int ns.sum t') { s with heap:=h',toks:=tk }) : wpAny (model prog w) A (PySem.call (.builtin "sum") [.ref l]) Q E s:=by
 obtain ⟨xs,e⟩:=hi.allInts.items
 have hn : numsOf (intItems xs).toList = ns:=by rw [← e]; exact hi.numsOf
 rw [nums_intItems] at hn
 rw [e] at hl
 refine PySem.W.ktm_sumG hh hl fun h' tk t' hk => ?_
 have:=h h' tk t' hk
 rw [preSum_eq,List.take_of_length_le (by simp),hn]; exact this
def rSumA (K : PySem.W.Frag) : List V → Hp → VK → Prop:=fun vs H Q => ∃ (a : Addr) (ns : List Int),vs = [V.ref a] ∧ (SqL K H a (ns.map V.int) ∨ SqT K H a (ns.map V.int)) ∧ Q (.int ns.sum) H
theorem zZNX (hc : X.calm = true) : CallR X (.builtin "sum") (rSumA X.K):=by
 intro pins s σ H vs us Q I r h
 obtain ⟨a,ns,rfl,hs,q⟩:=h
 rcases hs with hs | hs
 ·exact cr_sum hc pins s σ H _ us Q I r ⟨a,ns,rfl,hs,q⟩
 ·obtain ⟨its,rv,hl,_⟩:=I.tuple hs
  rw [Vals.ref1 r]
  exact zZLu (I.ok.hd hc) hl rv.ints fun h' tk t' hk=>⟨.int _,H,I.kept hk,⟨_,rfl⟩,q⟩
/-- the truth of flat things -/
def truV : V → Option Bool
 | .non=>some false | .bl b=>some b | .int i=>some (i != 0) | _=>none
theorem zZAO {prog : Program} {w : World} {A : Around} {vs : List V} {its : List Value} {bs : List Bool} (r : Vals vs its) (hb : vs.map truV = bs.map some) :
  TruthOf prog w A (fun i v=>its.toArray[i]? = some v) (fun i=>bs.getD i false):=fun i v s Q E hv hq=>by
 have hv' : its[i]? = some v:=by simpa using hv
 have hi : i < vs.length:=by rw [r.length]; exact (List.getElem?_eq_some_iff.mp hv').1
 obtain ⟨u,hu,ru⟩:=r.get (i:=i) (x:=vs[i]) (by simp [hi])
 rw [hv'] at hu
 cases hu
 have e : truV vs[i] = some (bs.getD i false):=by
  have:=congrArg (fun l=>l[i]?) hb
  simp only [List.getElem?_map] at this
  rw [List.getElem?_eq_getElem hi] at this
  cases q : bs[i]? with
  | none=>rw [q] at this; simp at this
  | some b=>rw [q] at this; simp at this; rw [this,List.getD_eq_getElem?_getD,q]; rfl
 cases hx : vs[i] with
 | non =>
  rw [hx] at e ru
  cases ru
  have e2:=Option.some.inj e
  have hq' : Q (bs.getD i false) s:=hq
  rw [← e2] at hq'
  exact truthy_none hq'
 | bl b =>
  rw [hx] at e ru
  cases ru
  have e2:=Option.some.inj e
  have hq' : Q (bs.getD i false) s:=hq
  rw [← e2] at hq'
  exact wpAny_truthy_bool hq'
 | int k =>
  rw [hx] at e ru
  obtain ⟨t,rfl⟩:=ru
  have e2:=Option.some.inj e
  have hq' : Q (bs.getD i false) s:=hq
  rw [← e2] at hq'
  exact truthy_int hq'
 | _=>rw [hx] at e; simp [truV] at e
def rAnyA (K : PySem.W.Frag) : List V → Hp → VK → Prop:=fun vs H Q => ∃ (a : Addr) (xs : List V) (bs : List Bool),vs = [V.ref a] ∧ (SqL K H a xs ∨ SqT K H a xs) ∧ xs.map truV = bs.map some ∧ Q (.bl (bs.any id)) H
def rAllA (K : PySem.W.Frag) : List V → Hp → VK → Prop:=fun vs H Q => ∃ (a : Addr) (xs : List V) (bs : List Bool),vs = [V.ref a] ∧ (SqL K H a xs ∨ SqT K H a xs) ∧ xs.map truV = bs.map some ∧ Q (.bl (bs.all id)) H
theorem zZGp {prog : Program} {w : World} {A : Around} {E : Value → Shared → Prop} {s : Shared} {l : Addr} {items : Array Value} {Q : Value → Shared → Prop} (hl : s.heap.IsTuple l items)
  (h : ∀ s₂ : Shared,s₂ = { s with heap:=s.heap.push { cls:=.type "tuple_iterator",data:=.fields #[.ref l,.int 0 0] } } →
   (s₂.heap.IsTupleIter s.heap.objs.size l 0 ∧ s₂.heap.IsTuple l items) → l ≠ s.heap.objs.size → Q (.ref s.heap.objs.size) s₂) : wpAny (model prog w) A (pyIter (.ref l)) Q E s:=by
 have hlt : l < s.heap.objs.size:=by obtain ⟨_,e,_⟩:=hl; exact Heap.lt_size e
 exact wpAny_pyIter_tuple hl (h _ rfl ⟨⟨_,Heap.get?_push_size _ rfl,rfl,rfl⟩,hl.at fun o e=>Heap.get?_push_of_some _ e⟩ (Nat.ne_of_lt hlt))
theorem zZNK (hc : X.calm = true) : CallR X (.builtin "any") (rAnyA X.K):=by
 intro pins s σ H vs us Q I r h
 obtain ⟨a,xs,bs,rfl,hs,hb,q⟩:=h
 rw [Vals.ref1 r]
 have hlen : xs.length = bs.length:=by simpa using congrArg List.length hb
 rcases hs with hs | hs
 ·obtain ⟨its,rv,hl,_⟩:=I.list hs
  refine call_any_walk (iter_any hl.isList fun s₂ e2 st hne => ?_)
  subst e2
  refine ⟨_,_,_,_,_,_,_,rfl,Walks.list (A:=X.A.in1) (I.ok.hd hc) _ a hne its.toArray,st,zZAO rv hb,fun h' tk hk => ?_⟩
  refine ⟨.bl _,H,I.kept fun b o eo=>hk b o (fun hmem => ?_) (Heap.get?_push_of_some _ eo), ?_,q⟩
  ·rcases List.mem_cons.mp hmem with e1 | hmem
   ·exact absurd (e1 ▸ Heap.lt_size eo) (Nat.lt_irrefl _)
   ·cases hmem
  ·show Value.bool _ = Value.bool _
   rw [← L2.any_range,List.size_toArray,← rv.length,hlen]
 ·obtain ⟨its,rv,hl,_⟩:=I.tuple hs
  refine call_any_walk (zZGp hl fun s₂ e2 st hne => ?_)
  subst e2
  refine ⟨_,_,_,_,_,_,_,rfl,Walks.tuple (A:=X.A.in1) (I.ok.hd hc) _ a hne its.toArray,st,zZAO rv hb,fun h' tk hk => ?_⟩
  refine ⟨.bl _,H,I.kept fun b o eo=>hk b o (fun hmem => ?_) (Heap.get?_push_of_some _ eo), ?_,q⟩
  ·rcases List.mem_cons.mp hmem with e1 | hmem
   ·exact absurd (e1 ▸ Heap.lt_size eo) (Nat.lt_irrefl _)
   ·cases hmem
  ·show Value.bool _ = Value.bool _
   rw [← L2.any_range,List.size_toArray,← rv.length,hlen]
theorem zZNQ (hc : X.calm = true) : CallR X (.builtin "all") (rAllA X.K):=by
 intro pins s σ H vs us Q I r h
 obtain ⟨a,xs,bs,rfl,hs,hb,q⟩:=h
 rw [Vals.ref1 r]
 have hlen : xs.length = bs.length:=by simpa using congrArg List.length hb
 rcases hs with hs | hs
 ·obtain ⟨its,rv,hl,_⟩:=I.list hs
  refine call_all_walk (iter_any hl.isList fun s₂ e2 st hne => ?_)
  subst e2
  refine ⟨_,_,_,_,_,_,_,rfl,Walks.list (A:=X.A.in1) (I.ok.hd hc) _ a hne its.toArray,st,zZAO rv hb,fun h' tk hk => ?_⟩
  refine ⟨.bl _,H,I.kept fun b o eo=>hk b o (fun hmem => ?_) (Heap.get?_push_of_some _ eo), ?_,q⟩
  ·rcases List.mem_cons.mp hmem with e1 | hmem
   ·exact absurd (e1 ▸ Heap.lt_size eo) (Nat.lt_irrefl _)
   ·cases hmem
  ·show Value.bool _ = Value.bool _
   rw [← L2.all_range,List.size_toArray,← rv.length,hlen]
 ·obtain ⟨its,rv,hl,_⟩:=I.tuple hs
  refine call_all_walk (zZGp hl fun s₂ e2 st hne => ?_)
  subst e2
  refine ⟨_,_,_,_,_,_,_,rfl,Walks.tuple (A:=X.A.in1) (I.ok.hd hc) _ a hne its.toArray,st,zZAO rv hb,fun h' tk hk => ?_⟩
  refine ⟨.bl _,H,I.kept fun b o eo=>hk b o (fun hmem => ?_) (Heap.get?_push_of_some _ eo), ?_,q⟩
  ·rcases List.mem_cons.mp hmem with e1 | hmem
   ·exact absurd (e1 ▸ Heap.lt_size eo) (Nat.lt_irrefl _)
   ·cases hmem
  ·show Value.bool _ = Value.bool _
   rw [← L2.all_range,List.size_toArray,← rv.length,hlen]
end
section
variable {B : Tb} {X : Cx} {py pa pb pc : Expr} {f fa fb fc fr : Env → Wd → R D} {rest es : List Expr} {pos p : Pos}
variable {e : Env} {sg : L2.St} {F F' H H' : Hp} {eta eta' : List Addr} {W W' : Wd}
theorem RepL.ints : ∀ {ds : List D} {vs : List V} {l : List Int},RepL B F eta ds vs → intsD ds = some l → vs = l.map V.int
 | _,_,l,.nil,h=>by simp [intsD] at h; subst h; rfl
 | _,_,l,.cons r t,h=>by
  cases r <;> simp [intsD] at h
  obtain ⟨l',h1,rfl⟩:=h
  rw [RepL.ints t h1]; rfl
theorem RepL.trus : ∀ {ds : List D} {vs : List V} {l : List Bool},RepL B F eta ds vs → boolsD ds = some l → vs.map truV = l.map some
 | _,_,l,.nil,h=>by simp [boolsD] at h; subst h; rfl
 | _,_,l,.cons (d:=d) r t,h=>by
  unfold boolsD at h
  split at h
  ·rename_i a b h1 h2
   cases h
   rw [List.map_cons,List.map_cons,RepL.trus t h2]
   congr 1
   cases r <;> simp [truFl] at h1 <;> simp [truV,h1]
  ·cases h
theorem zZHb : ∀ (l : List Int) (m : Int),maxI m l ∈ m :: l ∧ (∀ y ∈ m :: l,y ≤ maxI m l)
 | [],m=>by simp [maxI]
 | x :: r,m=>by
  unfold maxI
  have hz : ∀ z,(if m < x then x else m) = z → (m ≤ z ∧ x ≤ z) ∧ (z = m ∨ z = x):=fun z h=>by
   split at h <;> omega
  generalize hq : (if m < x then x else m) = z
  obtain ⟨⟨q1,q2⟩,q3⟩:=hz z hq
  obtain ⟨h1,h2⟩:=zZHb r z
  have h3:=h2 z List.mem_cons_self
  refine ⟨?_,fun y hy => ?_⟩
  ·rcases List.mem_cons.mp h1 with h | h
   ·rw [h]; rcases q3 with e | e <;> simp [e]
   ·simp [h]
  ·rcases List.mem_cons.mp hy with e | hy
   ·omega
   ·rcases List.mem_cons.mp hy with e | hy
    ·omega
    ·exact h2 y (List.mem_cons_of_mem _ hy)
theorem zZHg : ∀ (l : List Int) (m : Int),minI m l ∈ m :: l ∧ (∀ y ∈ m :: l,minI m l ≤ y)
 | [],m=>by simp [minI]
 | x :: r,m=>by
  unfold minI
  have hz : ∀ z,(if x < m then x else m) = z → (z ≤ m ∧ z ≤ x) ∧ (z = m ∨ z = x):=fun z h=>by
   split at h <;> omega
  generalize hq : (if x < m then x else m) = z
  obtain ⟨⟨q1,q2⟩,q3⟩:=hz z hq
  obtain ⟨h1,h2⟩:=zZHg r z
  have h3:=h2 z List.mem_cons_self
  refine ⟨?_,fun y hy => ?_⟩
  ·rcases List.mem_cons.mp h1 with h | h
   ·rw [h]; rcases q3 with e | e <;> simp [e]
   ·simp [h]
  ·rcases List.mem_cons.mp hy with e | hy
   ·omega
   ·rcases List.mem_cons.mp hy with e | hy
    ·omega
    ·exact h2 y (List.mem_cons_of_mem _ hy)
/-- max(xs) of a tuple of ints -/
theorem zZM3 (hc : X.calm = true) (hu : X.A.units + 64 < cLine) : CallR X (.builtin "max") (fun vs H Q => ∃ (a : Addr) (ns : List Int),vs = [V.ref a] ∧ SqT X.K H a (ns.map V.int) ∧ 0 < ns.length ∧ ∀ m,m ∈ ns → (∀ y,y ∈ ns → y ≤ m) → Q (.int m) H):=by
 intro pins s σ H vs us Q I r h
 obtain ⟨a,ns,rfl,hs,hne,q⟩:=h
 obtain ⟨its,rv,hl,_⟩:=I.tuple hs
 rw [Vals.ref1 r]
 cases ns with
 | nil=>simp at hne
 | cons n ns =>
  have hr : ReadsAll s.heap its.toArray.toList (.int n :: ns.map .int) []:=by
   have : ∀ (ms : List Int) (us : List Value),Vals (ms.map V.int) us → ReadsAll s.heap us (ms.map .int) []:=by
    intro ms
    induction ms with
    | nil=>intro us h; cases h; exact .nil
    | cons m ms ih =>
     intro us h
     cases h with
     | cons h t =>
      obtain ⟨t',rfl⟩:=h
      exact ReadsAll.cons (.int _ _) (ih _ t)
   exact this (n :: ns) its rv
  have ha : PySem.W.AlikeAll (.int n :: ns.map .int):=by
   refine ⟨fun x hx y hy => ?_,fun x hx => ?_⟩
   ·have e1 : ∀ z,z ∈ (PyData.int n :: ns.map .int) → ∃ i,z = .int i:=fun z hz=>by
     rcases List.mem_cons.mp hz with h | h
     ·exact ⟨n,h⟩
     ·obtain ⟨i,_,rfl⟩:=List.mem_map.mp h; exact ⟨i,rfl⟩
    obtain ⟨i,rfl⟩:=e1 x hx
    obtain ⟨j,rfl⟩:=e1 y hy
    simp [PySem.W.alike]
   ·rcases List.mem_cons.mp hx with h | h
    ·rw [h]; simp
    ·obtain ⟨i,_,rfl⟩:=List.mem_map.mp h; simp
  refine PySem.W.max_tuple_data (I.ok.hd hc) (show s.heap.IsTuple a its.toArray from hl) hr ha ?_ fun i v h' tk bs hv rd hk => ?_
  ·have:=PyProof.Rows.depthAll_ints (n :: ns)
   rw [List.map_cons] at this
   rw [this]
   omega
  ·rw [PySem.W.maxD_ints] at rd
   have hfm : ∀ (l : List Int) (m : Int),(l.foldl max m ∈ m :: l) ∧ ∀ y ∈ m :: l,y ≤ l.foldl max m:=by
    intro l
    induction l with
    | nil=>intro m; simp
    | cons x l ih =>
     intro m
     obtain ⟨h1,h2⟩:=ih (max m x)
     rw [List.foldl_cons]
     refine ⟨?_,fun y hy => ?_⟩
     ·rcases List.mem_cons.mp h1 with h | h
      ·rw [h]
       by_cases hm : m ≤ x
       ·rw [Int.max_eq_right hm]; simp
       ·rw [Int.max_eq_left (by omega)]; simp
      ·simp [h]
     ·have hb:=h2 (max m x) List.mem_cons_self
      rcases List.mem_cons.mp hy with e | hy
      ·rw [e]; omega
      ·rcases List.mem_cons.mp hy with e | hy
       ·rw [e]; omega
       ·exact h2 y (List.mem_cons_of_mem _ hy)
   obtain ⟨g1,g2⟩:=hfm ns n
   cases rd
   exact ⟨.int _,H,I.kept hk,⟨_,rfl⟩,q _ g1 g2⟩
/-- min(xs) of a tuple of ints -/
theorem zZNi (hc : X.calm = true) (hu : X.A.units + 64 < cLine) : CallR X (.builtin "min") (fun vs H Q => ∃ (a : Addr) (ns : List Int),vs = [V.ref a] ∧ SqT X.K H a (ns.map V.int) ∧ 0 < ns.length ∧ ∀ m,m ∈ ns → (∀ y,y ∈ ns → m ≤ y) → Q (.int m) H):=by
 intro pins s σ H vs us Q I r h
 obtain ⟨a,ns,rfl,hs,hne,q⟩:=h
 obtain ⟨its,rv,hl,_⟩:=I.tuple hs
 rw [Vals.ref1 r]
 cases ns with
 | nil=>simp at hne
 | cons n ns =>
  have hr : ReadsAll s.heap its.toArray.toList (.int n :: ns.map .int) []:=by
   have : ∀ (ms : List Int) (us : List Value),Vals (ms.map V.int) us → ReadsAll s.heap us (ms.map .int) []:=by
    intro ms
    induction ms with
    | nil=>intro us h; cases h; exact .nil
    | cons m ms ih =>
     intro us h
     cases h with
     | cons h t =>
      obtain ⟨t',rfl⟩:=h
      exact ReadsAll.cons (.int _ _) (ih _ t)
   exact this (n :: ns) its rv
  have ha : PySem.W.AlikeAll (.int n :: ns.map .int):=by
   refine ⟨fun x hx y hy => ?_,fun x hx => ?_⟩
   ·have e1 : ∀ z,z ∈ (PyData.int n :: ns.map .int) → ∃ i,z = .int i:=fun z hz=>by
     rcases List.mem_cons.mp hz with h | h
     ·exact ⟨n,h⟩
     ·obtain ⟨i,_,rfl⟩:=List.mem_map.mp h; exact ⟨i,rfl⟩
    obtain ⟨i,rfl⟩:=e1 x hx
    obtain ⟨j,rfl⟩:=e1 y hy
    simp [PySem.W.alike]
   ·rcases List.mem_cons.mp hx with h | h
    ·rw [h]; simp
    ·obtain ⟨i,_,rfl⟩:=List.mem_map.mp h; simp
  refine PySem.W.min_tuple_data (I.ok.hd hc) (show s.heap.IsTuple a its.toArray from hl) hr ha ?_ fun i v h' tk bs hv rd hk => ?_
  ·have:=PyProof.Rows.depthAll_ints (n :: ns)
   rw [List.map_cons] at this
   rw [this]
   omega
  ·rw [PySem.W.minD_ints] at rd
   have hfm : ∀ (l : List Int) (m : Int),(l.foldl min m ∈ m :: l) ∧ ∀ y ∈ m :: l,l.foldl min m ≤ y:=by
    intro l
    induction l with
    | nil=>intro m; simp
    | cons x l ih =>
     intro m
     obtain ⟨h1,h2⟩:=ih (min m x)
     rw [List.foldl_cons]
     refine ⟨?_,fun y hy => ?_⟩
     ·rcases List.mem_cons.mp h1 with h | h
      ·rw [h]
       by_cases hm : m ≤ x
       ·rw [Int.min_eq_left hm]; simp
       ·rw [Int.min_eq_right (by omega)]; simp
      ·simp [h]
     ·have hb:=h2 (min m x) List.mem_cons_self
      rcases List.mem_cons.mp hy with e | hy
      ·rw [e]; omega
      ·rcases List.mem_cons.mp hy with e | hy
       ·rw [e]; omega
       ·exact h2 y (List.mem_cons_of_mem _ hy)
   obtain ⟨g1,g2⟩:=hfm ns n
   cases rd
   exact ⟨.int _,H,I.kept hk,⟨_,rfl⟩,q _ g1 g2⟩
/-- a built-in of one sequence -/
theorem zZAt {fs : Env → Wd → R Src} {g : Wd → Src → Option D} {r : List V → Hp → VK → Prop} (hp : ∀ t,PA X [pa] t → PE X py (tCB r t)) (hn : notStar pa = true) (ha : SOk B X pa fs)
  (hr : ∀ (e : Env) (sg : L2.St) s v (H F : Hp) (eta : List Addr) (W : Wd) (Q : VK) z,Stt B e W sg H F eta → SrcRep B e sg F eta s v → g W s = some z →
   (∀ (w : V) (H' F' : Hp) (eta' : List Addr),OkH B F' eta' W H' → Ext F eta H F' eta' H' → Rep B F' eta' z w → Q w H') → r [v] H Q) :
  EOk B X py (fun e W=>(fs e W).bind fun s W=>opt (g W s) W):=by
 obtain ⟨ta,ha,ka⟩:=ha
 refine ⟨_,hp _ (pa_cons ha pa_nil (star1 hn _ _)),fun e W sg H F eta Q s k => ?_⟩
 refine ka e W sg H F eta _ s ?_
 rw [R.wp_bind] at k
 refine R.wp_mono k fun x W1 k v H1 F1 eta1 o1 x1 r1 => ?_
 obtain ⟨z,q,k⟩:=zZB k
 exact hr e sg x v H1 F1 eta1 W1 Q z (s.ext x1 o1) r1 q fun w H' F' eta' o' x' rw'=>k w H' F' eta' o' (Ext.trans s.ok o1 x1 x') rw'
theorem pB {id : String} {x : Str} {r : List V → Hp → VK → Prop} (hc : CallR X (.builtin id) r) (hg : Gl X x) (hm : X.mg x = none) (hv : bootBuiltins x = some (.builtin id)) (hn : x ≠ "__name__") (hd : (x == ("__debug__" : Str)) = false) (hs : notStar pa = true) :
  ∀ t,PA X [pa] t → PE X (.Call (.Name x p) [pa] [] pos) (tCB r t):=fun t h=>pe_callB hc hg hm hv h hn hd (star1 hs _ _) rfl
theorem pTy {id : String} {x : Str} {r : List V → Hp → VK → Prop} (hc : CallR X (.type id) r) (hg : Gl X x) (hm : X.mg x = none) (hv : bootBuiltins x = some (.type id)) (hn : x ≠ "__name__") (hd : (x == ("__debug__" : Str)) = false) (hs : notStar pa = true) :
  ∀ t,PA X [pa] t → PE X (.Call (.Name x p) [pa] [] pos) (tCB r t):=fun t h=>pe_callTy hc hg hm hv h hn hd (star1 hs _ _) rfl
def b1nm : B1 → Str
 | .int => "int" | .str => "str" | .tuple => "tuple" | .len => "len" | .sum => "sum" | .any => "any" | .all => "all" | .max => "max" | .min => "min"
def noB : B1 → Bool
 | .int=>false | .str=>false | _=>true
theorem xZr (b : B1) (hb : noB b = true) {fs : Env → Wd → R Src} (hu : X.A.units + 64 < cLine) (hc : X.calm = true) (hg : Gl X (b1nm b)) (hm : X.mg (b1nm b) = none) (hn : notStar pa = true) (ha : SOk B X pa fs) :
  EOk B X (.Call (.Name (b1nm b) p) [pa] [] pos) (fun e W=>(fs e W).bind fun s W=>opt (b1D W b s) W):=by
 cases b with
 | int=>cases hb
 | str=>cases hb
 | len =>
  refine zZAt (g:=fun W s=>b1D W .len s) (pB call_len hg hm PySem.boot_len (by decide) (by decide) hn) hn ha fun e sg s v H F eta W Q z st r1 q k => ?_
  simp only [b1D,Option.map_eq_some_iff] at q
  obtain ⟨xs,hi,rfl⟩:=q
  cases hs : s.isStr with
  | false =>
   obtain ⟨a,vs,rfl,rl,hh⟩:=r1.seq st hi hs
   refine ⟨.ref a,vs.length,rfl,hh.imp (fun h=>⟨vs,SqL.of h,rfl⟩) fun h=>⟨vs,h.sq,rfl⟩, ?_⟩
   rw [← rl.length]
   exact k _ H F eta st.ok (Ext.refl _ _ _) (.int _)
  | true =>
   cases s with
   | str zz =>
    obtain rfl : v = .str zz:=r1
    simp only [items] at hi
    split at hi
    ·rename_i hl
     cases hi
     refine ⟨.str zz,zz.length,rfl,⟨Nat.le_trans hl zZc,rfl⟩, ?_⟩
     have e1 : (zz.cps.toList.map fun c=>D.str ⟨#[c]⟩).length = zz.length:=by rw [List.length_map]; rfl
     rw [← e1]
     exact k _ H F eta st.ok (Ext.refl _ _ _) (.int _)
    ·cases hi
   | _=>cases hs
 | tuple =>
  refine zZAt (g:=fun W s=>b1D W .tuple s) (pTy zZGZ hg hm PyProof.Rows.boot_tuple (by decide) (by decide) hn) hn ha fun e sg s v H F eta W Q z st r1 q k => ?_
  simp only [b1D] at q
  split at q
  ·cases q
  ·rename_i hs
   simp only [Bool.not_eq_true] at hs
   simp only [Option.map_eq_some_iff] at q
   obtain ⟨xs,hi,rfl⟩:=q
   cases ht : s.isTup with
   | true =>
    cases s with
    | frz ys d =>
     cases d with
     | tup zs =>
      obtain ⟨rr,hd⟩:=r1
      simp [items] at hi
      subst hi
      have : zs = ys:=by simpa using hd
      subst this
      cases rr with
      | tup h r=>exact ⟨_,_,rfl,.inr ⟨(h.mono st.ok.sub).sq,k _ H F eta st.ok (Ext.refl _ _ _) (.tup h r)⟩⟩
     | _=>cases ht
    | _=>cases ht
   | false =>
    obtain ⟨a,vs,rfl,rl,hh⟩:=r1.lst st hi hs ht
    refine ⟨a,vs,rfl,.inl ⟨SqL.of hh,fun p ob hob hp => ?_⟩⟩
    have s1:=fun u=>zZ8 (u:=u) (st.ok.notF hp)
    exact k _ _ _ eta (st.ok.newF hp) (Ext.newFz st.ok hp) (.tup (.new hob) (rl.mono (s1 _) (List.prefix_refl _)))
 | sum =>
  refine zZAt (g:=fun W s=>b1D W .sum s) (pB (zZNX hc) hg hm PyProof.Rows.boot_sum (by decide) (by decide) hn) hn ha fun e sg s v H F eta W Q z st r1 q k => ?_
  simp only [b1D] at q
  split at q
  ·cases q
  ·rename_i hs
   simp only [Bool.not_eq_true] at hs
   simp only [Option.bind_eq_some_iff,Option.map_eq_some_iff] at q
   obtain ⟨xs,hi,l,hl,rfl⟩:=q
   obtain ⟨a,vs,rfl,rl,hh⟩:=r1.seq st hi hs
   have e1:=rl.ints hl
   subst e1
   exact ⟨a,l,rfl,hh.imp SqL.of TupF.sq,k _ H F eta st.ok (Ext.refl _ _ _) (.int _)⟩
 | any =>
  refine zZAt (g:=fun W s=>b1D W .any s) (pB (zZNK hc) hg hm (by decide +kernel) (by decide) (by decide) hn) hn ha fun e sg s v H F eta W Q z st r1 q k => ?_
  simp only [b1D] at q
  split at q
  ·cases q
  ·rename_i hs
   simp only [Bool.not_eq_true] at hs
   simp only [Option.bind_eq_some_iff,Option.map_eq_some_iff] at q
   obtain ⟨xs,hi,l,hl,rfl⟩:=q
   obtain ⟨a,vs,rfl,rl,hh⟩:=r1.seq st hi hs
   exact ⟨a,vs,l,rfl,hh.imp SqL.of TupF.sq,rl.trus hl,k _ H F eta st.ok (Ext.refl _ _ _) (.bl _)⟩
 | all =>
  refine zZAt (g:=fun W s=>b1D W .all s) (pB (zZNQ hc) hg hm (by decide +kernel) (by decide) (by decide) hn) hn ha fun e sg s v H F eta W Q z st r1 q k => ?_
  simp only [b1D] at q
  split at q
  ·cases q
  ·rename_i hs
   simp only [Bool.not_eq_true] at hs
   simp only [Option.bind_eq_some_iff,Option.map_eq_some_iff] at q
   obtain ⟨xs,hi,l,hl,rfl⟩:=q
   obtain ⟨a,vs,rfl,rl,hh⟩:=r1.seq st hi hs
   exact ⟨a,vs,l,rfl,hh.imp SqL.of TupF.sq,rl.trus hl,k _ H F eta st.ok (Ext.refl _ _ _) (.bl _)⟩
 | max =>
  refine zZAt (g:=fun W s=>b1D W .max s) (pB (CallR.or (cr_max hc) (zZM3 hc hu)) hg hm PyProof.Rows.boot_max (by decide) (by decide) hn) hn ha fun e sg s v H F eta W Q z st r1 q k => ?_
  simp only [b1D] at q
  split at q
  ·cases q
  ·rename_i hs
   simp only [Bool.not_eq_true] at hs
   simp only [Option.bind_eq_some_iff] at q
   obtain ⟨xs,hi,l,hl,q⟩:=q
   obtain ⟨a,vs,rfl,rl,hh⟩:=r1.seq st hi hs
   have e1:=rl.ints hl
   subst e1
   cases l with
   | nil=>cases q
   | cons m r =>
    cases q
    obtain ⟨g1,g2⟩:=zZHb r m
    have fin : ∀ y,y ∈ m :: r → (∀ z,z ∈ m :: r → z ≤ y) → Q (.int y) H:=fun y hy hm'=>by
     have e2 : y = maxI m r:=Int.le_antisymm (g2 y hy) (hm' _ g1)
     rw [e2]
     exact k _ H F eta st.ok (Ext.refl _ _ _) (.int _)
    rcases hh with hh | hh
    ·exact .inl ⟨a,m :: r,rfl,SqL.of hh,by simp,fin⟩
    ·exact .inr ⟨a,m :: r,rfl,hh.sq,by simp,fin⟩
 | min =>
  refine zZAt (g:=fun W s=>b1D W .min s) (pB (CallR.or (cr_min hc) (zZNi hc hu)) hg hm PyProof.Rows.boot_min (by decide) (by decide) hn) hn ha fun e sg s v H F eta W Q z st r1 q k => ?_
  simp only [b1D] at q
  split at q
  ·cases q
  ·rename_i hs
   simp only [Bool.not_eq_true] at hs
   simp only [Option.bind_eq_some_iff] at q
   obtain ⟨xs,hi,l,hl,q⟩:=q
   obtain ⟨a,vs,rfl,rl,hh⟩:=r1.seq st hi hs
   have e1:=rl.ints hl
   subst e1
   cases l with
   | nil=>cases q
   | cons m r =>
    cases q
    obtain ⟨g1,g2⟩:=zZHg r m
    have fin : ∀ y,y ∈ m :: r → (∀ z,z ∈ m :: r → y ≤ z) → Q (.int y) H:=fun y hy hm'=>by
     have e2 : y = minI m r:=Int.le_antisymm (hm' _ g1) (g2 y hy)
     rw [e2]
     exact k _ H F eta st.ok (Ext.refl _ _ _) (.int _)
    rcases hh with hh | hh
    ·exact .inl ⟨a,m :: r,rfl,SqL.of hh,by simp,fin⟩
    ·exact .inr ⟨a,m :: r,rfl,hh.sq,by simp,fin⟩
end
end DL
set_option maxRecDepth 100000
set_option maxHeartbeats 4000000
namespace DL
open PySem PySem.Spec PyProof.Rows
open L2 hiding St
section
variable {B : Tb} {X : Cx} {py pa pb pc : Expr} {f fa fb fc fr : Env → Wd → R D} {rest es : List Expr} {pos p : Pos}
variable {e : Env} {sg : L2.St} {F F' H H' : Hp} {eta eta' : List Addr} {W W' : Wd}
theorem zZOQ {i : Int} (h : strLen i = true) : i.natAbs.log2 < 1920:=by
 unfold strLen at h
 have h:=of_decide_eq_true h
 by_cases z : i.natAbs = 0
 ·rw [z]; decide
 ·exact (Nat.log2_lt z).mpr (Nat.lt_trans h (by decide +kernel))
theorem zZHo (b : B1) (hb : noB b = false) (hg : Gl X (b1nm b)) (hm : X.mg (b1nm b) = none) (hn : notStar pa = true) (ha : EOk B X pa fa) :
  EOk B X (.Call (.Name (b1nm b) p) [pa] [] pos) (fun e W=>(fa e W).bind fun x W=>opt (conv b x) W):=by
 obtain ⟨ta,ha,ka⟩:=ha
 cases b with
 | int =>
  refine ⟨_,pTy call_int1 hg hm PyProof.Rows.boot_int (by decide) (by decide) hn _ (pa_cons ha pa_nil (star1 hn _ _)),fun e W sg H F eta Q s k => ?_⟩
  refine ka e W sg H F eta _ s ?_
  rw [R.wp_bind] at k
  refine R.wp_mono k fun x W1 k v H1 F1 eta1 o1 x1 r1 => ?_
  obtain ⟨z,q,k⟩:=zZB k
  cases r1 <;> simp [conv] at q
  ·subst q; exact .inr ⟨_,rfl,k _ H1 F1 eta1 o1 x1 (.int _)⟩
  ·subst q; exact .inl ⟨_,rfl,k _ H1 F1 eta1 o1 x1 (.int _)⟩
 | str =>
  refine ⟨_,pTy call_str_int hg hm PyProof.Rows.boot_str (by decide) (by decide) hn _ (pa_cons ha pa_nil (star1 hn _ _)),fun e W sg H F eta Q s k => ?_⟩
  refine ka e W sg H F eta _ s ?_
  rw [R.wp_bind] at k
  refine R.wp_mono k fun x W1 k v H1 F1 eta1 o1 x1 r1 => ?_
  obtain ⟨z,q,k⟩:=zZB k
  cases r1 <;> simp [conv] at q
  obtain ⟨h1,rfl⟩:=q
  exact ⟨_,rfl,zZOQ h1,k _ H1 F1 eta1 o1 x1 (.str _)⟩
 | _=>cases hb
def tyNm : Ty → String
 | .int => "int" | .bool => "bool" | .str => "str" | .list => "list" | .tuple => "tuple" | .dict => "dict"
theorem zZJB (t : Ty) : bootBuiltins (tyNm t) = some (.type (tyNm t)):=by cases t <;> decide +kernel
theorem kits (t : Ty) : (kitB "NoneType" (tyNm t) = tyD .non t) ∧ (∀ b,kitB "bool" (tyNm t) = tyD (.bl b) t) ∧ (∀ i,kitB "int" (tyNm t) = tyD (.int i) t) ∧ (∀ i,kitB "str" (tyNm t) = tyD (.str i) t) ∧
  (∀ i,kitB "list" (tyNm t) = tyD (.lst i) t) ∧ (∀ i,kitB "tuple" (tyNm t) = tyD (.tup i) t):=by
 cases t <;> refine ⟨?_,fun _ => ?_,fun _ => ?_,fun _ => ?_,fun _ => ?_,fun _ => ?_⟩ <;> simp only [tyD,tyNm] <;> decide +kernel
theorem xZs {d : D} {v : V} {t : Ty} {b : Bool} (o : OkH B F eta W H) (r : Rep B F eta d v) (h : tyD d t = some b) (K : PySem.W.Frag) : ∃ u,TyX K H v u ∧ PySem.W.kitOne K u (.type (tyNm t)) = some b:=by
 obtain ⟨k1,k2,k3,k4,k5,k6⟩:=kits t
 cases r with
 | non=>exact ⟨_,.base .non,kit_ty (k1.trans h)⟩
 | bl _=>exact ⟨_,.base (.bl _),kit_ty ((k2 _).trans h)⟩
 | int _=>exact ⟨_,.base (.int _),kit_ty ((k3 _).trans h)⟩
 | str _=>exact ⟨_,.base (.str _),kit_ty ((k4 _).trans h)⟩
 | tup e _=>obtain ⟨ob,_,e⟩:=e; exact ⟨_,.fTuple (o.sub _ _ e),kit_ty ((k6 _).trans h)⟩
 | lst e _=>exact ⟨_,.base (.lst (o.sub _ _ e)),kit_ty ((k5 _).trans h)⟩
 | ins _ _=>simp [tyD] at h
 | own _=>simp [tyD] at h
 | ext _=>simp [tyD] at h
 | tupz _ _=>simp [tyD] at h
 | dct _ _=>simp [tyD] at h
 | dtt _ _=>simp [tyD] at h
theorem zZNm (t : Ty) {q2 : Pos} (hg : Gl X "isinstance") (hm : X.mg "isinstance" = none) (hg2 : Gl X (tyNm t)) (hm2 : X.mg (tyNm t) = none) (hn : notStar pa = true) (ha : EOk B X pa fa) :
  EOk B X (.Call (.Name "isinstance" p) [pa,.Name (tyNm t) q2] [] pos) (fun e W=>(fa e W).bind fun x W=>opt ((tyD x t).map .bl) W):=by
 obtain ⟨ta,ha,ka⟩:=ha
 have hx : PE X (.Name (tyNm t) q2) (tC (.ty (tyNm t))):=pe_bltn hg2 hm2 (zZJB t) rfl (by cases t <;> decide +kernel) (by cases t <;> decide +kernel)
 refine ⟨_,pe_callB call_isi hg hm PyProof.Rows.boot_isinstance (pa_cons ha (pa_cons hx pa_nil (star1 rfl _ _)) (star1 hn _ _)) (by decide) (by decide) (star1 hn _ _) rfl,fun e W sg H F eta Q s k => ?_⟩
 refine ka e W sg H F eta _ s ?_
 rw [R.wp_bind] at k
 refine R.wp_mono k fun x W1 k v H1 F1 eta1 o1 x1 r1 => ?_
 obtain ⟨z,q,k⟩:=zZB k
 simp only [Option.map_eq_some_iff] at q
 obtain ⟨b,q,rfl⟩:=q
 obtain ⟨u,h1,h2⟩:=xZs o1 r1 q X.K
 exact ⟨v,.ty (tyNm t),u,.type (tyNm t),b,rfl,.ty _,h1,h2,k _ H1 F1 eta1 o1 x1 (.bl _)⟩
theorem zZN9 {fs : Env → Wd → R Src} (hg : Gl X "list") (hm : X.mg "list" = none) (hn : notStar pa = true) (ha : SOk B X pa fs) :
  FOk B X (.Call (.Name "list" p) [pa] [] pos) (fun e W=>(fs e W).bind fun s W=>if s.isStr then .st else opt (items W s) W):=by
 obtain ⟨ta,ha,ka⟩:=ha
 refine ⟨_,pTy call_list_of hg hm PyProof.Rows.boot_list (by decide) (by decide) hn _ (pa_cons ha pa_nil (star1 hn _ _)),fun e W sg H F eta Q s k => ?_⟩
 refine ka e W sg H F eta _ s ?_
 rw [R.wp_bind] at k
 refine R.wp_mono k fun x W1 k v H1 F1 eta1 o1 x1 r1 => ?_
 split at k
 ·exact k.elim
 ·rename_i hs
  simp only [Bool.not_eq_true] at hs
  obtain ⟨xs,hi,k⟩:=zZB k
  obtain ⟨a,vs,rfl,rl,hh⟩:=r1.seq (s.ext x1 o1) hi hs
  refine ⟨a,vs,rfl,hh.imp SqL.of TupF.sq,fun p hp => ?_⟩
  exact k p vs _ F1 eta1 (o1.new hp) (Ext.trans s.ok o1 x1 (Ext.new hp)) (x1.there s.ok o1 hp) upd_same (o1.notF hp) (o1.notE hp) rl
/-- list(name),the name's list from outside -/
def ScrOk (B : Tb0) (K : PySem.W.Frag) : Prop := ∀ a ns H,B.kl a ns → SqL K H a (ns.map V.int)
theorem RepL.ofInts (B : Tb0) (F : Hp) (eta : List Addr) : ∀ ns : List Int,RepL B F eta (ns.map D.int) (ns.map V.int)
 | []=>.nil
 | i :: r=>.cons (.int i) (RepL.ofInts B F eta r)
theorem zZND {i : Nat} {x : Str} {p2 : Pos} (hk : ScrOk B X.K) (hg : Gl X "list") (hm : X.mg "list" = none) (hN : X.N[i]? = some x) (hv : Vis X.env.scope x) (hd : (x == ("__debug__" : Str)) = false) (hc : (x == ("__classdict__" : Str)) = false) :
  FOk B X (.Call (.Name "list" p) [.Name x p2] [] pos) (fun e W=>match e[i]? with | some (.val (.ext ns))=>.ok (ns.map D.int) W | _=>.st):=by
 refine ⟨_,pTy call_list_of hg hm PyProof.Rows.boot_list (by decide) (by decide) rfl _ (pa_cons (pe_var hN hv hd hc) pa_nil (star1 rfl _ _)),fun e W sg H F eta Q s k => ?_⟩
 dsimp only at k
 split at k
 ·rename_i ns hs
  obtain ⟨v,h1,h2⟩:=s.sl i _ hs
  cases h2 with
  | ext h =>
   rename_i a
   have hq : SqL X.K H a (ns.map V.int):=by
    rcases h with ⟨o,h⟩ | h
    ·exact .inl (.inr ⟨o,s.ok.sub _ _ h⟩)
    ·exact hk a ns H h
   refine ⟨_,h1,a,_,rfl,.inl hq,fun p hp => ?_⟩
   exact k p _ _ F eta (s.ok.new hp) (Ext.new hp) hp upd_same (s.ok.notF hp) (s.ok.notE hp) (RepL.ofInts _ _ _ ns)
 ·exact k.elim
theorem zZFv : ∀ {ds : List D} {vs : List V} {x : D} {u : V} {j : Nat},RepL B F eta ds vs → Rep B F eta x u → flatD x = true → ds.all flatD = true → ds.findIdx? (fun y=>eqVD y x) = some j →
  (∃ z,vs[j]? = some z ∧ eqV z u = true) ∧ ∀ (m : Nat) (z' : V),m < j → vs[m]? = some z' → eqV z' u = false
 | [],_,x,u,j,_,_,_,_,h=>by simp at h
 | d :: ds,v :: vs,x,u,j,.cons r t,rx,hx,hf,h=>by
  simp only [List.all_cons,Bool.and_eq_true] at hf
  rw [List.findIdx?_cons] at h
  have e0 : eqV v u = eqVD d x:=zZLN r rx hf.1 hx
  split at h
  ·rename_i hq
   cases h
   exact ⟨⟨v,rfl,e0.trans hq⟩,fun m z' hm=>absurd hm (Nat.not_lt_zero _)⟩
  ·rename_i hq
   simp only [Option.map_eq_some_iff] at h
   obtain ⟨j',h1,rfl⟩:=h
   obtain ⟨⟨z,h2,h3⟩,h4⟩:=zZFv t rx hx hf.2 h1
   refine ⟨⟨z,by simpa using h2,h3⟩,fun m z' hm hz => ?_⟩
   cases m with
   | zero=>simp at hz; subst hz; rw [e0]; simpa using hq
   | succ m=>exact h4 m z' (by omega) (by simpa using hz)
theorem zZBT {s : Src} {v : V} (st : Stt B e W sg H F eta) (r : SrcRep B e sg F eta s v) (h : lstSrc W s = true) (K : PySem.W.Frag) : tyV K "list" v H ∧ s.isStr = false ∧ s.isTup = false:=by
 unfold lstSrc at h
 simp only [Bool.and_eq_true,Bool.not_eq_true'] at h
 obtain ⟨h1,h2,h3⟩:=h
 obtain ⟨xs,hi⟩:=Option.isSome_iff_exists.mp h3
 obtain ⟨a,vs,rfl,_,hh⟩:=r.lst st hi h1 h2
 exact ⟨.inl ⟨rfl,_,SqL.of hh⟩,h1,h2⟩
theorem zZLI {apos : Pos} {fs : Env → Wd → R Src} (hb : attributeBase pa "index" X.env (eval pa X.env) = eval pa X.env) (hl : (apos.endLine == pos.line) = true) (hn : notStar pb = true) (ha : SOk B X pa fs) (hbb : EOk B X pb fb) :
  EOk B X (.Call (.Attribute pa "index" apos) [pb] [] pos) (fun e W=>(fs e W).bind fun s W=>if lstSrc W s then (fb e W).bind fun y W=>opt (idxG W s y) W else .st):=by
 obtain ⟨ta,ha,ka⟩:=ha
 obtain ⟨tb,hbb,kb⟩:=hbb
 refine ⟨_,pe_bm PySem.F.plainAttrs_list PySem.F.slot_list_index PySem.F.type_list_index mt_index ha (pa_cons hbb pa_nil (star1 hn _ _)) hb (by rw [star1 hn]; rfl) hl (star1 hn _ _) rfl,fun e W sg H F eta Q s k => ?_⟩
 refine ka e W sg H F eta _ s ?_
 rw [R.wp_bind] at k
 refine R.wp_mono k fun x W1 k v H1 F1 eta1 o1 x1 r1 => ?_
 split at k
 ·rename_i hs
  have st1:=s.ext x1 o1
  obtain ⟨ty,z1,z2⟩:=zZBT st1 r1 hs X.K
  refine ⟨ty, ?_⟩
  rw [R.wp_bind] at k
  refine kb e W1 sg H1 F1 eta1 _ st1 (R.wp_mono k fun y W2 k u H2 F2 eta2 o2 x2 r2 => ?_)
  obtain ⟨z,q,k⟩:=zZB k
  unfold idxG at q
  simp only [Option.bind_eq_some_iff,Option.map_eq_some_iff] at q
  obtain ⟨xs,hi,j,q,rfl⟩:=q
  have y2:=Ext.trans s.ok o1 x1 x2
  obtain ⟨a,vs,rfl,rl,hh⟩:=(r1.ext x2).lst (s.ext y2 o2) hi z1 z2
  unfold indexD at q
  split at q
  ·rename_i hf
   simp only [Bool.and_eq_true] at hf
   obtain ⟨⟨z,h2,h3⟩,h4⟩:=zZFv rl r2 hf.1 hf.2 q
   exact ⟨a,vs,u,j,z,rfl,rfl,SqL.of hh,zZGV r2 hf.1,zZEc rl hf.2,h2,h3,h4,k _ H2 F2 eta2 o2 y2 (.int _)⟩
  ·cases q
 ·exact k.elim
/-- an exception of the class c,its own value -/
theorem takes0N {X : Cx} : L2N.Takes X (fun _ _ _ _=>False):=fun _ _ x=>by
 obtain ⟨_,_,_,_,_,_,_,_,_,_,_,_,_,_,_,_,z⟩:=x
 exact z.elim
def XRep (B : Tb0) (F : Hp) (eta : List Addr) (c : Nat) (p : D) (cls : Value) (d : Option Addr) (H : Hp) : Prop:=cls = .ref (B.ca c) ∧ XPay B F eta H c p d
/-- the wish E of an exception,by the evaluator's word -/
def XW (B : Tb0) (F : Hp) (eta : List Addr) (H : Hp) (E : XK) : Nat → D → Wd → Prop:=fun c p W' => ∀ (H' F' : Hp) (eta' : List Addr) (cls : Value) (d : Option Addr),OkH B F' eta' W' H' → Ext F eta H F' eta' H' → XRep B F' eta' c p cls d H' → E cls d H'
/-- how B's wish stands to X -/
structure XLk (B : Tb) (X : Cx) : Prop where
 tk : L2N.Takes X B.wx
 lk : ∀ (c : Nat) (p : D) (W' : Wd) (sg : L2.St) (H' F' : Hp) (eta' : List Addr) (cls : Value) (d : Option Addr),B.xq c p W' → OkH B F' eta' W' H' → Ext B.xF B.xeta B.xH F' eta' H' → (∀ i ∈ B.xk,sg[i]? = B.xs[i]?) → sg.length = B.xn → XRep B F' eta' c p cls d H' → B.wx cls d sg H'
theorem XLk.wish (l : XLk B X) {e : Env} {sg : L2.St} {F F1 H H1 : Hp} {eta eta1 : List Addr} {W W1 : Wd} (s : Stt B e W sg H F eta) (o1 : OkH B F1 eta1 W1 H1) (x1 : Ext F eta H F1 eta1 H1) :
  ∀ c p W',B.xq c p W' → XW B F1 eta1 H1 (WE B.wx sg) c p W':=fun c p W' q H' F' eta' cls d o' x' r=>by
 have y:=Ext.trans' (B:=B) trivial s.ok s.xx x1
 exact l.lk c p W' sg H' F' eta' cls d q o' (Ext.trans' (B:=B) trivial o1 y x') s.xr s.xl r
/-- a def's promise,by what the evaluator says of it -/
def spC (B : Tb0) (c : List D → Wd → R D) : Sp:=fun vs H Q E => ∃ (ds : List D) (W : Wd) (F : Hp) (eta : List Addr),OkH B F eta W H ∧ RepL B F eta ds vs ∧
 (c ds W).wp (XW B F eta H E) fun d W' => ∀ (v : V) (H' F' : Hp) (eta' : List Addr),OkH B F' eta' W' H' → Ext F eta H F' eta' H' → Rep B F' eta' d v → Q v H'
/-- an __init__'s promise -/
def spI (B : Tb0) (c : Nat) (g : List D → Wd → R (List (Nat × D))) : Sp:=fun vs H Q E => ∃ (ds : List D) (W : Wd) (F : Hp) (eta : List Addr) (x dx : Addr) (us : List V) (H0 : Hp),vs = .ref x :: us ∧
 H = upd (upd H0 dx (.own x)) x (.ins (B.ca c) dx []) ∧ H0 x = none ∧ H0 dx = none ∧ dx ≠ x ∧ OkH B F eta W H0 ∧ RepL B F eta ds us ∧
 (g ds W).wp (XW B F eta H0 E) fun fs W' => ∀ (H' F' : Hp) (eta' : List Addr) (dx' : Addr) (gs : List (Str × V)),OkH B F' eta' W' H' → Ext F eta H0 F' eta' H' → H' x = some (.ins (B.ca c) dx' gs) → F' x = none → x ∉ eta' → RepF B F' eta' fs gs → Q .non H'
theorem zZAa {pins : List (Addr × Obj)} {σ : L2.St} {H : Hp} {s : Shared} {k : Nat} {f : Addr} {sp : Sp} {E : XK} {Q : VK} {us : List Value} {vs : List V} (F : FnR X.prog X.w X.K X.mg X.base (L2N.CX X.prog X.w) k f sp) (hr : Room k X.A) (hx : PassesAt (L2N.CX X.prog X.w) X σ E) (I : Inv X pins σ H s) (r : Vals vs us) (h : sp vs H Q E) :
  codeAny (model X.prog X.w) X.A (.call (.ref f) ⟨us,[]⟩) (fun r s'=>match r with | .ok (.ret v)=>EP X pins σ Q v s' | .ok _=>False | .error e=>X.xe e s') s:=by
 refine codeAny_mono (F X.A X.stack s H us vs Q E hr I.env0 r h) fun r s' hq => ?_
 cases r with
 | error e=>exact hx pins H s e s' I hq
 | ok fl =>
  cases fl with
  | ret u=>exact I.after hq
  | next=>exact False.elim hq
  | brk=>exact False.elim hq
  | cont=>exact False.elim hq
theorem zZJn {pins : List (Addr × Obj)} {σ : L2.St} {H : Hp} {s : Shared} {k : Nat} {f C : Addr} {sp : Sp} {E : XK} {Q : VK} {us : List Value} {vs : List V} (M : Mk X.K C f) (F : FnR X.prog X.w X.K X.mg X.base (L2N.CX X.prog X.w) k f sp) (hr : Room (k + 1) X.A) (hx : PassesAt (L2N.CX X.prog X.w) X σ E) (I : Inv X pins σ H s) (r : Vals vs us)
  (h : ∀ x dx,H x = Option.none → H dx = Option.none → dx ≠ x → sp (V.ref x :: vs) (upd (upd H dx (.own x)) x (.ins C dx [])) (fun v H2=>v = .non ∧ Q (.ref x) H2) E) :
  wpAny (model X.prog X.w) X.A (call (.ref C) us) (EP X pins σ Q) X.xe s:=by
 have hq:=h (s.heap.objs.size + 1) s.heap.objs.size (I.hok.fresh (Nat.le_succ _)) (I.hok.fresh (Nat.le_refl _)) (Nat.ne_of_lt (Nat.lt_succ_self _))
 have I2:=Inv.made (C:=C) I
 have r2 : Vals (V.ref (s.heap.objs.size + 1) :: vs) (Value.ref (s.heap.objs.size + 1) :: us):=.cons rfl r
 refine wpAny_call (make_map (f:=f) I.kIn M.makes M.init (beq_iff_eq.mp M.fn) (codeAny_mono (F _ X.stack _ _ (Value.ref (s.heap.objs.size + 1) :: us) _ _ E (hr.make C us []) (I2.env0.make C us []) r2 hq) fun r s' hq' => ?_))
 cases r with
 | error e=>exact hx pins _ _ e s' I2 hq'
 | ok fl =>
  cases fl with
  | ret u =>
   obtain ⟨v,H',I3,rv,ev,q3⟩:=I2.after hq'
   subst ev
   exact ⟨rv,⟨V.ref (s.heap.objs.size + 1),H',I3,rfl,q3⟩⟩
  | next=>exact False.elim hq'
  | brk=>exact False.elim hq'
  | cont=>exact False.elim hq'
theorem zZLF {k : Nat} {f C : Addr} {sp : Sp} {x : Str} {t : TA} (M : Mk X.K C f) (F : FnR X.prog X.w X.K X.mg X.base (L2N.CX X.prog X.w) k f sp) (hr : Room (k + 1) X.A) (hg : Gl X x) (hm : X.mg x = some (.ref C)) {Wx : WX} (tk : L2N.Takes X Wx) (ha : PA X (pa :: es) t) (hdb : (x == ("__debug__" : Str)) = false)
  (he : starEach (pa :: es) X.env = (false,eval pa X.env) :: starEach es X.env) (hpl : (backTo pos (starEach es X.env)).any (·.1) = false) : PE X (.Call (.Name x p) (pa :: es) [] pos) (fun σ H Q=>StX.tMakeR C sp (WE Wx σ) t σ H Q):=by
 refine ⟨fun pins s σ H Q I h => ?_⟩
 refine wpAny_Call_Name_kw (ld_glob I hg hm ?_ hdb)
 refine PySem.W.callWith_K (h₀:=X.base) I.ok.mod.kin M.kp (thn (ha.run pos pins s σ H _ I h) fun us s1 ⟨vs,H1,I1,r,q⟩=>⟨I1.kIn, ?_⟩) he hpl
 exact zZJn M F hr (L2N.passAt tk σ) I1 r q
/-- f(e,..) by a positional promise -/
theorem zZLv {k : Nat} {a : Addr} {sp : Sp} {x : Str} {t : TA} (Fn : FnR X.prog X.w X.K X.mg X.base (L2N.CX X.prog X.w) k a sp) (hr : Room k X.A) (hg : Gl X x) (hm : X.mg x = some (.ref a)) (hk : PySem.W.keepIn X.K (.ref a) = true)
  (hd : (x == ("__debug__" : Str)) = false) (hn : notStar pa = true) {Wx : WX} (tk : L2N.Takes X Wx) (ha : PA X (pa :: es) t) : PE X (.Call (.Name x p) (pa :: es) [] pos) (fun σ H Q=>t σ H fun vs H1=>sp vs H1 Q (WE Wx σ)):=by
 refine ⟨fun pins s σ H Q I h => ?_⟩
 refine wpAny_Call_Name_kw (ld_glob I hg hm ?_ hd)
 cases hs : es.all notStar with
 | true =>
  refine PySem.W.callWith_K (h₀:=X.base) I.ok.mod.kin hk (thn (ha.run pos pins s σ H _ I h) fun us s1 ⟨vs,H1,I1,r,q⟩=>⟨I1.kIn, ?_⟩) (star1 hn _ _) (xZm _ _ hs)
  exact wpAny_call (zZAa Fn hr (L2N.passAt tk σ) I1 r q)
 | false =>
  refine PySem.W.callWith_S2 (h₀:=X.base) I.ok.mod.kin hk (thn (ha.run pos pins s σ H _ I h) fun us s1 ⟨vs,H1,I1,r,q⟩=>⟨I1.kIn, ?_⟩) (star1 hn _ _) (zZGr _ _ hs)
  exact wpAny_call (zZAa Fn hr (L2N.passAt tk σ) I1 r q)
theorem zZKG {k : Nat} {a : Addr} {sp : Sp} {x : Str} (Fn : FnR X.prog X.w X.K X.mg X.base (L2N.CX X.prog X.w) k a sp) (hr : Room k X.A) (hg : Gl X x) (hm : X.mg x = some (.ref a)) (hk : PySem.W.keepIn X.K (.ref a) = true)
  (hd : (x == ("__debug__" : Str)) = false) {Wx : WX} (tk : L2N.Takes X Wx) : PE X (.Call (.Name x p) [] [] pos) (fun σ H Q=>sp [] H Q (WE Wx σ)):=by
 refine ⟨fun pins s σ H Q I h => ?_⟩
 refine wpAny_Call_Name_kw (ld_glob I hg hm ?_ hd)
 exact PySem.W.callWith_K0 I.kIn hk (wpAny_call (zZAa (us:=[]) Fn hr (L2N.passAt tk σ) I .nil h))
/-- where a def stands,what it promises -/
structure DefOk (B : Tb0) (P : Program) (w : World) (K : PySem.W.Frag) (mg : Str → Option Value) (base : Heap) (k : Nat) (c : List D → Wd → R D) (a : Addr) : Prop where
 fn : FnR P w K mg base (L2N.CX P w) k a (spC B c)
 kp : PySem.W.keepIn K (.ref a) = true
def headOk : List Expr → Bool
 | []=>true | a :: _=>notStar a
theorem zZKS {k : Nat} {a : Addr} {c : List D → Wd → R D} {x : Str} (Fn : DefOk B X.prog X.w X.K X.mg X.base k c a) (hl : XLk B X) (hr : Room k X.A) (hg : Gl X x) (hm : X.mg x = some (.ref a)) (hd : (x == ("__debug__" : Str)) = false) :
  EOk B X (.Call (.Name x p) [] [] pos) (fun e W=>c [] W) :=
 ⟨_,zZKG Fn.fn hr hg hm Fn.kp hd hl.tk,fun e W sg H F eta Q s k=>⟨[],W,F,eta,s.ok,.nil,R.wp_mono2 k (hl.wish s s.ok (Ext.refl _ _ _)) fun _ _ k=>k⟩⟩
theorem zZMA {k : Nat} {a : Addr} {c : List D → Wd → R D} {x : Str} {fs : Env → Wd → R (List D)} (Fn : DefOk B X.prog X.w X.K X.mg X.base k c a) (hl : XLk B X) (hr : Room k X.A) (hg : Gl X x) (hm : X.mg x = some (.ref a)) (hd : (x == ("__debug__" : Str)) = false)
  (hn : notStar pa = true) (ha : AOk B X (pa :: es) fs) : EOk B X (.Call (.Name x p) (pa :: es) [] pos) (fun e W=>(fs e W).bind fun xs W=>c xs W):=by
 obtain ⟨ta,ha,ka⟩:=ha
 refine ⟨_,zZLv Fn.fn hr hg hm Fn.kp hd hn hl.tk ha,fun e W sg H F eta Q s k => ?_⟩
 refine ka e W sg H F eta _ s ?_
 rw [R.wp_bind] at k
 refine R.wp_mono k fun xs W1 k vs H1 F1 eta1 o1 x1 r1 => ?_
 exact ⟨xs,W1,F1,eta1,o1,r1,R.wp_mono2 k (hl.wish s o1 x1) fun d W2 k v H' F' eta' o' x' r'=>k v H' F' eta' o' (Ext.trans s.ok o1 x1 x') r'⟩
/-- a def that is called within an except suite -/
def DefH (B : Tb0) (P : Program) (w : World) (K : PySem.W.Frag) (mg : Str → Option Value) (base : Heap) (k : Nat) (c : List D → Wd → R D) (a : Addr) : Prop :=
 PySem.W.keepIn K (.ref a) = true ∧ ∃ (fd : FuncData) (ps : List Str),Binds K fd ps [] ∧ L2H.FnH P w K mg base (L2N.CX P w) k a fd ps (spC B c)
theorem zZKE {k : Nat} {a : Addr} {c : List D → Wd → R D} {x : Str} {fs : Env → Wd → R (List D)} (Fn : DefH B X.prog X.w X.K X.mg X.base k c a) (hl : XLk B X) (hr : L2H.RoomH k X.A) (hc : L2H.HotC X) (hg : Gl X x) (hm : X.mg x = some (.ref a)) (hd : (x == ("__debug__" : Str)) = false)
  (hn : (pa :: es).all notStar = true) (ha : AOk B X (pa :: es) fs) : EOk B X (.Call (.Name x p) (pa :: es) [] pos) (fun e W=>(fs e W).bind fun xs W=>c xs W):=by
 obtain ⟨kp,fd,ps,hb,F⟩:=Fn
 obtain ⟨ta,ha,ka⟩:=ha
 simp only [List.all_cons,Bool.and_eq_true] at hn
 refine ⟨_,L2H.pe_callH (E:=fun σ=>WE B.wx σ) F hr hc hg hm kp hb (fun σ=>L2N.passAt hl.tk σ) ha hd (star1 hn.1 _ _) (xZm _ _ hn.2),fun e W sg H F eta Q s k => ?_⟩
 refine ka e W sg H F eta _ s ?_
 rw [R.wp_bind] at k
 refine R.wp_mono k fun xs W1 k vs H1 F1 eta1 o1 x1 r1 => ?_
 exact ⟨xs,W1,F1,eta1,o1,r1,R.wp_mono2 k (hl.wish s o1 x1) fun d W2 k v H' F' eta' o' x' r'=>k v H' F' eta' o' (Ext.trans s.ok o1 x1 x') r'⟩
theorem zZGx {o : Expr} {m : Str} {apos : Pos} {env : PySem.Env} (hb : attributeBase o m env (eval o env) = eval o env) (hl : (apos.endLine == pos.line) = true) (hn : es.all notStar = true) (hz : es.length < 30) :
  eval (.Call (.Attribute o m apos) es [] pos) env = (do
   let ov ← eval o env
   standAt apos.atName
   let (f,first) ← holding [ov] (getMethod ov m (do return (← importBound o env).getD true))
   callWith pos f first (backTo pos (starEach es env)) (backToKw pos (keywordEach [] env))):=by
 have hform : methodCallForm (es.length + ([] : List Keyword).length) (backTo pos (starEach es env)) (backToKw pos (keywordEach [] env)) = true:=by
  unfold methodCallForm
  have h1 : (backTo pos (starEach es env)).all (fun x => !x.1) = true:=by
   have:=xZm env pos hn
   simpa [List.all_eq_not_any_not] using this
  have h2 : (backToKw pos (keywordEach [] env)) = []:=rfl
  rw [h1,h2]
  simp
  exact hz
 have hpos : methodCallPos true o env apos pos = pure pos:=by
  unfold methodCallPos
  rw [hl]
  rfl
 rw [arm_eval_Call,hb]
 unfold methodCall
 rw [hform,hpos]
 rfl
def tMethR (X : Cx) (Wx : WX) (k : Nat) (m : Str) (ta : TE) (t : TA) : TE:=fun σ H Q=>ta σ H fun x H1 => ∃ (a dx C g : Addr) (fs : List (Str × V)) (sp : Sp),x = .ref a ∧ H1 a = some (.ins C dx fs) ∧ Cls X.K C ∧ Meth X.K C m g ∧
   fs.lookup m = none ∧ FnR X.prog X.w X.K X.mg X.base (L2N.CX X.prog X.w) k g sp ∧ t σ H1 fun vs H2=>sp (x :: vs) H2 Q (WE Wx σ)
theorem zZL8 {k : Nat} {o : Expr} {m : Str} {apos : Pos} {ta : TE} {t : TA} {Wx : WX} (tk : L2N.Takes X Wx) (hr : Room k X.A) (hb : attributeBase o m X.env (eval o X.env) = eval o X.env) (hl : (apos.endLine == pos.line) = true) (hn : (pa :: es).all notStar = true) (hz : (pa :: es).length < 30)
  (ho : PE X o ta) (ha : PA X (pa :: es) t) : PE X (.Call (.Attribute o m apos) (pa :: es) [] pos) (tMethR X Wx k m ta t):=by
 refine ⟨fun pins s σ H Q I h => ?_⟩
 refine PySem.W.methodCall_KW (pl:=do return (← importBound o X.env).getD true) (thn (ho.run pins s σ H _ I h) fun u s1 ⟨x,H1,I1,rx,a,dx,C,g,fs,sp,ex,ea,c,hm,l,Fn,q⟩ => ?_) (zZGx hb hl hn hz)
 subst ex
 obtain rfl : u = Value.ref a:=rx
 refine getmeth_ok I1 ea c hm l ?_
 simp only [List.all_cons,Bool.and_eq_true] at hn
 refine PySem.W.callWith_K (first:=[.ref a]) (h₀:=X.base) I1.ok.mod.kin hm.kp (thn (ha.run pos pins s1 σ H1 _ I1 q) fun us s2 ⟨vs,H2,I2,r,q2⟩=>⟨I2.kIn, ?_⟩) (star1 hn.1 _ _) (xZm _ _ hn.2)
 exact wpAny_call (zZAa (us:=.ref a :: us) (vs:=.ref a :: vs) Fn hr (L2N.passAt tk σ) I2 (.cons rfl r) q2)
theorem zZKh {k : Nat} {o : Expr} {m : Str} {apos : Pos} {ta : TE} {Wx : WX} (tk : L2N.Takes X Wx) (hr : Room k X.A) (hb : attributeBase o m X.env (eval o X.env) = eval o X.env) (hl : (apos.endLine == pos.line) = true)
  (ho : PE X o ta) : PE X (.Call (.Attribute o m apos) [] [] pos) (tMethR X Wx k m ta tNil):=by
 refine ⟨fun pins s σ H Q I h => ?_⟩
 refine PySem.W.methodCall_KW (pl:=do return (← importBound o X.env).getD true) (thn (ho.run pins s σ H _ I h) fun u s1 ⟨x,H1,I1,rx,a,dx,C,g,fs,sp,ex,ea,c,hm,l,Fn,q⟩ => ?_) (zZGx hb hl rfl (by decide))
 subst ex
 obtain rfl : u = Value.ref a:=rx
 refine getmeth_ok I1 ea c hm l ?_
 exact PySem.W.callWith_K0 (first:=[.ref a]) I1.kIn hm.kp (wpAny_call (zZAa (us:=[.ref a]) (vs:=[.ref a]) Fn hr (L2N.passAt tk σ) I1 (.cons rfl .nil) q))
/-- what is known of the methods -/
def MethOk (B : Tb0) (P : Program) (w : World) (K : PySem.W.Frag) (mg : Str → Option Value) (base : Heap) (k : Nat) (g : Cfg) : Prop :=
 ∀ c m f,g.meth c m = some f → m < B.nA ∧ Cls K (B.ca c) ∧ ∃ a,Meth K (B.ca c) (B.fn m) a ∧ FnR P w K mg base (L2N.CX P w) k a (spC B (g.call f))
def methF (g : Cfg) (m : Nat) (fa : Env → Wd → R D) (fs : Env → Wd → R (List D)) : Env → Wd → R D:=fun e W=>(fa e W).bind fun o W =>
  (match o with
   | .ins c fs=>if (fs.lookup m).isNone then opt (g.meth c m) W else .st
   | .own n=>(match W[n]? with | some (.ins c fs)=>if (fs.lookup m).isNone then opt (g.meth c m) W else .st | _=>.st)
   | _=>.st).bind fun f W=>(fs e W).bind fun xs W=>g.call f (o :: xs) W
theorem zZGv {lv : Nat} {g : Cfg} {m : Nat} {nm : Str} {fs : Env → Wd → R (List D)} {ta : TE} {tb : TA} (hx : XLk B X) (hM : MethOk B X.prog X.w X.K X.mg X.base lv g) (hnm : B.fn m = nm)
  (ka : ∀ (e : Env) (W : Wd) (sg : L2.St) (H F : Hp) (eta : List Addr) (Q : VK),Stt B e W sg H F eta →
   (fa e W).wp B.xq (fun d W' => ∀ (v : V) (H' F' : Hp) (eta' : List Addr),OkH B F' eta' W' H' → Ext F eta H F' eta' H' → Rep B F' eta' d v → Q v H') → ta sg H Q)
  (kb : ∀ (e : Env) (W : Wd) (sg : L2.St) (H F : Hp) (eta : List Addr) (Q : List V → Hp → Prop),Stt B e W sg H F eta →
   (fs e W).wp B.xq (fun ds W' => ∀ (vs : List V) (H' F' : Hp) (eta' : List Addr),OkH B F' eta' W' H' → Ext F eta H F' eta' H' → RepL B F' eta' ds vs → Q vs H') → tb sg H Q) :
  ∀ (e : Env) (W : Wd) (sg : L2.St) (H F : Hp) (eta : List Addr) (Q : VK),Stt B e W sg H F eta →
   (methF g m fa fs e W).wp B.xq (fun d W' => ∀ (v : V) (H' F' : Hp) (eta' : List Addr),OkH B F' eta' W' H' → Ext F eta H F' eta' H' → Rep B F' eta' d v → Q v H') → tMethR X B.wx lv nm ta tb sg H Q:=by
 subst hnm
 intro e W sg H F eta Q s k
 refine ka e W sg H F eta _ s ?_
 unfold methF at k
 rw [R.wp_bind] at k
 refine R.wp_mono k fun o W1 k v H1 F1 eta1 o1 x1 r1 => ?_
 have go : ∀ (a dx : Addr) (c f : Nat) (gs : List (Str × V)),v = .ref a → H1 a = some (.ins (B.ca c) dx gs) → g.meth c m = some f → gs.lookup (B.fn m) = none →
   ((fs e W1).bind fun xs W=>g.call f (o :: xs) W).wp B.xq (fun d W' => ∀ (v : V) (H' F' : Hp) (eta' : List Addr),OkH B F' eta' W' H' → Ext F eta H F' eta' H' → Rep B F' eta' d v → Q v H') →
   ∃ (a dx C q : Addr) (fs : List (Str × V)) (sp : Sp),v = .ref a ∧ H1 a = some (.ins C dx fs) ∧ Cls X.K C ∧ Meth X.K C (B.fn m) q ∧
   fs.lookup (B.fn m) = none ∧ FnR X.prog X.w X.K X.mg X.base (L2N.CX X.prog X.w) lv q sp ∧ tb sg H1 fun vs H2=>sp (v :: vs) H2 Q (WE B.wx sg):=by
  intro a dx c f gs e1 e2 e3 e4 k
  obtain ⟨_,h2,q,h3,h4⟩:=hM c m f e3
  refine ⟨a,dx,_,q,gs,_,e1,e2,h2,h3,e4,h4, ?_⟩
  refine kb e W1 sg H1 F1 eta1 _ (s.ext x1 o1) ?_
  rw [R.wp_bind] at k
  refine R.wp_mono k fun xs W2 k vs H2 F2 eta2 o2 x2 r2 => ?_
  have y2:=Ext.trans s.ok o1 x1 x2
  exact ⟨o :: xs,W2,F2,eta2,o2,.cons (r1.mono x2.sub x2.pre) r2,R.wp_mono2 k (hx.wish s o2 y2) fun d W3 k v H' F' eta' o' x' r'=>k v H' F' eta' o' (Ext.trans s.ok o2 y2 x') r'⟩
 cases r1 with
 | ins h r =>
  simp only [] at k
  split at k
  ·rename_i hl
   rw [R.wp_bind] at k
   obtain ⟨f,q,k⟩:=zZB k
   have hlt:=(hM _ m f q).1
   exact go _ _ _ f _ rfl (o1.sub _ _ h) q (r.lookup_none hlt (Option.isNone_iff_eq_none.mp hl)) k
  ·exact k.elim
 | own h =>
  simp only [] at k
  split at k
  ·rename_i c fs hw
   split at k
   ·rename_i hl
    rw [R.wp_bind] at k
    obtain ⟨f,q,k⟩:=zZB k
    have hlt:=(hM _ m f q).1
    obtain ⟨dx,gs,q1,q2⟩:=o1.cell _ _ _ h hw
    exact go _ _ _ f _ rfl q1 q (q2.lookup_none hlt (Option.isNone_iff_eq_none.mp hl)) k
   ·exact k.elim
  ·exact k.elim
 | _=>exact k.elim
theorem zZMV {k : Nat} {g : Cfg} {m : Nat} {nm : Str} {apos : Pos} {fs : Env → Wd → R (List D)} (hx : XLk B X) (hM : MethOk B X.prog X.w X.K X.mg X.base k g) (hr : Room k X.A) (hnm : B.fn m = nm)
  (hb : attributeBase pb nm X.env (eval pb X.env) = eval pb X.env) (hl : (apos.endLine == pos.line) = true) (hn : (pa :: es).all notStar = true) (hz : (pa :: es).length < 30) (ho : EOk B X pb fa) (ha : AOk B X (pa :: es) fs) :
  EOk B X (.Call (.Attribute pb nm apos) (pa :: es) [] pos) (methF g m fa fs):=by
 obtain ⟨ta,ho,ka⟩:=ho
 obtain ⟨tb,ha,kb⟩:=ha
 exact ⟨_,zZL8 hx.tk hr hb hl hn hz ho ha,zZGv hx hM hnm ka kb⟩
theorem zZKo {k : Nat} {g : Cfg} {m : Nat} {nm : Str} {apos : Pos} (hx : XLk B X) (hM : MethOk B X.prog X.w X.K X.mg X.base k g) (hr : Room k X.A) (hnm : B.fn m = nm)
  (hb : attributeBase pb nm X.env (eval pb X.env) = eval pb X.env) (hl : (apos.endLine == pos.line) = true) (ho : EOk B X pb fa) :
  EOk B X (.Call (.Attribute pb nm apos) [] [] pos) (methF g m fa (fun _ W=>.ok [] W)):=by
 obtain ⟨ta,ho,ka⟩:=ho
 exact ⟨_,zZKh hx.tk hr hb hl ho,zZGv hx hM hnm ka fun e W sg H F eta Q s k=>k [] H F eta s.ok (Ext.refl _ _ _) .nil⟩
def MakeOk (B : Tb0) (P : Program) (w : World) (K : PySem.W.Frag) (mg : Str → Option Value) (base : Heap) (k : Nat) (g : Cfg) (c : Nat) (x : Str) : Prop :=
 mg x = some (.ref (B.ca c)) ∧ ∃ a,Mk K (B.ca c) a ∧ FnR P w K mg base (L2N.CX P w) k a (spI B c (g.init c))
theorem zZMT {k : Nat} {g : Cfg} {c : Nat} {x : Str} {fs : Env → Wd → R (List D)} (hM : MakeOk B X.prog X.w X.K X.mg X.base k g c x) (hl : XLk B X) (hr : Room (k + 1) X.A) (hg : Gl X x) (hd : (x == ("__debug__" : Str)) = false)
  (hn : (pa :: es).all notStar = true) (ha : AOk B X (pa :: es) fs) :
  EOk B X (.Call (.Name x p) (pa :: es) [] pos) (fun e W=>(fs e W).bind fun xs W=>(g.init c xs W).bind fun fs W=>if g.cellc c then newCell (.ins c fs) W else .ok (.ins c fs) W):=by
 obtain ⟨hm,a,M,Fn⟩:=hM
 obtain ⟨tb,ha,kb⟩:=ha
 simp only [List.all_cons,Bool.and_eq_true] at hn
 refine ⟨_,zZLF M Fn hr hg hm hl.tk ha hd (star1 hn.1 _ _) (xZm _ _ hn.2),fun e W sg H F eta Q s k => ?_⟩
 refine kb e W sg H F eta _ s ?_
 rw [R.wp_bind] at k
 refine R.wp_mono k fun xs W1 k vs H1 F1 eta1 o1 x1 r1 x dx hx hdx hne => ?_
 rw [R.wp_bind] at k
 refine ⟨xs,W1,F1,eta1,x,dx,vs,H1,rfl,rfl,hx,hdx,hne,o1,r1,R.wp_mono2 k (hl.wish s o1 x1) fun fs W2 k H2 F2 eta2 dx2 gs o2 x2 h2 h3 h4 r2=>⟨rfl, ?_⟩⟩
 have y2:=Ext.trans s.ok o1 x1 x2
 have h0 : H x = none:=x1.there s.ok o1 hx
 split at k
 ·have o3 : OkH B F2 (eta2 ++ [x]) (W2 ++ [.ins c fs]) H2:=o2.toCell h3 h4 ⟨dx2,gs,h2,r2.mono (SubH.refl _) (List.prefix_append _ _)⟩
  refine k (.ref x) H2 F2 (eta2 ++ [x]) o3 ⟨y2.sub,y2.pre.trans (List.prefix_append _ _),y2.keep,y2.newF,fun b hb => ?_⟩ (.own ?_)
  ·rcases List.mem_append.mp hb with hb | hb
   ·exact y2.newE b hb
   ·rw [List.mem_singleton.mp hb]; exact .inr h0
  ·rw [← o2.len]; simp
 ·have s1:=zZ8 (u:=HO.ins (B.ca c) dx2 gs) h3
  refine k (.ref x) H2 (upd F2 x (.ins (B.ca c) dx2 gs)) eta2 (o2.frz h2 h3 h4) ⟨y2.sub.trans s1,y2.pre,y2.keep,fun b hb => ?_,y2.newE⟩ (.ins upd_same (r2.mono s1 (List.prefix_refl _)))
  by_cases e : b = x
  ·subst e; exact .inr h0
  ·rw [upd_ne e] at hb; exact y2.newF b hb
end
end DL
set_option maxRecDepth 100000
set_option maxHeartbeats 4000000
namespace DL
open PySem PySem.Spec PyProof.Rows
open L2 hiding St
end DL
set_option maxRecDepth 100000
set_option maxHeartbeats 4000000
namespace DL
open PySem PySem.Spec PyProof.Rows
open L2 hiding St
section
variable {B : Tb} {X : Cx} {py pa pb pc : Expr} {pos p : Pos} {fa fb : Env → Wd → R D} {e : Env} {sg : L2.St} {F F' H H' : Hp} {eta eta' : List Addr} {W W' : Wd}
/-- what is known of the own == -/
def EqmOk (B : Tb0) (P : Program) (w : World) (K : PySem.W.Frag) (mg : Str → Option Value) (base : Heap) (k : Nat) (g : Cfg) : Prop :=
 ∀ c c' f,g.eqm c c' = some f → ∃ a,PySem.W.findIn K (.ref (B.ca c)) "__eq__" = some (some (.ref a)) ∧ PySem.W.isFn K (.ref a) = true ∧ PySem.W.notFirst K (B.ca c) (.ref (B.ca c')) = true ∧ FnR P w K mg base (L2N.CX P w) k a (spC B (g.call f))
/-- isinstance(x,C),C a class of the text -/
structure IscAt (K : PySem.W.Frag) (C C' : Addr) (r : Bool) : Prop where
 cl : Cls K C
 ha : PySem.W.findIn K (.ref C) "__class__" = some (some (.builtin "object.__class__"))
 hn : PySem.W.specialIn K (.builtin "object.__class__") "__get__" = some (some (.builtin "getset_descriptor.__get__"))
 tk : PySem.W.takesIn K (.builtin "object.__class__") = some true
 mr : PySem.W.mroIn K C (.type "object") = some true
 kit : PySem.W.kitOne K (.ref C) (.ref C') = some r
 kn : PySem.W.kitOne K (.type "NoneType") (.ref C') = some false
def IscOk (B : Tb0) (K : PySem.W.Frag) (g : Cfg) : Prop := ∀ c c' r,g.isc c c' = some r → IscAt K (B.ca c) (B.ca c') r
end
end DL
set_option maxRecDepth 100000
set_option maxHeartbeats 4000000
namespace DL
open PySem PySem.Spec PyProof.Rows
open L2 hiding St
def inN : Nat → Around → Around
 | 0,A=>A
 | j + 1,A=>(inN j A).in1
theorem zZKR : ∀ (j : Nat) (A : Around),(inN j A).units = A.units + j ∧ (inN j A).depth = A.depth ∧ (inN j A).handled = A.handled
 | 0,_=>⟨rfl,rfl,rfl⟩
 | j + 1,A=>by
  obtain ⟨a,b,c⟩:=zZKR j A
  refine ⟨?_,b,c⟩
  show (inN j A).units + 1 = _
  rw [a]
  omega
theorem zZBp {k j : Nat} {A : Around} (r : Room (k + 1) A) (h : j ≤ 16) : Room k (inN j A):=by
 obtain ⟨a,b,c⟩:=zZKR j A
 exact ⟨c.trans r.hd,by have:=r.dp; rw [b]; omega,by have:=r.un; rw [a]; omega⟩
section
variable {B : Tb} {X : Cx} {pins : List (Addr × Obj)} {σ : L2.St} {py pa pb pc : Expr} {pos p : Pos} {fa fb : Env → Wd → R D} {e : Env} {sg : L2.St} {F F' H H' : Hp} {eta eta' : List Addr} {W W' : Wd} {s : Shared}
theorem zZJ9 {P : Program} {w : World} {K : PySem.W.Frag} {mg : Str → Option Value} {base : Heap} {A : Around} {outer : List PySem.Env} (e : Env0 P w K mg base A outer s H) : ∀ j,Env0 P w K mg base (inN j A) outer s H
 | 0=>e
 | j + 1=>(zZJ9 e j).in1
theorem zZK3 {j k : Nat} {g : Addr} {sp : Sp} {Q : VK} {us : List Value} {ws : List V} {E : Value → Shared → Prop} (Fn : FnR X.prog X.w X.K X.mg X.base (L2N.CX X.prog X.w) k g sp) (hr : Room (k + 1) X.A) (hj : j ≤ 16) (I : Inv X pins σ H s) (r : Vals ws us) (h : sp ws H Q E0) :
  codeAny (model X.prog X.w) (inN j X.A) (.call (.ref g) ⟨us,[]⟩) (fun r s'=>match r with | .ok (.ret v)=>EP X pins σ Q v s' | .ok _=>False | .error e=>E e s') s:=by
 refine codeAny_mono (Fn (inN j X.A) X.stack s H us ws Q E0 (zZBp hr hj) (zZJ9 I.env0 j) r h) fun r s' hq => ?_
 cases r with
 | error e =>
  obtain ⟨_,_,_,_,_,_,_,_,_,_,_,_,z⟩:=hq
  exact z.elim
 | ok fl =>
  cases fl with
  | ret u=>exact I.after hq
  | next=>exact False.elim hq
  | brk=>exact False.elim hq
  | cont=>exact False.elim hq
end
end DL
set_option maxRecDepth 100000
set_option maxHeartbeats 4000000
namespace DL
open PySem PySem.Spec PyProof.Rows
open L2 hiding St
inductive Sk where
 | l | t
def IterAt (k : Sk) (h : Heap) (it a : Addr) (i : Nat) : Prop:=match k with | .l=>h.IsListIter it a i | .t=>h.IsTupleIter it a i
def SeqAtK (k : Sk) (h : Heap) (a : Addr) (its : Array Value) : Prop:=match k with | .l=>h.IsList a its | .t=>h.IsTuple a its
def SqK (k : Sk) (K : PySem.W.Frag) (H : Hp) (a : Addr) (xs : List V) : Prop:=match k with | .l=>SqL K H a xs | .t=>SqT K H a xs
def iterObj (k : Sk) (a : Addr) : Obj:=match k with
 | .l=>{ cls:=.type "list_iterator",data:=.fields #[.ref a,.int 0 0] }
 | .t=>{ cls:=.type "tuple_iterator",data:=.fields #[.ref a,.int 0 0] }
section
variable {k : Sk} {h h' : Heap} {it a : Addr} {i : Nat} {its : Array Value}
theorem IterAt.obj (x : IterAt k h it a i) : ∃ o,h.get? it = some o ∧ ∀ v,o.data ≠ .cell v:=by
 cases k with
 | l=>obtain ⟨o,e,_,d⟩:=x; exact ⟨o,e,fun v q=>by rw [d] at q; cases q⟩
 | t=>obtain ⟨o,e,d⟩:=x; exact ⟨o,e,fun v q=>by simp [d] at q⟩
theorem IterAt.at (x : IterAt k h it a i) (e : ∀ o,h.get? it = some o → h'.get? it = some o) : IterAt k h' it a i:=by
 cases k with
 | l=>exact Heap.IsListIter.at x e
 | t=>exact Heap.IsTupleIter.at x e
theorem zZHx {prog : Program} {w : World} {A : Around} (hh : A.handled = none) (hne : a ≠ it) (its : Array Value) : Draws prog w A it [it,a] its.size (fun i v=>its[i]? = some v) (fun i h=>IterAt k h it a i ∧ SeqAtK k h a its):=by
 cases k with
 | l=>exact Draws.list hh it a hne its
 | t=>exact Draws.tuple hh it a hne its
theorem zZJ0 (its : Array Value) : Begins (.ref a) (iterObj k a) (fun h=>SeqAtK k h a its):=by
 cases k with
 | l=>exact begins_list a its
 | t=>exact begins_tuple a its
theorem zZJw (e : h.get? it = some (iterObj k a)) : IterAt k h it a 0:=by
 cases k with
 | l=>exact ⟨_,e,rfl,rfl⟩
 | t=>exact ⟨_,e,rfl,rfl⟩
end
section
variable {X : Cx} {pins : List (Addr × Obj)} {σ : L2.St} {H : Hp} {s : Shared} {k : Sk} {a : Addr} {xs ys : List V}
theorem zZH8 (I : L2.Inv X pins σ H s) (h : SqK k X.K H a xs) : ∃ its : List Value,Vals xs its ∧ SeqAtK k s.heap a its.toArray ∧ a < s.heap.objs.size:=by
 cases k with
 | l=>obtain ⟨its,r,p,_⟩:=I.list h; exact ⟨its,r,p.isList,p.lt⟩
 | t=>obtain ⟨its,r,p,_⟩:=I.tuple h; exact ⟨its,r,p,p.lt⟩
theorem zZJW (I : L2.Inv X pins σ H s) (h : SqK k X.K H a xs) (h' : SqK k X.K H a ys) : xs = ys:=by
 cases k with
 | l=>exact I.list_inj h h'
 | t=>exact I.tuple_inj h h'
end
theorem zZMR {X : Cx} {pins : List (Addr × Obj)} {s : Shared} {σ : L2.St} {H : Hp} {E : Value → Shared → Prop} {tg : Expr} {it : Addr} {fpG wr fp : List Addr} {n : Nat} {Y : Nat → Heap → Value → Heap → Prop} {St : Nat → Heap → Prop} {J : L2.It} {tn : Nat → Heap → Prop} {i : Nat} {xs : List V}
  (G : GoesN X.prog X.w X.A tg it fpG wr n Y St) (I : L2.Inv X pins σ H s) (hf : ∀ b ∈ fp,FpOk X pins H b) (hfp : ∀ b ∈ fp,b < s.heap.objs.size) (hwr : ∀ b ∈ wr,b ∈ fp) (hi : i < n) (st : St i s.heap) (ht : ∀ h',St (i + 1) h' → tn (i + 1) h') (hz : xs.length ≤ 3)
  (hY : ∀ h₀ v h',Y i h₀ v h' → ∃ (T : Addr) (vals : List Value),v = .ref T ∧ h₀.objs.size ≤ T ∧ h'.IsTuple T vals.toArray ∧ Vals xs vals)
  (hJ : ∀ T,H T = none → J.yld i H (.ref T) (upd H T (.tup xs))) :
  wpAny (model X.prog X.w) X.A (pyNext (.ref it)) (fun r s1 => ∃ u,r = some u ∧
   wpAny (model X.prog X.w) X.A (letOwnedTupleGo tg (.ref it) u) (fun _ s2 => ∃ x H',L2.Inv X pins σ H' s2 ∧ RelV x u ∧ J.yld i H x H' ∧ tn (i + 1) s2.heap ∧ ∀ b ∈ fp,H' b = none) E s1) E s:=by
 refine G.goes i s (fun u s2 => ∃ x H',L2.Inv X pins σ H' s2 ∧ RelV x u ∧ J.yld i H x H' ∧ tn (i + 1) s2.heap ∧ ∀ b ∈ fp,H' b = none) E hi st fun v h' tk y st' kk htk => ?_
 obtain ⟨T,vals,rfl,hT,hv,rv⟩:=hY _ _ _ y
 have hn : H T = none:=I.hok.fresh hT
 have new : ObjOk X.prog X.w (upd H T (.tup xs)) h' T (.tup xs):=⟨Nat.le_trans hz (by decide),vals,rv,hv⟩
 have I1 : L2.Inv X pins σ (upd H T (.tup xs)) { s with heap:=h',toks:=tk }:=I.turnedNew (ch:=wr) (fun b o hb q=>kk b o hb q) (fun b hb=>hf b (hwr b hb)) hT new
 refine ⟨.ref T,_,I1,rfl,hJ T hn,ht h' st',fun b hb => ?_⟩
 rw [upd_ne (Nat.ne_of_lt (Nat.lt_of_lt_of_le (hfp b hb) hT))]
 exact (hf b hb).1
theorem zZLH {X : Cx} {pins : List (Addr × Obj)} {s : Shared} {σ : L2.St} {H : Hp} {E : Value → Shared → Prop} {tg : Expr} {it : Addr} {fpG wr fp : List Addr} {n : Nat} {Y : Nat → Heap → Value → Heap → Prop} {St : Nat → Heap → Prop}
  (G : GoesN X.prog X.w X.A tg it fpG wr n Y St) (I : L2.Inv X pins σ H s) (hf : ∀ b ∈ fp,FpOk X pins H b) (hwr : ∀ b ∈ wr,b ∈ fp) (st : St n s.heap) :
  wpAny (model X.prog X.w) X.A (pyNext (.ref it)) (fun r s1=>r = none ∧ L2.Inv X pins σ H s1) E s :=
 G.stops s (fun s1=>L2.Inv X pins σ H s1) E st fun h' tk kk _=>I.turnedL (ch:=wr) (fun b o hb q=>kk b o hb q) fun b hb=>hf b (hwr b hb)
def Je (K : PySem.W.Frag) (k : Sk) (a : Addr) : L2.It :=
 ⟨fun i H => ∃ (xs : List V) (x : V),SqK k K H a xs ∧ xs[i]? = some x,
  fun i H v H' => ∃ T x,v = .ref T ∧ H T = none ∧ H' = upd H T (.tup [.int (i : Nat),x]) ∧ ∀ xs,SqK k K H a xs → xs[i]? = some x,
  fun i H => ∃ xs : List V,SqK k K H a xs ∧ xs.length = i⟩
theorem zZOG {P : Program} {w : World} {K : PySem.W.Frag} {elts : List Expr} {kk : Nat} {tpos : Pos} {k : Sk} {a e it : Addr} (hei : e ≠ it) (hea : e ≠ a) (hai : a ≠ it) :
  Turn P w K (.Tuple elts kk tpos) (Je K k a) [e,it] e (fun i h=>(∃ old,IsEnum h e it ((0 : Int) + (i : Int)) old) ∧ IterAt k h it a i) where
 mem:=by simp
 obj:=fun i h st d hd=>by
  obtain ⟨⟨old,he⟩,h1⟩:=st
  have e' : d = e ∨ d = it:=by simpa using hd
  rcases e' with q | q <;> subst q
  ·exact ⟨_,he,fun v q=>nomatch q⟩
  ·exact h1.obj
 keep:=fun i h h' st q=>by
  obtain ⟨⟨old,he⟩,h1⟩:=st
  exact ⟨⟨old,q e (by simp) _ he⟩,h1.at fun o z=>q it (by simp) o z⟩
 item:=by
  intro X hP hw hK hc i pins s σ H E I hf st hg
  subst hP hw hK
  obtain ⟨he,h1⟩:=st
  obtain ⟨xs,x,hqx,hx⟩:=hg
  obtain ⟨its1,rv1,p1,_⟩:=zZH8 I hqx
  have n1 : i < its1.toArray.size:=by have:=(List.getElem?_eq_some_iff.mp hx).1; have:=rv1.length; simp; omega
  have G:=GoesN.enumFrom (elts:=elts) (x1:=kk) (pos:=tpos) 0 (zZHx (prog:=X.prog) (w:=X.w) (A:=X.A.in1) (k:=k) (I.ok.hd hc) hai its1.toArray) e hei (by simp [hei,hea]) (by simp)
  refine zZMR (J:=Je X.K k a) (tn:=fun i h=>(∃ old,IsEnum h e it ((0 : Int) + (i : Int)) old) ∧ IterAt k h it a i) (xs:=[.int (i : Nat),x]) (fp:=[e,it]) G I hf (fun d hdm => ?_) (by simp) n1 ⟨he,h1,p1⟩ (fun h' ⟨q1,q2⟩=>⟨q1,q2.1⟩) (by simp) (fun h₀ v h' ⟨T,t,u1,e1,e2,e3,e4⟩ => ?_) (fun T hT => ?_)
  ·obtain ⟨old,he⟩:=he
   have e' : d = e ∨ d = it:=by simpa using hdm
   rcases e' with q | q <;> subst q
   ·exact Heap.lt_size he
   ·obtain ⟨o,e,_⟩:=h1.obj; exact Heap.lt_size e
  ·obtain ⟨w1,g1,r1⟩:=rv1.get hx
   have f1 : w1 = u1:=by simpa [g1] using e3
   subst f1
   exact ⟨T,[.int (0 + (i : Int)) t,w1],e1,e2,e4,.cons ⟨t,by rw [Int.zero_add]⟩ (.cons r1 .nil)⟩
  ·exact ⟨T,x,rfl,hT,rfl,fun l hl=>by rw [zZJW I hl hqx]; exact hx⟩
 done:=by
  intro X hP hw hK hc i pins s σ H E I hf st hg
  subst hP hw hK
  obtain ⟨he,h1⟩:=st
  obtain ⟨xs,hqx,hend⟩:=hg
  obtain ⟨its1,rv1,p1,_⟩:=zZH8 I hqx
  have G:=GoesN.enumFrom (elts:=elts) (x1:=kk) (pos:=tpos) 0 (zZHx (prog:=X.prog) (w:=X.w) (A:=X.A.in1) (k:=k) (I.ok.hd hc) hai its1.toArray) e hei (by simp [hei,hea]) (by simp)
  have en : its1.toArray.size = i:=by have:=rv1.length; simp; omega
  exact zZLH (fp:=[e,it]) G I hf (by simp) (by rw [en]; exact ⟨he,h1,p1⟩)
 self:=fun A i s Q E st h=>let ⟨⟨_,he⟩,_⟩:=st; wpAny_pyIter_enum he h
set_option maxHeartbeats 4000000 in
theorem zZIo {v : Value} {o : PySem.Obj} {H : Heap → Prop} (B : Begins v o H) :
  Meets (Builtin.«enumerate.__new__» ⟨[.type "enumerate",v],[]⟩) (fun _ R s=>H s.heap ∧
   R (.ok (.ret (.ref (s.heap.push o).objs.size))) { s with heap:=(s.heap.push o).push { cls:=.type "enumerate",data:=.fields #[.none,.bool false,.ref s.heap.objs.size,rawInt 0,.none,.none] } }) :=
 .of_wp fun prog w A R s h=>by
  obtain ⟨hp,g,d,tk,os⟩:=s; obtain ⟨h1,h⟩:=h
  have hsub:=sub_enumerate
  have q1 : ∀ {A' : Around} {E : Value → Shared → Prop} {Q : Value → Shared → Prop},Q (.ref hp.objs.size) ⟨hp.push o,g,d,tk,os⟩ → wpAny (model prog w) A' (pyIter v) Q E ⟨hp,g,d,tk,os⟩ :=
   fun q=>B.iter prog w _ _ ⟨hp,g,d,tk,os⟩ _ h1 q
  wp_walk using q1
  refine wpAny_stack_any fun st=>wpAny_pure ?_
  split
  ·rename_i c _ _ _ _ _
   cases (c == Value.type "enumerate")
   ·wp_walk using q1
    exact ⟨_,rfl,h⟩
   ·wp_walk using q1
    exact ⟨_,rfl,h⟩
  ·wp_walk using q1
   exact ⟨_,rfl,h⟩
theorem zZIX {prog : Program} {w : World} {A : Around} {E : Value → Shared → Prop} {s : Shared} {v : Value} {o : PySem.Obj} {H : Heap → Prop} {Q : Value → Shared → Prop} (B : Begins v o H) (h1 : H s.heap)
  (h : ∀ h',IsEnum h' (s.heap.objs.size + 1) s.heap.objs.size 0 .none → h'.get? s.heap.objs.size = some o → h'.objs.size = s.heap.objs.size + 2 →
   (∀ b o,s.heap.get? b = some o → h'.get? b = some o) → Q (.ref (s.heap.objs.size + 1)) { s with heap:=h' }) :
  wpAny (model prog w) A (PySem.call (.type "enumerate") [v]) Q E s:=by
 refine callType_new F.called_enumerate (by decide) (F.typeCall_enumerate_1 _) (F.newCall_enumerate_1 _) (fun obj=>F.args_object_init_2 obj _) F.entry_enumerate_new
  (zZIo B) ⟨h1, ?_⟩
 have hz : (s.heap.push o).objs.size = s.heap.objs.size + 1:=Heap.size_push ..
 show _ ∧ _
 rw [hz]
 have he : IsEnum ((s.heap.push o).push { cls:=.type "enumerate",data:=.fields #[.none,.bool false,.ref s.heap.objs.size,rawInt 0,.none,.none] }) (s.heap.objs.size + 1) s.heap.objs.size 0 .none:=by
  have:=Heap.get?_push_size (s.heap.push o) (o:={ cls:=.type "enumerate",data:=.fields #[.none,.bool false,.ref s.heap.objs.size,rawInt 0,.none,.none] }) rfl
  rw [hz] at this; exact this
 refine ⟨⟨_,he,rfl⟩,h _ he (Heap.get?_push_of_some _ (Heap.get?_push_size _ B.free)) (by rw [Heap.size_push,hz]) fun b o x=>Heap.get?_push_of_some _ (Heap.get?_push_of_some _ x)⟩
end DL
set_option maxRecDepth 100000
set_option maxHeartbeats 4000000
namespace DL
open PySem PySem.Spec PyProof.Rows
open L2 hiding St
/-- what stays as loops go on: what was frozen; a frame's places,if they are asked -/
def Per (B : Tb) (e : Env) (sg : L2.St) (F0 : Hp) (eta0 : List Addr) (b : Bool) (F : Hp) (eta : List Addr) (H : Hp) : Prop:=SubH F0 F ∧ eta0 <+: eta ∧ (b = true → ∃ W,Stt B e W sg H F eta)
structure IterOk (B : Tb) (J : L2.It) (ds : List D) (P : Hp → List Addr → Hp → Prop) : Prop where
 step : ∀ (i : Nat) (d : D) (F : Hp) (eta : List Addr) (W : Wd) (H : Hp),ds[i]? = some d → OkH B F eta W H → P F eta H → J.go i H ∧ ∀ (x : V) (H' : Hp),J.yld i H x H' → ∃ F',OkH B F' eta W H' ∧ Ext F eta H F' eta H' ∧ Rep B F' eta d x
 stop : ∀ (F : Hp) (eta : List Addr) (W : Wd) (H : Hp),OkH B F eta W H → P F eta H → J.stop ds.length H
def ItOk (B : Tb) (X : Cx) (tg py : Expr) (f : Env → Wd → R (List D × Bool)) : Prop := ∃ t : TI,PI X tg py t ∧ ∀ (e : Env) (W : Wd) (sg : L2.St) (H F : Hp) (eta : List Addr) (Q : L2.It → Hp → Prop),Stt B e W sg H F eta →
 (f e W).wp B.xq (fun ds W' => ∀ (J : L2.It) (H' F' : Hp) (eta' : List Addr),OkH B F' eta' W' H' → Ext F eta H F' eta' H' → IterOk B J ds.1 (Per B e sg F' eta' ds.2) → Q J H') → t sg H Q
section
variable {B : Tb} {X : Cx} {tg py pa pb pc : Expr} {pos p : Pos} {fa fb : Env → Wd → R D} {fs fs2 fs3 : Env → Wd → R Src}
variable {e : Env} {sg : L2.St} {F F' H H' : Hp} {eta eta' : List Addr} {W W' : Wd}
/-- a source,now and later -/
theorem zZKc {s : Src} {v : V} {xs : List D} (st : Stt B e W sg H F eta) (r : SrcRep B e sg F eta s v) (hi : items W s = some xs) (h : s.isIt = true) (K : PySem.W.Frag) :
  ∃ (a : Addr) (k : Sk),v = .ref a ∧ ∀ (F' : Hp) (eta' : List Addr) (H' : Hp) (W' : Wd),OkH B F' eta' W' H' → Per B e sg F eta s.isSlot F' eta' H' → ∃ vs,SqK k K H' a vs ∧ RepL B F' eta' xs vs:=by
 cases s with
 | frz ys d =>
  simp [items] at hi
  subst hi
  obtain ⟨r,hd⟩:=r
  rcases hd with rfl | rfl
  ·cases r with
   | lst h r=>exact ⟨_,.l,rfl,fun F' eta' H' W' o p=>⟨_,SqL.of (o.sub _ _ (p.1 _ _ h)),r.mono p.1 p.2.1⟩⟩
  ·cases r with
   | tup h r=>exact ⟨_,.t,rfl,fun F' eta' H' W' o p=>⟨_,((h.mono p.1).mono o.sub).sq,r.mono p.1 p.2.1⟩⟩
 | slot i ys =>
  simp [items] at hi
  subst hi
  obtain ⟨h1,h2⟩:=r
  obtain ⟨a,vs,q1,q2,q3,_,_⟩:=st.sl i _ h1
  rw [q1] at h2
  cases h2
  refine ⟨a,.l,rfl,fun F' eta' H' W' o p => ?_⟩
  obtain ⟨W2,st2⟩:=p.2.2 rfl
  obtain ⟨a',vs',z1,z2,z3,_,_⟩:=st2.sl i _ h1
  rw [q1] at z1
  cases z1
  exact ⟨vs',SqL.of z2,z3⟩
 | _=>cases h
def Jseq (K : PySem.W.Frag) (k : Sk) (a : Addr) : L2.It:=match k with | .l=>Itl K a | .t=>Itt K a
/-- a list or a tuple,walked -/
def iSeqA (K : PySem.W.Frag) (tl : TE) : TI:=fun σ H R=>tl σ H fun x H1 => ∃ (a : Addr) (k : Sk),x = .ref a ∧ (∃ xs,SqK k K H1 a xs) ∧ R (Jseq K k a) H1
theorem zZI4 {l : Expr} {tl : TE} (hl : PE X l tl) : PI X tg l (iSeqA X.K tl):=by
 refine ⟨fun pins s σ H R I h => ?_⟩
 refine thn (hl.run pins s σ H _ I h) fun v s1 ⟨x,H1,I1,r1,q1⟩ => ?_
 obtain ⟨a,k,e,⟨xs,hq⟩,q⟩:=q1
 subst e
 cases r1
 cases k with
 | l =>
  obtain ⟨its,rv,p,hz⟩:=I1.list hq
  refine wpAny_pyIter_list p.isList ?_
  refine ⟨s1.heap.objs.size,[s1.heap.objs.size],_,_,H1,rfl,I1.kept (t':=s1.toks) fun b o e=>Heap.get?_push_of_some _ e,turn_list a _,⟨_,Heap.get?_push_size _ rfl,rfl,rfl⟩,fun b hb => ?_,q⟩
  have e : b = s1.heap.objs.size:=by simpa using hb
  subst e
  exact I1.fpOk (Nat.le_refl _) (I1.hok.fresh (Nat.le_refl _))
 | t =>
  obtain ⟨its,rv,p,hz⟩:=I1.tuple hq
  refine wpAny_pyIter_tuple (show s1.heap.IsTuple a its.toArray from p) ?_
  refine ⟨s1.heap.objs.size,[s1.heap.objs.size],_,_,H1,rfl,I1.kept (t':=s1.toks) fun b o e=>Heap.get?_push_of_some _ e,turn_tuple a _,⟨_,Heap.get?_push_size _ rfl,rfl,rfl⟩,fun b hb => ?_,q⟩
  have e : b = s1.heap.objs.size:=by simpa using hb
  subst e
  exact I1.fpOk (Nat.le_refl _) (I1.hok.fresh (Nat.le_refl _))
theorem zZIH {K : PySem.W.Frag} {a : Addr} {k : Sk} {xs : List D} {P : Hp → List Addr → Hp → Prop} (h : ∀ (F' : Hp) (eta' : List Addr) (H' : Hp) (W' : Wd),OkH B F' eta' W' H' → P F' eta' H' → ∃ vs,SqK k K H' a vs ∧ RepL B F' eta' xs vs) :
  IterOk B (Jseq K k a) xs P:=by
 constructor
 ·intro i d F eta W H hd o p
  obtain ⟨vs,hq,r⟩:=h F eta H W o p
  obtain ⟨y,hy,ry⟩:=r.get hd
  cases k with
  | l =>
   refine ⟨⟨vs,y,hq,hy⟩,fun x H' ⟨e1,e2⟩ => ?_⟩
   subst e1
   have:=e2 vs hq
   rw [hy] at this
   cases this
   exact ⟨F,o,Ext.refl _ _ _,ry⟩
  | t =>
   refine ⟨⟨vs,y,hq,hy⟩,fun x H' ⟨e1,e2⟩ => ?_⟩
   subst e1
   have:=e2 vs hq
   rw [hy] at this
   cases this
   exact ⟨F,o,Ext.refl _ _ _,ry⟩
 ·intro F eta W H o p
  obtain ⟨vs,hq,r⟩:=h F eta H W o p
  cases k with
  | l=>exact ⟨vs,hq,by rw [r.length]; exact Nat.le_refl _⟩
  | t=>exact ⟨vs,hq,by rw [r.length]; exact Nat.le_refl _⟩
theorem zZHu {b : Bool} (st : Stt B e W sg H F eta) : Per B e sg F eta b F eta H:=⟨SubH.refl _,List.prefix_refl _,fun _=>⟨W,st⟩⟩
theorem zZMH (ha : SOk B X pa fs) : ItOk B X tg pa (fun e W=>(fs e W).bind fun s W=>if s.isIt then opt ((items W s).map fun xs=>(xs,s.isSlot)) W else .st):=by
 obtain ⟨ta,ha,ka⟩:=ha
 refine ⟨_,zZI4 ha,fun e W sg H F eta Q s k => ?_⟩
 refine ka e W sg H F eta _ s ?_
 rw [R.wp_bind] at k
 refine R.wp_mono k fun z W1 k v H1 F1 eta1 o1 x1 r1 => ?_
 split at k
 ·rename_i hz
  obtain ⟨q,hq,k⟩:=zZB k
  simp only [Option.map_eq_some_iff] at hq
  obtain ⟨xs,hi,rfl⟩:=hq
  have st1:=s.ext x1 o1
  obtain ⟨a,sk,rfl,h⟩:=zZKc st1 r1 hi hz X.K
  obtain ⟨vs,q1,q2⟩:=h F1 eta1 H1 W1 o1 (zZHu st1)
  exact ⟨a,sk,rfl,⟨vs,q1⟩,k _ H1 F1 eta1 o1 x1 (zZIH h)⟩
 ·exact k.elim
theorem zZJS {lo : Int} {n i : Nat} {d : D} (h : (rangeD lo n)[i]? = some d) : i < n ∧ d = .int (lo + i):=by
 unfold rangeD at h
 rw [List.getElem?_map] at h
 obtain ⟨k,h1,h2⟩:=Option.map_eq_some_iff.mp h
 have:=List.getElem?_eq_some_iff.mp h1
 obtain ⟨hl,e⟩:=this
 simp at hl e
 subst e
 exact ⟨hl,h2.symm⟩
theorem zZHK (lo : Int) (n : Nat) : (rangeD lo n).length = n:=by simp [rangeD]
theorem zZEv {lo : Int} {n : Nat} {P : Hp → List Addr → Hp → Prop} : IterOk B (Itr lo n) (rangeD lo n) P:=by
 constructor
 ·intro i d F eta W H hd o p
  obtain ⟨h1,rfl⟩:=zZJS hd
  refine ⟨h1,fun x H' ⟨e1,e2⟩ => ?_⟩
  subst e1 e2
  exact ⟨F,o,Ext.refl _ _ _,.int _⟩
 ·intro F eta W H o p
  rw [zZHK]
  exact Nat.le_refl _
theorem zZAe {i : Int} (h : smallI i = true) : -(2 ^ 62) ≤ i ∧ i < 2 ^ 62:=by
 unfold smallI at h
 simp only [Bool.and_eq_true,decide_eq_true_eq] at h
 omega
theorem zZIg (hg : Gl X "range") (hm : X.mg "range" = none) (hn : notStar pa = true) (ha : EOk B X pa fa) :
  ItOk B X tg (.Call (.Name "range" p) [pa] [] pos) (fun e W=>(fa e W).bind fun x W=>match x with | .int j=>if smallI j then .ok (rangeD 0 j.toNat,false) W else .st | _=>.st):=by
 obtain ⟨ta,ha,ka⟩:=ha
 refine ⟨_,pi_range1 hg hm (pa_cons ha pa_nil (star1 hn _ _)) (star1 hn _ _),fun e W sg H F eta Q s k => ?_⟩
 refine ka e W sg H F eta _ s ?_
 rw [R.wp_bind] at k
 refine R.wp_mono k fun z W1 k v H1 F1 eta1 o1 x1 r1 => ?_
 cases r1 with
 | int j =>
  simp only [] at k
  split at k
  ·rename_i hs
   obtain ⟨h1,h2⟩:=zZAe hs
   exact ⟨j,rfl,h1,h2,k _ H1 F1 eta1 o1 x1 zZEv⟩
  ·exact k.elim
 | _=>exact k.elim
theorem zZIk (hg : Gl X "range") (hm : X.mg "range" = none) (hn : notStar pa = true) (hn2 : notStar pb = true) (ha : EOk B X pa fa) (hb : EOk B X pb fb) :
  ItOk B X tg (.Call (.Name "range" p) [pa,pb] [] pos) (fun e W=>(fa e W).bind fun x W=>(fb e W).bind fun y W =>
  match x,y with
  | .int i,.int j=>if smallI i && smallI j then .ok (rangeD i (j - i).toNat,false) W else .st
  | _,_=>.st):=by
 obtain ⟨ta,ha,ka⟩:=ha
 obtain ⟨tb,hb,kb⟩:=hb
 refine ⟨_,pi_range2 hg hm (pa_cons ha (pa_cons hb pa_nil (star1 hn2 _ _)) (star1 hn _ _)) (by rw [star1 hn,star1 hn2]; rfl) (star1 hn2 _ _),fun e W sg H F eta Q s k => ?_⟩
 refine ka e W sg H F eta _ s ?_
 rw [R.wp_bind] at k
 refine R.wp_mono k fun z W1 k v H1 F1 eta1 o1 x1 r1 => ?_
 rw [R.wp_bind] at k
 refine kb e W1 sg H1 F1 eta1 _ (s.ext x1 o1) (R.wp_mono k fun y W2 k u H2 F2 eta2 o2 x2 r2 => ?_)
 cases r1 with
 | int i =>
  cases r2 with
  | int j =>
   simp only [] at k
   split at k
   ·rename_i hs
    simp only [Bool.and_eq_true] at hs
    obtain ⟨h1,h2⟩:=zZAe hs.1
    obtain ⟨h3,h4⟩:=zZAe hs.2
    exact ⟨i,j,rfl,⟨h1,h2,h3,h4⟩,k _ H2 F2 eta2 o2 (Ext.trans s.ok o1 x1 x2) zZEv⟩
   ·exact k.elim
  | _=>exact k.elim
 | _=>exact k.elim
theorem zZG5 : ∀ {xs : List D} {k i : Nat} {d : D},(enumD k xs)[i]? = some d → ∃ x,xs[i]? = some x ∧ d = .tupz [.int ((k + i : Nat) : Int),x]
 | [],k,i,d,h=>by simp [enumD] at h
 | x :: r,k,0,d,h=>by simp [enumD] at h; exact ⟨x,rfl,by rw [← h]; rfl⟩
 | x :: r,k,i + 1,d,h=>by
  simp only [enumD,List.getElem?_cons_succ] at h
  obtain ⟨y,h1,h2⟩:=zZG5 h
  refine ⟨y,by simpa using h1, ?_⟩
  rw [h2]
  have : k + 1 + i = k + (i + 1):=by omega
  rw [this]
theorem zZDM : ∀ (xs : List D) (k : Nat),(enumD k xs).length = xs.length
 | [],k=>rfl
 | x :: r,k=>by simp [enumD,zZDM r]
theorem zZMt {T : Addr} {vs : List V} {ds : List D} (o : OkH B F eta W H) (hT : H T = none) (r : RepL B F eta ds vs) :
  ∃ F',OkH B F' eta W (upd H T (.tup vs)) ∧ Ext F eta H F' eta (upd H T (.tup vs)) ∧ Rep B F' eta (.tupz ds) (.ref T) :=
 ⟨upd F T (.tup vs),o.newF hT,Ext.newFz o hT,.tupz upd_same (r.mono (zZ8 (o.notF hT)) (List.prefix_refl _))⟩
abbrev ItSrc (B : Tb) (K : PySem.W.Frag) (k : Sk) (a : Addr) (xs : List D) (P : Hp → List Addr → Hp → Prop) : Prop :=
 ∀ (F' : Hp) (eta' : List Addr) (H' : Hp) (W' : Wd),OkH B F' eta' W' H' → P F' eta' H' → ∃ vs,SqK k K H' a vs ∧ RepL B F' eta' xs vs
theorem zZG6 {K : PySem.W.Frag} {a : Addr} {k : Sk} {xs : List D} {P : Hp → List Addr → Hp → Prop} (h : ItSrc B K k a xs P) : IterOk B (Je K k a) (enumD 0 xs) P:=by
 constructor
 ·intro i d F eta W H hd o p
  obtain ⟨vs,hq,r⟩:=h F eta H W o p
  obtain ⟨x,hx,rfl⟩:=zZG5 hd
  obtain ⟨y,hy,ry⟩:=r.get hx
  refine ⟨⟨vs,y,hq,hy⟩,fun v H' ⟨T,z,e1,e2,e3,e4⟩ => ?_⟩
  subst e1 e3
  have:=e4 vs hq
  rw [hy] at this
  cases this
  rw [Nat.zero_add]
  exact zZMt o e2 (.cons (.int _) (.cons ry .nil))
 ·intro F eta W H o p
  obtain ⟨vs,hq,r⟩:=h F eta H W o p
  exact ⟨vs,hq,by rw [zZDM,r.length]⟩
/-- enumerate(xs) -/
theorem zZIJ {elts : List Expr} {kk : Nat} {tpos : Pos} {ta : TA} (hg : Gl X "enumerate") (hm : X.mg "enumerate" = none) (hn : notStar pa = true) (ha : PA X [pa] ta) :
  PI X (.Tuple elts kk tpos) (.Call (.Name "enumerate" p) [pa] [] pos) (fun σ H R=>ta σ H fun vs H1 => ∃ a k xs,vs = [.ref a] ∧ SqK k X.K H1 a xs ∧ R (Je X.K k a) H1):=by
 refine ⟨fun pins s σ H R I h => ?_⟩
 refine Call_ (ld_blt I hg hm boot_enumerate (PyProof.Rows.callWith_type1 (thn (ha.run pos pins s σ H _ I h) fun us s1 ⟨vs,H1,I1,r1,q1⟩ => ?_) (star1 hn _ _) rfl))
 obtain ⟨a,k,xs,ex,hq,q⟩:=q1
 subst ex
 cases r1 with
 | cons r rr =>
  cases rr
  cases r
  obtain ⟨its,rv,p',hlt⟩:=zZH8 I1 hq
  refine zZIX (zZJ0 its.toArray) p' fun h' he hit hsz hk=>wpAny_pyIter_enum he ?_
  have I2 : L2.Inv X pins σ H1 { s1 with heap:=h' }:=I1.kept (t':=s1.toks) hk
  refine ⟨s1.heap.objs.size + 1,[s1.heap.objs.size + 1,s1.heap.objs.size],_,_,H1,rfl,I2,zZOG (a:=a) (e:=s1.heap.objs.size + 1) (it:=s1.heap.objs.size) (Nat.succ_ne_self _) (Nat.ne_of_gt (Nat.lt_succ_of_lt hlt)) (Nat.ne_of_lt hlt),⟨⟨.none,he⟩,zZJw hit⟩,fun b hb => ?_,q⟩
  have e' : b = s1.heap.objs.size + 1 ∨ b = s1.heap.objs.size:=by simpa using hb
  have hle : s1.heap.objs.size ≤ b:=by rcases e' with z | z <;> rw [z] <;> first | exact Nat.le_add_right _ _ | exact Nat.le_refl _
  exact I1.fpOk hle (I1.hok.fresh hle)
theorem zZLM {elts : List Expr} {kk : Nat} {tpos : Pos} (hg : Gl X "enumerate") (hm : X.mg "enumerate" = none) (hn : notStar pa = true) (ha : SOk B X pa fs) :
  ItOk B X (.Tuple elts kk tpos) (.Call (.Name "enumerate" p) [pa] [] pos) (fun e W=>(fs e W).bind fun s W=>if s.isIt then opt ((items W s).map fun xs=>(enumD 0 xs,s.isSlot)) W else .st):=by
 obtain ⟨ta,ha,ka⟩:=ha
 refine ⟨_,zZIJ hg hm hn (pa_cons ha pa_nil (star1 hn _ _)),fun e W sg H F eta Q s k => ?_⟩
 refine ka e W sg H F eta _ s ?_
 rw [R.wp_bind] at k
 refine R.wp_mono k fun z W1 k v H1 F1 eta1 o1 x1 r1 => ?_
 split at k
 ·rename_i hz
  obtain ⟨q,hq,k⟩:=zZB k
  simp only [Option.map_eq_some_iff] at hq
  obtain ⟨xs,hi,rfl⟩:=hq
  have st1:=s.ext x1 o1
  obtain ⟨a,sk,rfl,h⟩:=zZKc st1 r1 hi hz X.K
  obtain ⟨vs,q1,q2⟩:=h F1 eta1 H1 W1 o1 (zZHu st1)
  exact ⟨a,sk,vs,rfl,q1,k _ H1 F1 eta1 o1 x1 (zZG6 h)⟩
 ·exact k.elim
end
end DL
set_option maxRecDepth 100000
set_option maxHeartbeats 4000000
namespace DL
open PySem PySem.Spec PyProof.Rows
open L2 hiding St
end DL
set_option maxRecDepth 100000
set_option maxHeartbeats 4000000
namespace DL
open PySem PySem.Spec PyProof.Rows
open L2 hiding St
end DL
set_option maxRecDepth 100000
set_option maxHeartbeats 4000000
namespace DL
open PySem PySem.Spec PyProof.Rows
open L2 hiding St
end DL
set_option maxRecDepth 100000
set_option maxHeartbeats 4000000
namespace DL
open PySem PySem.Spec PyProof.Rows
open L2 hiding St
/-- the promise: the exception bears a dict with the one field -/
def spX (C : Addr) (fl : Str) : Sp:=fun vs H Q _ => ∃ (a : Addr) (v : V) (H1 : Hp),vs = [.ref a,v] ∧ H = upd H1 a (exo a C none) ∧ H1 a = none ∧ ∀ d,H1 d = none → d ≠ a → Q .non (upd (upd (upd H1 a (exo a C none)) d (exd d [(fl,v)])) a (exo a C (some d)))
end DL
set_option maxRecDepth 100000
set_option maxHeartbeats 4000000
namespace DL
open PySem PySem.Spec PyProof.Rows
open L2 hiding St
section
variable {B : Tb} {X : Cx} {tg py pa pb pc : Expr} {pos p : Pos} {fa fb : Env → Wd → R D} {fs fs2 fs3 : Env → Wd → R Src}
variable {e e' : Env} {sg sg' : L2.St} {F F' H H' : Hp} {eta eta' : List Addr} {W W' : Wd}
def canE (B : Tb) (f : Env → Wd → R D) : TE:=fun sg H Q => ∃ (e : Env) (W : Wd) (F : Hp) (eta : List Addr),Stt B e W sg H F eta ∧
 (f e W).wp B.xq (fun d W' => ∀ (v : V) (H' F' : Hp) (eta' : List Addr),OkH B F' eta' W' H' → Ext F eta H F' eta' H' → Rep B F' eta' d v → Q v H')
def canT (B : Tb) (f : Env → Wd → R Bool) : TT:=fun sg H Q => ∃ (e : Env) (W : Wd) (F : Hp) (eta : List Addr),Stt B e W sg H F eta ∧
 (f e W).wp B.xq (fun k W' => ∀ (H' F' : Hp) (eta' : List Addr),OkH B F' eta' W' H' → Ext F eta H F' eta' H' → Q k H')
theorem EOk.can (h : EOk B X py fa) : PE X py (canE B fa):=by
 obtain ⟨t,h,k⟩:=h
 exact ⟨fun pins s σ H Q I ⟨e,W,F,eta,st,q⟩=>h.run pins s σ H Q I (k e W σ H F eta Q st q)⟩
/-- a clause's tests -/
def QOk (B : Tb) (X : Cx) (ifs : List Expr) (f : Env → Wd → R Bool) : Prop:=PTs X ifs (canT B f)
theorem zZCH : QOk B X [] (fun _ W=>.ok true W):=⟨fun pins s σ H Q I ⟨e,W,F,eta,st,q⟩=>(pts_nil (X:=X)).run pins s σ H Q I (q H F eta st.ok (Ext.refl _ _ _))⟩
theorem zZMp {f : Env → Wd → R Bool} (h : TOk B X pa f) : QOk B X [pa] f:=by
 obtain ⟨t,h,k⟩:=h
 exact ⟨fun pins s σ H Q I ⟨e,W,F,eta,st,q⟩=>(pts_one h).run pins s σ H Q I (k e W σ H F eta Q st q)⟩
theorem Stt.set (st : Stt B e W sg H F eta) {i : Nat} {d : D} {v : V} (hi : i < e.length) (hx : i ∉ B.xk) (r : Rep B F eta d v) : Stt B (e.set i (.val d)) W (sg.set i (some v)) H F eta:=by
 refine ⟨st.ok,by simp [st.len],fun j z h => ?_,fun j k sj sk a h1 h2 o1 o2 g1 g2 => ?_,fun j hj => ?_,by rw [List.length_set]; exact st.xl,st.xx⟩
 ·by_cases hj : i = j
  ·subst hj
   rw [List.getElem?_set_self hi] at h
   cases h
   exact ⟨v,List.getElem?_set_self (by rw [← st.len]; exact hi),r⟩
  ·rw [List.getElem?_set_ne hj] at h
   have q:=st.sl j z h
   cases z with
   | no=>trivial
   | val d=>obtain ⟨u,h1,h2⟩:=q; exact ⟨u,by rw [List.getElem?_set_ne hj]; exact h1,h2⟩
   | ol xs=>obtain ⟨a,vs,h1,h2⟩:=q; exact ⟨a,vs,by rw [List.getElem?_set_ne hj]; exact h1,h2⟩
   | oi c fs=>obtain ⟨a,dx,gs,h1,h2⟩:=q; exact ⟨a,dx,gs,by rw [List.getElem?_set_ne hj]; exact h1,h2⟩
   | od kvs=>obtain ⟨a,xs,ep,h1,h2⟩:=q; exact ⟨a,xs,ep,by rw [List.getElem?_set_ne hj]; exact h1,h2⟩
   | xv c p=>obtain ⟨h1,h2⟩:=q; exact ⟨by rw [List.getElem?_set_ne hj]; exact h1,h2⟩
 ·have hj : i ≠ j:=fun z=>by
   subst z
   rw [List.getElem?_set_self hi] at h1
   cases h1
   cases o1
  have hk : i ≠ k:=fun z=>by
   subst z
   rw [List.getElem?_set_self hi] at h2
   cases h2
   cases o2
  rw [List.getElem?_set_ne hj] at h1 g1
  rw [List.getElem?_set_ne hk] at h2 g2
  exact st.un j k sj sk a h1 h2 o1 o2 g1 g2
 ·rw [List.getElem?_set_ne (fun z=>hx (by rw [z]; exact hj))]
  exact st.xr j hj
def GOk (B : Tb) (X : Cx) (tg : Expr) (f : D → Env → Option Env) (ns : List Nat) : Prop:=(∀ i ∈ ns,i ∉ B.xk) ∧ ∃ t : TG,PG X tg t ∧ ∀ (d : D) (v : V) (e e' : Env) (W : Wd) (sg : L2.St) (H F : Hp) (eta : List Addr) (Q : L2.St → Hp → Prop),Stt B e W sg H F eta → Rep B F eta d v → f d e = some e' →
 (∀ sg',Stt B e' W sg' H F eta → (∀ vs : List Nat,(∀ i ∈ ns,i ∈ vs) → wipe sg' vs = wipe sg vs) → Q sg' H) → t v sg H Q
def GsOk (B : Tb) (X : Cx) (tg : List Expr) (f : List D → Env → Option Env) (ns : List Nat) : Prop:=(∀ i ∈ ns,i ∉ B.xk) ∧ ∃ t : TGs,PGs X tg t ∧ ∀ (d : List D) (v : List V) (e e' : Env) (W : Wd) (sg : L2.St) (H F : Hp) (eta : List Addr) (Q : L2.St → Hp → Prop),Stt B e W sg H F eta → RepL B F eta d v → f d e = some e' →
 (∀ sg',Stt B e' W sg' H F eta → (∀ vs : List Nat,(∀ i ∈ ns,i ∈ vs) → wipe sg' vs = wipe sg vs) → Q sg' H) → t v sg H Q
theorem zZEe {i : Nat} {x : Option V} : ∀ {vs : List Nat} (sg : L2.St),i ∈ vs → wipe (sg.set i x) vs = wipe sg vs
 | [],_,h=>by simp at h
 | v :: vs,sg,h=>by
  unfold wipe
  by_cases hv : v = i
  ·subst hv
   by_cases hm : v ∈ vs
   ·rw [zZEe sg hm]
   ·have : ∀ (ws : List Nat) ,v ∉ ws → wipe (sg.set v x) ws = (wipe sg ws).set v x:=by
     intro ws
     induction ws with
     | nil=>intro _; rfl
     | cons w ws ih =>
      intro hw
      simp only [List.mem_cons,not_or] at hw
      unfold wipe
      rw [ih hw.2,List.set_comm _ _ hw.1]
    rw [this vs hm,List.set_set]
  ·have hm : i ∈ vs:=by
    rcases List.mem_cons.mp h with z | z
    ·exact absurd z.symm hv
    ·exact z
   rw [zZEe sg hm]
theorem zZO3 {i : Nat} {x : Str} (hxk : i ∉ B.xk) (hN : X.N.Nodup) (hi : X.N[i]? = some x) (hx : L2.Loc X.env.scope x) (hf : X.fn x = true ∨ X.env.scope.names.lookup x = some .local) :
  GOk B X (.Name x pos) (fun d e=>if i < e.length then some (e.set i (.val d)) else none) [i]:=by
 refine ⟨fun j hj=>by rw [List.mem_singleton.mp hj]; exact hxk,_,pg_name hN hi hx hf,fun d v e e' W sg H F eta Q st r h k => ?_⟩
 dsimp only at h
 split at h
 ·rename_i hl
  cases h
  exact k _ (st.set hl hxk r) fun vs hv=>zZEe sg (hv i (by simp))
 ·cases h
theorem zZLd : GsOk B X [] (fun ds e=>match ds with | []=>some e | _=>none) []:=by
 refine ⟨(fun _ h=>by cases h),_,pgs_nil,fun d v e e' W sg H F eta Q st r h k => ?_⟩
 cases r with
 | nil=>cases h; exact ⟨rfl,k _ st fun _ _=>rfl⟩
 | cons _ _=>cases h
theorem zZKy {tgs : List Expr} {f : D → Env → Option Env} {fs : List D → Env → Option Env} {n1 n2 : List Nat} (hn : notStar tg = true) (h1 : GOk B X tg f n1) (h2 : GsOk B X tgs fs n2) :
  GsOk B X (tg :: tgs) (fun ds e=>match ds with | x :: xs=>(f x e).bind fun e=>fs xs e | []=>none) (n1 ++ n2):=by
 obtain ⟨w1,t,h1,k1⟩:=h1
 obtain ⟨w2,u,h2,k2⟩:=h2
 have hs : (assignEach (tg :: tgs) X.env).map (·.2) = assign tg X.env :: (assignEach tgs X.env).map (·.2):=by
  cases tg <;> first | rfl | cases hn
 refine ⟨fun i hi=>(List.mem_append.mp hi).elim (w1 i) (w2 i),_,pgs_cons h1 h2 hs,fun d v e e' W sg H F eta Q st r h k => ?_⟩
 cases r with
 | nil=>cases h
 | cons r rr =>
  simp only [Option.bind_eq_some_iff] at h
  obtain ⟨e1,q1,q2⟩:=h
  refine ⟨_,_,rfl, ?_⟩
  refine k1 _ _ e e1 W sg H F eta _ st r q1 fun sg1 st1 w1 => ?_
  refine k2 _ _ e1 e' W sg1 H F eta _ st1 rr q2 fun sg2 st2 w2=>k _ st2 fun vs hv => ?_
  rw [w2 vs fun i hi=>hv i (List.mem_append_right _ hi),w1 vs fun i hi=>hv i (List.mem_append_left _ hi)]
theorem zZAX : ∀ {ts : List Expr} (env : PySem.Env),ts.all notStar = true → (assignEach ts env).length = ts.length ∧ (assignEach ts env).findIdx? (·.1) = none
 | [],_,_=>⟨rfl,rfl⟩
 | t :: ts,env,h=>by
  simp only [List.all_cons,Bool.and_eq_true] at h
  obtain ⟨h1,h2⟩:=zZAX env h.2
  have e : assignEach (t :: ts) env = (false,assign t env) :: assignEach ts env:=by
   have hn:=h.1
   cases t <;> first | rfl | cases hn
  rw [e]
  refine ⟨by simp [h1], ?_⟩
  rw [List.findIdx?_cons]
  simp [h2]
theorem zZM0 {tgs : List Expr} {k : Nat} {fs : List D → Env → Option Env} {ns : List Nat} (hc : X.calm = true) (hl : ∀ ds e e',fs ds e = some e' → ds.length = tgs.length) (hn : tgs.all notStar = true) (h : GsOk B X tgs fs ns) :
  GOk B X (.Tuple tgs k pos) (fun d e=>match d with | .tup xs=>fs xs e | .tupz xs=>fs xs e | _=>none) ns:=by
 obtain ⟨w,t,h,kt⟩:=h
 obtain ⟨a1,a2⟩:=zZAX X.env hn
 refine ⟨w,_,pg_tup (n:=tgs.length) hc h a1 a2,fun d v e e' W sg H F eta Q st r q k => ?_⟩
 cases r with
 | tupz hh rr=>exact ⟨_,_,rfl,SqT.of (st.ok.sub _ _ hh),by rw [← rr.length]; exact hl _ _ _ q,kt _ _ e e' W sg H F eta Q st rr q k⟩
 | tup hh rr=>exact ⟨_,_,rfl,(hh.mono st.ok.sub).sq,by rw [← rr.length]; exact hl _ _ _ q,kt _ _ e e' W sg H F eta Q st rr q k⟩
 | _=>cases q
def canG (B : Tb) (f : D → Env → Option Env) (ns : List Nat) : TG:=fun v sg H Q => ∃ (d : D) (e e' : Env) (W : Wd) (F : Hp) (eta : List Addr),Stt B e W sg H F eta ∧ Rep B F eta d v ∧ f d e = some e' ∧
 ∀ sg',Stt B e' W sg' H F eta → (∀ vs : List Nat,(∀ i ∈ ns,i ∈ vs) → wipe sg' vs = wipe sg vs) → Q sg' H
theorem GOk.can {f : D → Env → Option Env} {ns : List Nat} (h : GOk B X tg f ns) : PG X tg (canG B f ns):=by
 obtain ⟨_,t,h,k⟩:=h
 exact ⟨fun pins s σ H v u Q I r ⟨d,e,e',W,F,eta,st,rd,q,kk⟩=>h.run pins s σ H v u Q I r (k d v e e' W σ H F eta Q st rd q kk)⟩
theorem yZo {vs : List Nat} : ∀ {sg : L2.St} {i : Nat} ,i ∉ vs → (wipe sg vs)[i]? = sg[i]? := by
 induction vs with
 | nil=>intro sg i _; rfl
 | cons v vs ih =>
  intro sg i h
  simp only [List.mem_cons,not_or] at h
  unfold wipe
  rw [List.getElem?_set_ne (fun z=>h.1 z.symm),ih h.2]
theorem zZBS {vs : List Nat} : ∀ {e : Env} {i : Nat} {z : Slot},(wipeE e vs)[i]? = some z → z = .no ∨ (e[i]? = some z ∧ i ∉ vs):=by
 induction vs with
 | nil=>intro e i z h; exact .inr ⟨h,by simp⟩
 | cons v vs ih =>
  intro e i z h
  unfold wipeE at h
  by_cases hv : v = i
  ·subst hv
   by_cases hl : v < (wipeE e vs).length
   ·rw [List.getElem?_set_self hl] at h; cases h; exact .inl rfl
   ·rw [List.getElem?_eq_none (by simpa using hl)] at h; cases h
  ·rw [List.getElem?_set_ne hv] at h
   rcases ih h with q | ⟨q,hn⟩
   ·exact .inl q
   ·exact .inr ⟨q,by simp [hn]; exact fun z=>hv z.symm⟩
theorem zZDp (e : Env) : ∀ vs : List Nat,(wipeE e vs).length = e.length
 | []=>rfl
 | v :: vs=>by unfold wipeE; rw [List.length_set,zZDp e vs]
theorem Stt.wipe (st : Stt B e W sg H F eta) (vs : List Nat) (hx : ∀ i ∈ vs,i ∉ B.xk) : Stt B (wipeE e vs) W (L2.wipe sg vs) H F eta:=by
 refine ⟨st.ok,by rw [zZDp,wipe_length]; exact st.len,fun i z h => ?_,fun i j si sj a h1 h2 o1 o2 g1 g2 => ?_,fun j hj => ?_,by rw [wipe_length]; exact st.xl,st.xx⟩
 ·rcases zZBS h with rfl | ⟨q,hn⟩
  ·trivial
  ·have r:=st.sl i z q
   have w:=yZo (sg:=sg) hn
   cases z with
   | no=>trivial
   | val d=>obtain ⟨v,h1,h2⟩:=r; exact ⟨v,by rw [w]; exact h1,h2⟩
   | ol xs=>obtain ⟨a,vs',h1,h2⟩:=r; exact ⟨a,vs',by rw [w]; exact h1,h2⟩
   | oi c fs=>obtain ⟨a,dx,gs,h1,h2⟩:=r; exact ⟨a,dx,gs,by rw [w]; exact h1,h2⟩
   | od kvs=>obtain ⟨a,xs,ep,h1,h2⟩:=r; exact ⟨a,xs,ep,by rw [w]; exact h1,h2⟩
   | xv c p=>obtain ⟨h1,h2⟩:=r; exact ⟨by rw [w]; exact h1,h2⟩
 ·rcases zZBS h1 with rfl | ⟨q1,n1⟩
  ·cases o1
  ·rcases zZBS h2 with rfl | ⟨q2,n2⟩
   ·cases o2
   ·rw [yZo n1] at g1
    rw [yZo n2] at g2
    exact st.un i j si sj a q1 q2 o1 o2 g1 g2
 ·rw [yZo (fun z=>hx j z hj)]
  exact st.xr j hj
theorem zZG0 {w : L2.St} : ∀ (us : List Nat),(∀ i ∈ us,∀ x,w[i]? ≠ some (some x)) → L2.wipe w us = w
 | [],_=>rfl
 | u :: us,h=>by
  show (L2.wipe w us).set u none = w
  rw [zZG0 us fun i hi=>h i (List.mem_cons_of_mem _ hi)]
  apply List.ext_getElem?
  intro j
  by_cases hj : u = j
  ·subst hj
   by_cases hl : u < w.length
   ·rw [List.getElem?_set_self hl]
    cases hg : w[u]? with
    | none=>rw [List.getElem?_eq_none_iff] at hg; omega
    | some z =>
     cases z with
     | none=>rfl
     | some x=>exact absurd hg (h u List.mem_cons_self x)
   ·rw [List.getElem?_eq_none (by simpa using hl),List.getElem?_eq_none (by simpa using hl)]
  ·rw [List.getElem?_set_ne hj]
theorem xZ1 (sg : L2.St) (vs us : List Nat) (h : ∀ i ∈ us,i ∈ vs) : L2.wipe (L2.wipe sg vs) us = L2.wipe sg vs :=
 zZG0 us fun i hi x e=>(wipe_some e).2 (h i hi)
/-- the loop's reading -/
theorem zZKe {elt : Env → Wd → R D} {tst : Env → Wd → R Bool} {tgf : D → Env → Option Env} {ns : List Nat} {J : L2.It} {ds : List D} {b : Bool} {F1 H1 : Hp} {eta1 : List Addr} {W1 : Wd} {Dn : Addr} {Qd : Hp → Prop}
  (hxk : ∀ i ∈ ns,i ∉ B.xk) (st1 : Stt B e W1 sg H1 F1 eta1) (it : IterOk B J ds (Per B e sg F1 eta1 b)) (hD : H1 Dn = none) (hz : ds.length ≤ cap)
  (k : (compL (fun d=>tgf d (wipeE e ns)) (fun e W=>(tst e W).bind fun k W=>.ok (.bl k) W) elt ds W1).wp B.xq fun xs W' => ∀ (vs : List V) (H' F' : Hp) (eta' : List Addr),OkH B F' eta' W' H' → Ext F1 eta1 H1 F' eta' H' → H' Dn = some (.lst vs) → F' Dn = none → Dn ∉ eta' → RepL B F' eta' xs vs → Qd H') :
  ∃ W : Nat → Nat → Hp → Prop,(∃ m,W 0 m (upd H1 Dn (.lst []))) ∧ ∀ i m H,W i m H →
 (J.stop i H ∧ Qd H) ∨ (J.go i H ∧ ∃ Nx : Hp → Prop,(∀ H',Nx H' → ∃ m',m' < m ∧ W (i + 1) m' H') ∧ ∀ x H',J.yld i H x H' → canG B.mute tgf ns x (wipe sg ns) H' fun σ2 H2=>wipe σ2 ns = wipe sg ns ∧ canT B.mute tst σ2 H2 fun b H3 =>
  if b = true then canE B.mute elt σ2 H3 fun y H4 => ∃ acc,H4 Dn = some (.lst acc) ∧ acc.length < sizeLine ∧ Nx (upd H4 Dn (.lst (acc ++ [y]))) else Nx H3):=by
 let Good : Nat → Hp → Prop:=fun i H => ∃ (F : Hp) (eta : List Addr) (Wc : Wd) (acc : List V) (accD : List D),OkH B F eta Wc H ∧ Ext F1 eta1 H1 F eta H ∧ H Dn = some (.lst acc) ∧ F Dn = none ∧ Dn ∉ eta ∧ RepL B F eta accD acc ∧ accD.length ≤ i ∧
  (compL (fun d=>tgf d (wipeE e ns)) (fun e W=>(tst e W).bind fun k W=>.ok (.bl k) W) elt (ds.drop i) Wc).wp B.xq fun xs W' => ∀ (vs : List V) (H' F' : Hp) (eta' : List Addr),OkH B F' eta' W' H' → Ext F1 eta1 H1 F' eta' H' → H' Dn = some (.lst vs) → F' Dn = none → Dn ∉ eta' → RepL B F' eta' (accD ++ xs) vs → Qd H'
 refine ⟨fun i m H=>m = ds.length - i ∧ i ≤ ds.length ∧ Good i H,⟨ds.length,by simp,Nat.zero_le _,F1,eta1,W1,[],[],st1.ok.new hD,Ext.new hD,upd_same,st1.ok.notF hD,st1.ok.notE hD,.nil,by simp, ?_⟩, ?_⟩
 ·simpa using k
 rintro i m H ⟨rfl,hi,F,eta,Wc,acc,accD,o,x,hDn,hF,hE,rl,hlen,kk⟩
 have per : Per B e sg F1 eta1 b F eta H:=⟨x.sub,x.pre,fun _=>⟨Wc,st1.ext x o⟩⟩
 by_cases hlt : i < ds.length
 ·obtain ⟨go,yl⟩:=it.step i ds[i] F eta Wc H (by simp [hlt]) o per
  refine .inr ⟨go,Good (i + 1),fun H' p'=>⟨ds.length - (i + 1),by omega,rfl,hlt,p'⟩,fun v H2 y => ?_⟩
  obtain ⟨F2,o2,x2,r2⟩:=yl v H2 y
  have y2:=Ext.trans st1.ok o x x2
  have st2:=(st1.ext y2 o2).wipe ns hxk
  rw [List.drop_eq_getElem_cons hlt] at kk
  unfold compL at kk
  rw [R.wp_bind] at kk
  obtain ⟨e2,q,kk⟩:=zZB kk
  -- the new list stays
  have hD2 : H2 Dn = some (.lst acc):=x2.keep Dn _ hDn hE
  have hF2 : F2 Dn = none:=by
   cases q : F2 Dn with
   | none=>rfl
   | some u =>
    rcases x2.newF Dn (by rw [q]; simp) with z | z
    ·exact absurd hF z
    ·rw [hDn] at z; cases z
  refine ⟨ds[i],_,e2,Wc,F2,eta,st2.mute,r2,q,fun sg3 st3 w3=>⟨?_, ?_⟩⟩
  ·have:=w3 ns fun i h=>h
   rw [this]
   exact xZ1 sg ns ns fun i h=>h
  ·rw [R.wp_bind] at kk
   replace kk:=R.wp_calm (y:=B.mute.xq) kk
   rw [R.wp_bind] at kk
   refine ⟨e2,Wc,F2,eta,st3,R.wp_mono kk fun bb W4 kk H4 F4 eta4 o4 x4 => ?_⟩
   have y4:=Ext.trans st1.ok o2 y2 x4
   have hD4 : H4 Dn = some (.lst acc):=x4.keep Dn _ hD2 hE
   have hF4 : F4 Dn = none:=by
    cases q : F4 Dn with
    | none=>rfl
    | some u =>
     rcases x4.newF Dn (by rw [q]; simp) with z | z
     ·exact absurd hF2 z
     ·rw [hD2] at z; cases z
   have hE4 : Dn ∉ eta4:=fun z=>by
    rcases x4.newE Dn z with q | q
    ·exact hE q
    ·rw [hD2] at q; cases q
   simp only [R.wp_ok] at kk
   cases bb with
   | true =>
    refine iteT ?_
    simp only [] at kk
    rw [R.wp_bind] at kk
    replace kk:=R.wp_calm (y:=B.mute.xq) kk
    refine ⟨e2,W4,F4,eta4,st3.ext x4 o4,R.wp_mono kk fun d5 W5 kk w5 H5 F5 eta5 o5 x5 r5 => ?_⟩
    have y5:=Ext.trans st1.ok o4 y4 x5
    have hD5 : H5 Dn = some (.lst acc):=x5.keep Dn _ hD4 hE4
    have hF5 : F5 Dn = none:=by
     cases q : F5 Dn with
     | none=>rfl
     | some u =>
      rcases x5.newF Dn (by rw [q]; simp) with z | z
      ·exact absurd hF4 z
      ·rw [hD4] at z; cases z
    have hE5 : Dn ∉ eta5:=fun z=>by
     rcases x5.newE Dn z with q | q
     ·exact hE4 q
     ·rw [hD4] at q; cases q
    have hl : acc.length < sizeLine:=by rw [← rl.length]; exact Nat.lt_of_lt_of_le (Nat.lt_of_le_of_lt hlen (Nat.lt_of_lt_of_le hlt hz)) zZc
    refine ⟨acc,hD5,hl,F5,eta5,W5,acc ++ [w5],accD ++ [d5],o5.writeO hF5 hE5,⟨y5.sub,y5.pre,fun a u ha hn => ?_,y5.newF,y5.newE⟩,upd_same,hF5,hE5,((rl.mono ((x2.sub.trans x4.sub).trans x5.sub) (x4.pre.trans x5.pre)).append (.cons r5 .nil)),by simp; omega, ?_⟩
    ·have hne : a ≠ Dn:=ne_of_none ha hD
     rw [upd_ne hne]
     exact y5.keep a u ha hn
    ·rw [R.wp_bind] at kk
     refine R.wp_mono kk fun xs W6 kk vs H' F' eta' o' x' h1 h2 h3 h4 => ?_
     refine kk vs H' F' eta' o' x' h1 h2 h3 ?_
     simpa using h4
   | false =>
    refine iteF ?_
    simp only [] at kk
    exact ⟨F4,eta4,W4,acc,accD,o4,y4,hD4,hF4,hE4,rl.mono (x2.sub.trans x4.sub) x4.pre,by omega,kk⟩
 ·have ei : i = ds.length:=by omega
  subst ei
  rw [List.drop_length] at kk
  unfold compL at kk
  rw [R.wp_ok,List.append_nil] at kk
  exact .inl ⟨it.stop F eta Wc H o per,kk acc H F eta o x hDn hF hE rl⟩
def compF (elt : Env → Wd → R D) (tst : Env → Wd → R Bool) (tgf : D → Env → Option Env) (ns : List Nat) (fi : Env → Wd → R (List D × Bool)) : Env → Wd → R (List D):=fun e W=>(fi e W).bind fun ds W =>
 if ds.1.length ≤ cap then compL (fun d=>tgf d (wipeE e ns)) (fun e W=>(tst e W).bind fun k W=>.ok (.bl k) W) elt ds.1 W else .st
theorem zZGz {elt : Env → Wd → R D} {tst : Env → Wd → R Bool} {tgf : D → Env → Option Env} {ns : List Nat} {fi : Env → Wd → R (List D × Bool)} {wi : TI}
  (hxk : ∀ i ∈ ns,i ∉ B.xk) (ki : ∀ (e : Env) (W : Wd) (sg : L2.St) (H F : Hp) (eta : List Addr) (Q : L2.It → Hp → Prop),Stt B e W sg H F eta →
   (fi e W).wp B.xq (fun ds W' => ∀ (J : L2.It) (H' F' : Hp) (eta' : List Addr),OkH B F' eta' W' H' → Ext F eta H F' eta' H' → IterOk B J ds.1 (Per B e sg F' eta' ds.2) → Q J H') → wi sg H Q)
  (e : Env) (W : Wd) (sg : L2.St) (H F : Hp) (eta : List Addr) (Q : VK) (s : Stt B e W sg H F eta)
  (k : (compF elt tst tgf ns fi e W).wp B.xq (fun ds W' => ∀ (a : Addr) (vs : List V) (H' F' : Hp) (eta' : List Addr),OkH B F' eta' W' H' → Ext F eta H F' eta' H' → H a = none → H' a = some (.lst vs) → F' a = none → a ∉ eta' → RepL B F' eta' ds vs → Q (.ref a) H')) :
  tLc wi (canG B.mute tgf ns) (canT B.mute tst) (canE B.mute elt) ns sg H Q:=by
 refine ki e W sg H F eta _ s ?_
 unfold compF at k
 rw [R.wp_bind] at k
 refine R.wp_mono k fun ds W1 k J H1 F1 eta1 o1 x1 it Dn hD => ?_
 split at k
 ·rename_i hz
  refine zZKe hxk (s.ext x1 o1) it hD hz (R.wp_mono k fun xs W2 k vs H' F' eta' o' x' h1 h2 h3 h4 => ?_)
  exact k Dn vs H' F' eta' o' (Ext.trans s.ok o1 x1 x') (x1.there s.ok o1 hD) h1 h2 h3 h4
 ·exact k.elim
/-- the places of a comprehension's own names -/
def ownOf (N : List Str) (ns : List Nat) : List (Str × Nat):=ns.map fun i=>(N.getD i "",i)
theorem yZY (N : List Str) (ns : List Nat) : (ownOf N ns).map (·.2) = ns:=by
 unfold ownOf
 rw [List.map_map]
 show List.map (fun i=>i) ns = ns
 exact List.map_id' ns
/-- the contexts of a comprehension's block -/
def Blk (X : Cx) (scope : Scope) (X' : Cx) : Prop := ∃ (s : Shared) (H : Hp) (C : Addr) (cl : List (Str × Addr)) (fp : List Addr),X' = X.blk s H scope (compEnvC scope cl C X.env) fp
theorem zZLy {pelt iter : Expr} {ifs : List Expr} {scope : Scope} {elt : Env → Wd → R D} {tst : Env → Wd → R Bool} {tgf : D → Env → Option Env} {ns : List Nat} {fi : Env → Wd → R (List D × Bool)}
  (hxk : ∀ i ∈ ns,i ∉ B.xk) (hc : X.calm = true) (hN : X.N.Nodup) (hb : blkC X.N X.env.scope scope (ownOf X.N ns) = true) (hs : ∀ x,foldedSetIterable iter X.env x = pure x)
  (hi : ItOk B X tg iter fi) (hg : ∀ X',Blk X scope X' → GOk B.mute X' tg tgf ns) (ht : ∀ X',Blk X scope X' → QOk B.mute X' ifs tst) (he : ∀ X',Blk X scope X' → EOk B.mute X' pelt elt) :
  FOk B X (.ListComp pelt [⟨tg,iter,ifs,0⟩] scope pos) (compF elt tst tgf ns fi):=by
 obtain ⟨wi,hi,ki⟩:=hi
 have h:=pe_lc (pos:=pos) (own:=ownOf X.N ns) hc hN hi (blkOk_by hb) (fun s H C cl fp=>(hg _ ⟨s,H,C,cl,fp,rfl⟩).can) (fun s H C cl fp=>ht _ ⟨s,H,C,cl,fp,rfl⟩) (fun s H C cl fp=>(he _ ⟨s,H,C,cl,fp,rfl⟩).can) hs
 rw [yZY] at h
 exact ⟨_,h,fun e W sg H F eta Q s k=>zZGz hxk ki e W sg H F eta Q s k⟩
/-- the store of a comprehension in a name,on one line -/
theorem zZEs {pelt iter : Expr} {ifs : List Expr} {scope : Scope} {elt : Env → Wd → R D} {tst : Env → Wd → R Bool} {tgf : D → Env → Option Env} {ns : List Nat} {fi : Env → Wd → R (List D × Bool)} {i : Nat} {y : Str} {py spos : Pos}
  (hxk : ∀ i ∈ ns,i ∉ B.xk) (hc : X.calm = true) (hN : X.N.Nodup) (hy : X.N[i]? = some y) (hyl : X.env.scope.names.lookup y = some .local)
  (hsw : swapsWith (.ListComp pelt [⟨tg,iter,ifs,0⟩] scope pos) (some (.Name y py)) spos.line X.env = pure true) (hb : blkC X.N X.env.scope scope (ownOf X.N ns) = true) (hs : ∀ x,foldedSetIterable iter X.env x = pure x)
  (hi : ItOk B X tg iter fi) (hg : ∀ X',Blk X scope X' → GOk B.mute X' tg tgf ns) (ht : ∀ X',Blk X scope X' → QOk B.mute X' ifs tst) (he : ∀ X',Blk X scope X' → EOk B.mute X' pelt elt) :
  ∃ t : TE,PS X (.Assign [.Name y py] (.ListComp pelt [⟨tg,iter,ifs,0⟩] scope pos) spos) (tAsg t (gName i)) ∧ ∀ (e : Env) (W : Wd) (sg : L2.St) (H F : Hp) (eta : List Addr) (Q : VK),Stt B e W sg H F eta →
   (compF elt tst tgf ns fi e W).wp B.xq (fun ds W' => ∀ (a : Addr) (vs : List V) (H' F' : Hp) (eta' : List Addr),OkH B F' eta' W' H' → Ext F eta H F' eta' H' → H a = none → H' a = some (.lst vs) → F' a = none → a ∉ eta' → RepL B F' eta' ds vs → Q (.ref a) H') → t sg H Q:=by
 obtain ⟨wi,hi,ki⟩:=hi
 have h:=ps_setLc (own:=ownOf X.N ns) hc hN hy hyl hsw hi (blkOk_by hb) (fun s H C cl fp=>(hg _ ⟨s,H,C,cl,fp,rfl⟩).can) (fun s H C cl fp=>ht _ ⟨s,H,C,cl,fp,rfl⟩) (fun s H C cl fp=>(he _ ⟨s,H,C,cl,fp,rfl⟩).can) hs
 rw [yZY] at h
 exact ⟨_,h,fun e W sg H F eta Q s k=>zZGz hxk ki e W sg H F eta Q s k⟩
end
end DL
set_option maxRecDepth 100000
set_option maxHeartbeats 4000000
namespace DL
open PySem PySem.Spec PyProof.Rows
open L2 hiding St
def Slot.isOi : Slot → Bool
 | .oi _ _=>true | _=>false
/-- a frame's state,against the heap at the call -/
structure Fr0 (B : Tb) (xo : Addr) (F0 : Hp) (eta0 : List Addr) (H0 : Hp) (e : Env) (W : Wd) (sg : L2.St) (H F : Hp) (eta : List Addr) : Prop where
 st : Stt B e W sg H F eta
 ext : Ext F0 eta0 H0 F eta H
 new : ∀ (i : Nat) (z : Slot) (a : Addr),e[i]? = some z → z.owned = true → sg[i]? = some (some (V.ref a)) → H0 a = none ∧ (z.isOi = true → a = xo) ∧ B.xH a = none
/-- what is wanted behind a statement,by the evaluator's word -/
def FlowP (B : Tb) (xo : Addr) (F0 : Hp) (eta0 : List Addr) (H0 : Hp) (D : Ends) : Fl → Wd → Prop
 | .nx e,W => ∀ (sg : L2.St) (H F : Hp) (eta : List Addr),Fr0 B xo F0 eta0 H0 e W sg H F eta → D.nx sg H
 | .bk e,W => ∀ (sg : L2.St) (H F : Hp) (eta : List Addr),Fr0 B xo F0 eta0 H0 e W sg H F eta → D.bk sg H
 | .ct e,W => ∀ (sg : L2.St) (H F : Hp) (eta : List Addr),Fr0 B xo F0 eta0 H0 e W sg H F eta → D.ct sg H
 | .rt d,W => ∀ (v : V) (H F : Hp) (eta : List Addr),OkH B F eta W H → Ext F0 eta0 H0 F eta H → Rep B F eta d v → D.rt v H
def TSOk (B : Tb) (t : TS) (f : Env → Wd → R Fl) : Prop := ∀ (xo : Addr) (F0 : Hp) (eta0 : List Addr) (H0 : Hp) (W0 : Wd) (e : Env) (W : Wd) (sg : L2.St) (H F : Hp) (eta : List Addr) (D : Ends),True → Fr0 B xo F0 eta0 H0 e W sg H F eta →
 (f e W).wp B.xq (FlowP B xo F0 eta0 H0 D) → t D sg H
def POk (B : Tb) (X : Cx) (py : Stmt) (f : Env → Wd → R Fl) : Prop := ∃ t : TS,PS X py t ∧ TSOk B t f
def BOk (B : Tb) (X : Cx) (py : List Stmt) (f : Env → Wd → R Fl) : Prop := ∃ t : TS,PSs X py t ∧ TSOk B t f
section
variable {B : Tb} {X : Cx} {xo : Addr} {tg py pa pb pc : Expr} {pos p : Pos} {fa fb fc : Env → Wd → R D} {fs fs2 fs3 : Env → Wd → R Src}
variable {e e' : Env} {sg sg' : L2.St} {F F' H H' F0 H0 : Hp} {eta eta' eta0 : List Addr} {W W' W0 : Wd} {st : Stmt} {sts : List Stmt} {f g : Env → Wd → R Fl}
theorem Fr0.ext2 (x : Fr0 B xo F0 eta0 H0 e W sg H F eta) (o0 : True) (y : Ext F eta H F' eta' H') (o : OkH B F' eta' W' H') : Fr0 B xo F0 eta0 H0 e W' sg H' F' eta' :=
 ⟨x.st.ext y o,Ext.trans' o0 x.st.ok x.ext y,x.new⟩
theorem zZMz : BOk B X [] (fun e W=>.ok (.nx e) W):=⟨_,pss_nil,fun xo F0 eta0 H0 W0 e W sg H F eta D o x k=>k sg H F eta x⟩
theorem zZLi (h1 : POk B X st f) (h2 : BOk B X sts g) : BOk B X (st :: sts) (fun e W=>(f e W).bind fun fl W=>match fl with | .nx e=>g e W | fl=>.ok fl W):=by
 obtain ⟨t,h1,k1⟩:=h1
 obtain ⟨u,h2,k2⟩:=h2
 refine ⟨_,pss_cons h1 h2,fun xo F0 eta0 H0 W0 e W sg H F eta D o x k => ?_⟩
 refine k1 xo F0 eta0 H0 W0 e W sg H F eta _ o x ?_
 rw [R.wp_bind] at k
 refine R.wp_mono k fun fl W1 k => ?_
 cases fl with
 | nx e1=>exact fun sg1 H1 F1 eta1 x1=>k2 xo F0 eta0 H0 W0 e1 W1 sg1 H1 F1 eta1 D o x1 k
 | rt d=>exact k
 | bk e1=>exact k
 | ct e1=>exact k
theorem zZMU : POk B X (.Pass pos) (fun e W=>.ok (.nx e) W):=⟨_,ps_pass,fun xo F0 eta0 H0 W0 e W sg H F eta D o x k=>k sg H F eta x⟩
theorem zZKB : POk B X st (fun e W=>.st):=⟨_,ps_never,fun xo F0 eta0 H0 W0 e W sg H F eta D o x k=>k.elim⟩
theorem zZMy (ha : EOk B X pa fa) : POk B X (.Return (some pa) pos) (fun e W=>(fa e W).bind fun d W=>.ok (.rt d) W):=by
 obtain ⟨ta,ha,ka⟩:=ha
 refine ⟨_,ps_ret ha,fun xo F0 eta0 H0 W0 e W sg H F eta D o x k => ?_⟩
 refine ka e W sg H F eta _ x.st ?_
 rw [R.wp_bind] at k
 exact R.wp_mono k fun d W1 k v H1 F1 eta1 o1 x1 r1=>k v H1 F1 eta1 o1 (Ext.trans' o x.st.ok x.ext x1) r1
def notComp : Expr → Bool
 | .ListComp _ _ _ _=>false | .SetComp _ _ _ _=>false | .DictComp _ _ _ _ _=>false | _=>true
theorem yZy {v : Expr} (h : notComp v = true) (t : Option Expr) (l : Nat) (env : PySem.Env) : swapsWith v t l env = pure false:=by
 cases v <;> first | rfl | cases h
theorem xZu {v t : Expr} (h : ∀ x p,t ≠ .Name x p) (l : Nat) (env : PySem.Env) : swapsWith v (some t) l env = pure false:=by
 unfold swapsWith
 cases v <;> first
  | rfl
  | (cases t <;> first | rfl | exact absurd rfl (h _ _))
theorem zZFF {v t : Expr} (h : ∀ x p,t ≠ .Name x p) (l : Nat) (env : PySem.Env) : swapsWithSole [t] v l env = pure false:=xZu h l env
theorem zZMb (hn : notComp pa = true) (ha : EOk B X pa fa) : POk B X (.Expr pa pos) (fun e W=>(fa e W).bind fun _ W=>.ok (.nx e) W):=by
 obtain ⟨ta,ha,ka⟩:=ha
 refine ⟨_,ps_expr ha (yZy hn _ _ _),fun xo F0 eta0 H0 W0 e W sg H F eta D o x k => ?_⟩
 refine ka e W sg H F eta _ x.st ?_
 rw [R.wp_bind] at k
 exact R.wp_mono k fun d W1 k v H1 F1 eta1 o1 x1 r1=>k sg H1 F1 eta1 (x.ext2 o x1 o1)
theorem Fr0.set (x : Fr0 B xo F0 eta0 H0 e W sg H F eta) {i : Nat} {d : D} {v : V} (hi : i < e.length) (hx : i ∉ B.xk) (r : Rep B F eta d v) : Fr0 B xo F0 eta0 H0 (e.set i (.val d)) W (sg.set i (some v)) H F eta:=by
 refine ⟨x.st.set hi hx r,x.ext,fun j z a h1 h2 h3 => ?_⟩
 have hj : i ≠ j:=fun z=>by
  subst z
  rw [List.getElem?_set_self hi] at h1
  cases h1
  cases h2
 rw [List.getElem?_set_ne hj] at h1 h3
 exact x.new j z a h1 h2 h3
/-- name = e -/
theorem zZI7 {i : Nat} {x : Str} {p2 : Pos} (hxk : i ∉ B.xk) (hN : X.N.Nodup) (hi : X.N[i]? = some x) (hx : L2.Loc X.env.scope x) (hf : X.fn x = true ∨ X.env.scope.names.lookup x = some .local) (hs : swapsWith pa (some (.Name x p2)) pos.line X.env = pure false) (ha : EOk B X pa fa) :
  POk B X (.Assign [.Name x p2] pa pos) (fun e W=>(fa e W).bind fun d W=>(opt (if i < e.length then some (e.set i (.val d)) else none) W).bind fun e W=>.ok (.nx e) W):=by
 obtain ⟨ta,ha,ka⟩:=ha
 refine ⟨_,ps_set hN hi hx ha hs hf,fun xo F0 eta0 H0 W0 e W sg H F eta D o y k => ?_⟩
 refine ka e W sg H F eta _ y.st ?_
 rw [R.wp_bind] at k
 refine R.wp_mono k fun d W1 k v H1 F1 eta1 o1 x1 r1 => ?_
 rw [R.wp_bind] at k
 obtain ⟨e2,q,k⟩:=zZB k
 split at q
 ·rename_i hl
  cases q
  exact k _ H1 F1 eta1 ((y.ext2 o x1 o1).set hl hxk r1)
 ·cases q
/-- a,b = e -/
def notTup : Expr → Bool
 | .Tuple _ _ _=>false | _=>true
theorem zZHZ {t v : Expr} (h : notTup v = true) (env : PySem.Env) : swappedStores [t] v env = pure none:=by
 unfold swappedStores
 cases t <;> first
  | rfl
  | (cases v <;> first | rfl | cases h)
theorem zZIn {a b v : Expr} {p : Pos} (env : PySem.Env) : swappedStores [.Subscript a b p] v env = pure none:=by
 unfold swappedStores
 rfl
theorem Fr0.tgt (y : Fr0 B xo F0 eta0 H0 e W sg H F eta) {ns : List Nat} (st' : Stt B e' W sg' H F eta) (hw : ∀ vs : List Nat,(∀ i ∈ ns,i ∈ vs) → wipe sg' vs = wipe sg vs) (he : ∀ i z,e'[i]? = some z → z.owned = true → e[i]? = some z ∧ i ∉ ns) :
  Fr0 B xo F0 eta0 H0 e' W sg' H F eta:=by
 refine ⟨st',y.ext,fun i z a h1 h2 h3 => ?_⟩
 obtain ⟨q1,q2⟩:=he i z h1 h2
 refine y.new i z a q1 h2 ?_
 have w:=hw ns fun i h=>h
 have:=yZo (sg:=sg) q2
 rw [← this,← w,yZo q2]
 exact h3
mutual
theorem zZD8 : ∀ {t : Tg} {d : D} {e e' : Env},tgD t d e = some e' → ∀ (i : Nat) (z : Slot),e'[i]? = some z → z.owned = true → e[i]? = some z ∧ i ∉ tgN t
 | .nm j,d,e,e',h=>by
  unfold tgD at h
  split at h
  ·rename_i hl
   cases h
   intro i z h1 h2
   by_cases hj : j = i
   ·subst hj
    rw [List.getElem?_set_self hl] at h1
    cases h1
    cases h2
   ·rw [List.getElem?_set_ne hj] at h1
    exact ⟨h1,by simp [tgN]; exact fun z=>hj z.symm⟩
  ·cases h
 | .tup ts,.tup xs,e,e',h=>by
  simp only [tgD] at h
  simp only [tgN]
  exact zZEh h
 | .tup ts,.tupz xs,e,e',h=>by
  simp only [tgD] at h
  simp only [tgN]
  exact zZEh h
 | .tup ts,.non,e,e',h=>by simp [tgD] at h
 | .tup ts,.ext _,e,e',h=>by simp [tgD] at h
 | .tup ts,.bl _,e,e',h=>by simp [tgD] at h
 | .tup ts,.int _,e,e',h=>by simp [tgD] at h
 | .tup ts,.str _,e,e',h=>by simp [tgD] at h
 | .tup ts,.lst _,e,e',h=>by simp [tgD] at h
 | .tup ts,.ins _ _,e,e',h=>by simp [tgD] at h
 | .tup ts,.dct _,e,e',h=>by simp [tgD] at h
 | .tup ts,.dtt _,e,e',h=>by simp [tgD] at h
 | .tup ts,.own _,e,e',h=>by simp [tgD] at h
theorem zZEh : ∀ {t : Tgs} {d : List D} {e e' : Env},tgsD t d e = some e' → ∀ (i : Nat) (z : Slot),e'[i]? = some z → z.owned = true → e[i]? = some z ∧ i ∉ tgsN t
 | .nil,[],e,e',h=>by
  simp [tgsD] at h
  subst h
  intro i z h1 h2
  exact ⟨h1,by simp [tgsN]⟩
 | .nil,_ :: _,e,e',h=>by simp [tgsD] at h
 | .cons t ts,[],e,e',h=>by simp [tgsD] at h
 | .cons t ts,x :: xs,e,e',h=>by
  simp only [tgsD,Option.bind_eq_some_iff] at h
  obtain ⟨e1,h1,h2⟩:=h
  intro i z g1 g2
  obtain ⟨q1,q2⟩:=zZEh h2 i z g1 g2
  obtain ⟨q3,q4⟩:=zZD8 h1 i z q1 g2
  exact ⟨q3,by simp [tgsN,q2,q4]⟩
end
theorem zZLr {t : Tg} (hn : swappedStores [tg] pa X.env = pure none) (hs : swapsWithSole [tg] pa pos.line X.env = pure false) (h1 : (assignEach [tg] X.env).map (·.2) = [assign tg X.env]) (ha : EOk B X pa fa) (hg : GOk B X tg (tgD t) (tgN t)) :
  POk B X (.Assign [tg] pa pos) (fun e W=>(fa e W).bind fun d W=>(opt (tgD t d e) W).bind fun e W=>.ok (.nx e) W):=by
 obtain ⟨ta,ha,ka⟩:=ha
 obtain ⟨_,tg',hg,kg⟩:=hg
 refine ⟨_,ps_asg ha hg hs hn h1,fun xo F0 eta0 H0 W0 e W sg H F eta D o y k => ?_⟩
 refine ka e W sg H F eta _ y.st ?_
 rw [R.wp_bind] at k
 refine R.wp_mono k fun d W1 k v H1 F1 eta1 o1 x1 r1 => ?_
 rw [R.wp_bind] at k
 obtain ⟨e2,q,k⟩:=zZB k
 have y1:=y.ext2 o x1 o1
 exact kg d v e e2 W1 sg H1 F1 eta1 _ y1.st r1 q fun sg2 st2 w2=>k sg2 H1 F1 eta1 (y1.tgt st2 w2 (zZD8 q))
/-- name = a new list,the name's own -/
theorem Fr0.own (y : Fr0 B xo F0 eta0 H0 e W sg H F eta) {i : Nat} {a : Addr} {vs : List V} {xs : List D} (hi : i < e.length) (h1 : H a = some (.lst vs)) (h2 : F a = none) (h3 : a ∉ eta) (r : RepL B F eta xs vs) (h0 : H0 a = none) (hxh : B.xH a = none) (hxk : i ∉ B.xk)
  (hu : ∀ (j : Nat) (z : Slot),e[j]? = some z → z.owned = true → sg[j]? ≠ some (some (V.ref a))) : Fr0 B xo F0 eta0 H0 (e.set i (.ol xs)) W (sg.set i (some (.ref a))) H F eta:=by
 have hi' : i < sg.length:=by rw [← y.st.len]; exact hi
 refine ⟨⟨y.st.ok,by simp [y.st.len],fun j z h => ?_,fun j k sj sk b g1 g2 o1 o2 q1 q2 => ?_,fun j hj => ?_,by rw [List.length_set]; exact y.st.xl,y.st.xx⟩,y.ext,fun j z b g1 g2 g3 => ?_⟩
 ·by_cases hj : i = j
  ·subst hj
   rw [List.getElem?_set_self hi] at h
   cases h
   exact ⟨a,vs,List.getElem?_set_self hi',h1,r,h2,h3⟩
  ·rw [List.getElem?_set_ne hj] at h
   have q:=y.st.sl j z h
   cases z with
   | no=>trivial
   | val d=>obtain ⟨u,h1,h2⟩:=q; exact ⟨u,by rw [List.getElem?_set_ne hj]; exact h1,h2⟩
   | ol xs=>obtain ⟨a,vs,h1,h2⟩:=q; exact ⟨a,vs,by rw [List.getElem?_set_ne hj]; exact h1,h2⟩
   | oi c fs=>obtain ⟨a,dx,gs,h1,h2⟩:=q; exact ⟨a,dx,gs,by rw [List.getElem?_set_ne hj]; exact h1,h2⟩
   | od kvs=>obtain ⟨a,xs,ep,h1,h2⟩:=q; exact ⟨a,xs,ep,by rw [List.getElem?_set_ne hj]; exact h1,h2⟩
   | xv c p=>obtain ⟨h1,h2⟩:=q; exact ⟨by rw [List.getElem?_set_ne hj]; exact h1,h2⟩
 ·by_cases hj : i = j
  ·by_cases hk : i = k
   ·rw [← hj,← hk]
   ·subst hj
    rw [List.getElem?_set_self hi'] at q1
    cases q1
    rw [List.getElem?_set_ne hk] at g2 q2
    exact absurd q2 (hu k sk g2 o2)
  ·rw [List.getElem?_set_ne hj] at g1 q1
   by_cases hk : i = k
   ·subst hk
    rw [List.getElem?_set_self hi'] at q2
    cases q2
    exact absurd q1 (hu j sj g1 o1)
   ·rw [List.getElem?_set_ne hk] at g2 q2
    exact y.st.un j k sj sk b g1 g2 o1 o2 q1 q2
 ·rw [List.getElem?_set_ne (fun z=>hxk (by rw [z]; exact hj))]
  exact y.st.xr j hj
 ·by_cases hj : i = j
  ·subst hj
   rw [List.getElem?_set_self hi'] at g3
   cases g3
   rw [List.getElem?_set_self hi] at g1
   cases g1
   exact ⟨h0,(fun q=>by cases q),hxh⟩
  ·rw [List.getElem?_set_ne hj] at g1 g3
   exact y.new j z b g1 g2 g3
/-- a place's own object was there ahead of what is new -/
theorem Stt.ownAt (s : Stt B e W sg H F eta) {j : Nat} {z : Slot} {a : Addr} (h1 : e[j]? = some z) (h2 : z.owned = true) (h3 : sg[j]? = some (some (V.ref a))) : H a ≠ none:=by
 have q:=s.sl j z h1
 cases z with
 | no=>cases h2
 | val _=>cases h2
 | ol xs=>obtain ⟨b,vs,q1,q2,_⟩:=q; rw [h3] at q1; cases q1; rw [q2]; simp
 | oi c fs=>obtain ⟨b,dx,gs,q1,q2,_⟩:=q; rw [h3] at q1; cases q1; rw [q2]; simp
 | od kvs=>obtain ⟨b,xs,ep,q1,q2,_⟩:=q; rw [h3] at q1; cases q1; rw [q2]; simp
 | xv c p=>cases h2
theorem xZx {i : Nat} (hxk : i ∉ B.xk) {st : Stmt} {t : TE} {ff : Env → Wd → R (List D)} (h : PS X st (tAsg t (gName i)))
  (k : ∀ (e : Env) (W : Wd) (sg : L2.St) (H F : Hp) (eta : List Addr) (Q : VK),Stt B e W sg H F eta →
   (ff e W).wp B.xq (fun ds W' => ∀ (a : Addr) (vs : List V) (H' F' : Hp) (eta' : List Addr),OkH B F' eta' W' H' → Ext F eta H F' eta' H' → H a = none → H' a = some (.lst vs) → F' a = none → a ∉ eta' → RepL B F' eta' ds vs → Q (.ref a) H') → t sg H Q) :
  POk B X st (fun e W=>(ff e W).bind fun xs W=>if i < e.length then .ok (.nx (e.set i (.ol xs))) W else .st):=by
 refine ⟨_,h,fun xo F0 eta0 H0 W0 e W sg H F eta D o y q => ?_⟩
 refine k e W sg H F eta _ y.st ?_
 rw [R.wp_bind] at q
 refine R.wp_mono q fun xs W1 q a vs H1 F1 eta1 o1 x1 g0 g1 g2 g3 r1 => ?_
 split at q
 ·rename_i hl
  have y1:=y.ext2 o x1 o1
  refine q _ H1 F1 eta1 (y1.own hl g1 g2 g3 r1 (y.ext.there' y.st.ok g0) (y.st.xx.there' y.st.ok g0) hxk fun j z h1 h2 h3 => ?_)
  exact y.st.ownAt h1 h2 h3 g0
 ·exact q.elim
theorem zZIC {i : Nat} {x : Str} {p2 : Pos} (hxk : i ∉ B.xk) {ff : Env → Wd → R (List D)} (hN : X.N.Nodup) (hi : X.N[i]? = some x) (hx : L2.Loc X.env.scope x) (hf : X.fn x = true ∨ X.env.scope.names.lookup x = some .local) (hs : swapsWith pa (some (.Name x p2)) pos.line X.env = pure false) (ha : FOk B X pa ff) :
  POk B X (.Assign [.Name x p2] pa pos) (fun e W=>(ff e W).bind fun xs W=>if i < e.length then .ok (.nx (e.set i (.ol xs))) W else .st):=by
 obtain ⟨ta,ha,ka⟩:=ha
 exact xZx hxk (ps_set hN hi hx ha hs hf) ka
/-- name = a new list,frozen -/
theorem zZBW {i : Nat} (hxk : i ∉ B.xk) {st : Stmt} {t : TE} {ff : Env → Wd → R (List D)} (h : PS X st (tAsg t (gName i)))
  (k : ∀ (e : Env) (W : Wd) (sg : L2.St) (H F : Hp) (eta : List Addr) (Q : VK),Stt B e W sg H F eta →
   (ff e W).wp B.xq (fun ds W' => ∀ (a : Addr) (vs : List V) (H' F' : Hp) (eta' : List Addr),OkH B F' eta' W' H' → Ext F eta H F' eta' H' → H a = none → H' a = some (.lst vs) → F' a = none → a ∉ eta' → RepL B F' eta' ds vs → Q (.ref a) H') → t sg H Q) :
  POk B X st (fun e W=>((ff e W).bind fun xs W=>.ok (D.lst xs) W).bind fun d W=>(opt (if i < e.length then some (e.set i (.val d)) else none) W).bind fun e W=>.ok (.nx e) W):=by
 refine ⟨_,h,fun xo F0 eta0 H0 W0 e W sg H F eta D o y q => ?_⟩
 refine k e W sg H F eta _ y.st ?_
 dsimp only at q
 rw [R.bind_assoc,R.wp_bind] at q
 refine R.wp_mono q fun xs W1 q a vs H1 F1 eta1 o1 x1 g0 g1 g2 g3 r1 => ?_
 rw [R.bind_ok,R.wp_bind] at q
 obtain ⟨e2,q2,q⟩:=zZB q
 split at q2
 ·rename_i hl
  cases q2
  have s1:=zZ8 (u:=HO.lst vs) g2
  have x2 : Ext F eta H (upd F1 a (.lst vs)) eta1 H1:=⟨x1.sub.trans s1,x1.pre,x1.keep,fun b hb=>by
   by_cases e : b = a
   ·subst e; exact .inr g0
   ·rw [upd_ne e] at hb; exact x1.newF b hb,x1.newE⟩
  exact q _ H1 _ eta1 ((y.ext2 o x2 (o1.frz g1 g2 g3)).set hl hxk (.lst upd_same (r1.mono s1 (List.prefix_refl _))))
 ·cases q2
theorem zZEO {i : Nat} (hxk : i ∉ B.xk) {st : Stmt} {t : TE} {ff : Env → Wd → R (List D)} (h : PS X st (tAsg t (gName i)))
  (k : ∀ (e : Env) (W : Wd) (sg : L2.St) (H F : Hp) (eta : List Addr) (Q : VK),Stt B e W sg H F eta →
   (ff e W).wp B.xq (fun ds W' => ∀ (a : Addr) (vs : List V) (H' F' : Hp) (eta' : List Addr),OkH B F' eta' W' H' → Ext F eta H F' eta' H' → H a = none → H' a = some (.lst vs) → F' a = none → a ∉ eta' → RepL B F' eta' ds vs → Q (.ref a) H') → t sg H Q) :
  POk B X st (fun e W=>((ff e W).bind fun xs W=>newCell (.lst xs) W).bind fun d W=>(opt (if i < e.length then some (e.set i (.val d)) else none) W).bind fun e W=>.ok (.nx e) W):=by
 refine ⟨_,h,fun xo F0 eta0 H0 W0 e W sg H F eta D o y q => ?_⟩
 refine k e W sg H F eta _ y.st ?_
 dsimp only at q
 rw [R.bind_assoc,R.wp_bind] at q
 refine R.wp_mono q fun xs W1 q a vs H1 F1 eta1 o1 x1 g0 g1 g2 g3 r1 => ?_
 unfold newCell at q
 rw [R.bind_ok,R.wp_bind] at q
 obtain ⟨e2,q2,q⟩:=zZB q
 split at q2
 ·rename_i hl
  cases q2
  have o2 : OkH B F1 (eta1 ++ [a]) (W1 ++ [.lst xs]) H1:=o1.toCell g2 g3 ⟨vs,g1,r1.mono (SubH.refl _) (List.prefix_append _ _)⟩
  have x2 : Ext F eta H F1 (eta1 ++ [a]) H1:=⟨x1.sub,x1.pre.trans (List.prefix_append _ _),x1.keep,x1.newF,fun b hb=>by
   rcases List.mem_append.mp hb with hb | hb
   ·exact x1.newE b hb
   ·rw [List.mem_singleton.mp hb]; exact .inr g0⟩
  exact q _ H1 _ _ ((y.ext2 o x2 o2).set hl hxk (.own (by rw [← o1.len]; simp)))
 ·cases q2
/-- a place's own object is written -/
theorem Fr0.write (y : Fr0 B xo F0 eta0 H0 e W sg H F eta) {i : Nat} {a : Addr} {z z' : Slot} {u : HO} (h1 : e[i]? = some z) (h2 : z.owned = true) (h3 : sg[i]? = some (some (V.ref a))) (hF : F a = none) (hE : a ∉ eta) (hz : z'.owned = true) (hz2 : z'.isOi = true → z.isOi = true)
  (hr : SlotRep B F eta (upd H a u) sg i z') : Fr0 B xo F0 eta0 H0 (e.set i z') W sg (upd H a u) F eta:=by
 have hi : i < e.length:=(List.getElem?_eq_some_iff.mp h1).1
 have h0:=(y.new i z a h1 h2 h3).1
 have hx0:=(y.new i z a h1 h2 h3).2.2
 refine ⟨⟨y.st.ok.writeO hF hE,by simp [y.st.len],fun j w h => ?_,fun j k sj sk b g1 g2 o1 o2 q1 q2 => ?_,y.st.xr,y.st.xl,⟨y.st.xx.sub,y.st.xx.pre,fun b o hb hn => ?_,y.st.xx.newF,y.st.xx.newE⟩⟩,⟨y.ext.sub,y.ext.pre,fun b o hb hn => ?_,y.ext.newF,y.ext.newE⟩,fun j w b g1 g2 g3 => ?_⟩
 ·by_cases hj : i = j
  ·subst hj
   rw [List.getElem?_set_self hi] at h
   cases h
   exact hr
  ·rw [List.getElem?_set_ne hj] at h
   have q:=y.st.sl j w h
   have hne : ∀ b,w.owned = true → sg[j]? = some (some (V.ref b)) → b ≠ a:=fun b hw hb z=>by
    subst z
    exact hj (y.st.un i j _ _ b h1 h h2 hw h3 hb)
   cases w with
   | no=>trivial
   | val d=>exact q
   | ol xs=>obtain ⟨b,vs,q1,q2,q3⟩:=q; exact ⟨b,vs,q1,by rw [upd_ne (hne b rfl q1)]; exact q2,q3⟩
   | oi c fs=>obtain ⟨b,dx,gs,q1,q2,q3⟩:=q; exact ⟨b,dx,gs,q1,by rw [upd_ne (hne b rfl q1)]; exact q2,q3⟩
   | od kvs=>obtain ⟨b,xs,ep,q1,q2,q3⟩:=q; exact ⟨b,xs,ep,q1,by rw [upd_ne (hne b rfl q1)]; exact q2,q3⟩
   | xv c p =>
    refine ⟨q.1,q.2.1,q.2.2.write fun fs hx => ?_⟩
    have qz:=y.st.sl i z h1
    cases z with
    | ol xs =>
     obtain ⟨b,vs,q1,q2,_⟩:=qz
     rw [h3] at q1
     cases q1
     rw [hx] at q2
     cases q2
    | oi c fs2 =>
     obtain ⟨b,dx,gs,q1,q2,_⟩:=qz
     rw [h3] at q1
     cases q1
     rw [hx] at q2
     cases q2
    | od kvs =>
     obtain ⟨b,xs,ep,q1,q2,_⟩:=qz
     rw [h3] at q1
     cases q1
     rw [hx] at q2
     exact HO.noConfusion (Option.some.inj q2)
    | _=>cases h2
 ·have own : ∀ (j : Nat) (s : Slot),(e.set i z')[j]? = some s → s.owned = true → ∃ s',e[j]? = some s' ∧ s'.owned = true:=fun j s g o=>by
   by_cases hj : i = j
   ·subst hj; exact ⟨z,h1,h2⟩
   ·rw [List.getElem?_set_ne hj] at g; exact ⟨s,g,o⟩
  obtain ⟨s1,a1,b1⟩:=own j sj g1 o1
  obtain ⟨s2,a2,b2⟩:=own k sk g2 o2
  exact y.st.un j k s1 s2 b a1 a2 b1 b2 q1 q2
 ·have hne : b ≠ a:=fun z=>by rw [z,hx0] at hb; cases hb
  rw [upd_ne hne]
  exact y.st.xx.keep b o hb hn
 ·have hne : b ≠ a:=fun z=>by rw [z,h0] at hb; cases hb
  rw [upd_ne hne]
  exact y.ext.keep b o hb hn
 ·by_cases hj : i = j
  ·subst hj
   rw [List.getElem?_set_self hi] at g1
   cases g1
   exact ⟨(y.new i z b h1 h2 g3).1,(fun q=>(y.new i z b h1 h2 g3).2.1 (hz2 q)),(y.new i z b h1 h2 g3).2.2⟩
  ·rw [List.getElem?_set_ne hj] at g1; exact y.new j w b g1 g2 g3
/-- a cell is written -/
theorem Fr0.cell (y : Fr0 B xo F0 eta0 H0 e W sg H F eta) {n : Nat} {a : Addr} {c : Cell} {u : HO} (hn : eta[n]? = some a) (hc : CellRep B F eta (upd H a u) a c) : Fr0 B xo F0 eta0 H0 e (W.set n c) sg (upd H a u) F eta:=by
 have hm : a ∈ eta:=List.mem_of_getElem? hn
 refine ⟨y.st.ext (Ext.setCell hm) (y.st.ok.setCell hn hc),⟨y.ext.sub,y.ext.pre,fun b o hb hno => ?_,y.ext.newF,y.ext.newE⟩,y.new⟩
 have hne : b ≠ a:=fun z=>by
  subst z
  rcases y.ext.newE b hm with q | q
  ·exact hno q
  ·rw [q] at hb; cases hb
 rw [upd_ne hne]
 exact y.ext.keep b o hb hno
def fldS (g : Cfg) (fb : Env → Wd → R D) (f i : Nat) : Env → Wd → R Fl:=fun e W=>(fb e W).bind fun d W =>
    match e[i]? with
    | some (.oi c fs)=>if g.fld c f && decide (fs.length < 100) then .ok (.nx (e.set i (.oi c (putFd f d fs)))) W else .st
    | some (.val (.own n))=>(match W[n]? with | some (.ins c fs)=>if g.fld c f && decide (fs.length < 100) then .ok (.nx e) (W.set n (.ins c (putFd f d fs))) else .st | _=>.st)
    | _=>.st
theorem zZMq {g : Cfg} {i f : Nat} {x nm : Str} {p2 p3 : Pos} (hf : FldOk B X.K g) (hN : X.N[i]? = some x) (hv : Vis X.env.scope x) (hd : (x == ("__debug__" : Str)) = false) (hc : (x == ("__classdict__" : Str)) = false) (hn : B.fn f = nm) (hb : EOk B X pb fb) :
  POk B X (.Assign [.Attribute (.Name x p2) nm p3] pb pos) (fldS g fb f i):=by
 subst hn
 obtain ⟨tb,hb,kb⟩:=hb
 refine ⟨_,ps_fld (pe_var hN hv hd hc) hb (xZu (fun _ _ h=>by cases h) _ _),fun xo F0 eta0 H0 W0 e W sg H F eta De o y k => ?_⟩
 refine kb e W sg H F eta _ y.st ?_
 unfold fldS at k
 rw [R.wp_bind] at k
 refine R.wp_mono k fun d W1 k v H1 F1 eta1 o1 x1 r1 => ?_
 have y1:=y.ext2 o x1 o1
 split at k
 ·rename_i c fs hs
  split at k
  ·rename_i hg
   simp only [Bool.and_eq_true,decide_eq_true_eq] at hg
   obtain ⟨f1,f2,f3⟩:=hf _ _ hg.1
   obtain ⟨a,dx,gs,q1,q2,q3,q4,q5⟩:=y1.st.sl i _ hs
   refine ⟨_,q1,a,_,dx,gs,rfl,q2,f2,f3,by rw [← q3.length]; omega, ?_⟩
   exact k _ _ F1 eta1 (y1.write (z':=.oi c (putFd f d fs)) hs rfl q1 q4 q5 rfl (fun _=>rfl) ⟨a,dx,_,q1,upd_same,q3.put f1 r1,q4,q5⟩)
  ·exact k.elim
 ·rename_i n hs
  obtain ⟨u,q1,q2⟩:=y1.st.sl i _ hs
  cases q2 with
  | own hh =>
   split at k
   ·rename_i c fs hw
    split at k
    ·rename_i hg
     simp only [Bool.and_eq_true,decide_eq_true_eq] at hg
     obtain ⟨f1,f2,f3⟩:=hf _ _ hg.1
     obtain ⟨dx,gs,z1,z2⟩:=o1.cell n _ _ hh hw
     refine ⟨_,q1,_,_,dx,gs,rfl,z1,f2,f3,by rw [← z2.length]; omega, ?_⟩
     exact k _ _ F1 eta1 (y1.cell hh ⟨dx,_,upd_same,z2.put f1 r1⟩)
    ·exact k.elim
   ·exact k.elim
 ·exact k.elim
/-- the list that a source names is put -/
theorem zZIO (y : Fr0 B xo F0 eta0 H0 e W sg H F eta) {s : Src} {v : V} {xs ys : List D} {D' : Ends} (r : SrcRep B e sg F eta s v) (hi : items W s = some xs) (hs : s.isStr = false) (ht : s.isTup = false) (k : (putList s ys e W).wp B.xq (FlowP B xo F0 eta0 H0 D')) :
  ∃ a vs,v = .ref a ∧ H a = some (.lst vs) ∧ RepL B F eta xs vs ∧ ∀ us,RepL B F eta ys us → D'.nx sg (upd H a (.lst us)):=by
 obtain ⟨a,vs,rfl,rl,hh⟩:=r.lst y.st hi hs ht
 refine ⟨a,vs,rfl,hh,rl,fun us ru => ?_⟩
 cases s with
 | frz _ _=>exact k.elim
 | str _=>exact k.elim
 | slot i zs =>
  obtain ⟨h1,h2⟩:=r
  obtain ⟨b,ws,q1,q2,q3,q4,q5⟩:=y.st.sl i _ h1
  rw [h2] at q1
  cases q1
  exact k _ _ F eta (y.write (z':=.ol ys) h1 rfl h2 q4 q5 rfl (fun q=>by cases q) ⟨a,us,h2,upd_same,ru,q4,q5⟩)
 | cell n =>
  obtain ⟨b,h1,h2⟩:=r
  cases h2
  exact k _ _ F eta (y.cell h1 ⟨us,upd_same,ru⟩)
def idxS (fx : Env → Wd → R D) (fs : Env → Wd → R Src) (fb : Env → Wd → R D) : Env → Wd → R Fl:=fun e W=>(fx e W).bind fun d W=>(fs e W).bind fun s W=>(fb e W).bind fun i W =>
  if s.isStr || s.isTup then .st else (opt ((items W s).bind fun xs=>setAt xs i d) W).bind fun ys W=>putList s ys e W
theorem zZNs {px : Expr} {p2 : Pos} {fx : Env → Wd → R D} (ha' : ∀ v,assign (.Subscript pa pb p2) X.env v = (do
   let ov ← holding [v] (eval pa X.env)
   let iv ← holding [v,ov] (eval pb X.env)
   standAt p2
   holding [v,ov,iv] (setItem ov iv v)
   release [v,ov,iv] [])) (hx : EOk B X px fx) (ha : SOk B X pa fs) (hb : EOk B X pb fb) :
  POk B X (.Assign [.Subscript pa pb p2] px pos) (idxS fx fs fb):=by
 obtain ⟨tx,hx,kx⟩:=hx
 obtain ⟨ta,ha,ka⟩:=ha
 obtain ⟨tb,hb,kb⟩:=hb
 refine ⟨_,ps_asg hx (pg_sub ha hb set_list ha') (zZFF (fun _ _ h=>by cases h) _ _) (zZIn _) rfl,fun xo F0 eta0 H0 W0 e W sg H F eta De o y k => ?_⟩
 refine kx e W sg H F eta _ y.st ?_
 unfold idxS at k
 rw [R.wp_bind] at k
 refine R.wp_mono k fun d W1 k v H1 F1 eta1 o1 x1 r1 => ?_
 rw [R.wp_bind] at k
 have y1:=y.ext2 o x1 o1
 refine ka e W1 sg H1 F1 eta1 _ y1.st (R.wp_mono k fun s W2 k u H2 F2 eta2 o2 x2 r2 => ?_)
 rw [R.wp_bind] at k
 have y2:=y1.ext2 o x2 o2
 refine kb e W2 sg H2 F2 eta2 _ y2.st (R.wp_mono k fun i W3 k w H3 F3 eta3 o3 x3 r3 => ?_)
 have y3:=y2.ext2 o x3 o3
 split at k
 ·exact k.elim
 ·rename_i hs
  simp only [Bool.or_eq_true,not_or,Bool.not_eq_true] at hs
  rw [R.wp_bind] at k
  obtain ⟨ys,q,k⟩:=zZB k
  simp only [Option.bind_eq_some_iff] at q
  obtain ⟨xs,hi,q⟩:=q
  obtain ⟨a,vs,rfl,hh,rl,kk⟩:=zZIO y3 (r2.ext x3) hi hs.1 hs.2 k
  cases r3 with
  | int j =>
   simp only [setAt,Option.map_eq_some_iff] at q
   obtain ⟨m,q1,rfl⟩:=q
   exact ⟨a,vs,j,m,rfl,rfl,hh,by rw [← rl.length]; exact q1,kk _ (rl.set (r1.mono (x2.sub.trans x3.sub) (x2.pre.trans x3.pre)) m)⟩
  | _=>cases q
def appS (fs : Env → Wd → R Src) (fx : Env → Wd → R D) : Env → Wd → R Fl:=fun e W=>(fs e W).bind fun s W=>if !lstSrc W s then .st else (fx e W).bind fun d W=>(opt (items W s) W).bind fun xs W=>if xs.length < cap then putList s (xs ++ [d]) e W else .st
theorem zZJm {apos p2 : Pos} (hba : attributeBase pa "append" X.env (eval pa X.env) = eval pa X.env) (hl : (apos.endLine == p2.line) = true) (hn : notStar pb = true) (ha : SOk B X pa fs) (hb : EOk B X pb fb) :
  POk B X (.Expr (.Call (.Attribute pa "append" apos) [pb] [] p2) pos) (appS fs fb):=by
 obtain ⟨ta,ha,ka⟩:=ha
 obtain ⟨tb,hb,kb⟩:=hb
 refine ⟨_,ps_expr (pe_bm PySem.F.plainAttrs_list PySem.F.slot_list_append PySem.F.type_list_append mt_append ha (pa_cons hb pa_nil (star1 hn _ _)) hba (by rw [star1 hn]; rfl) hl (star1 hn _ _) rfl) (yZy rfl _ _ _),fun xo F0 eta0 H0 W0 e W sg H F eta De o y k => ?_⟩
 refine ka e W sg H F eta _ y.st ?_
 unfold appS at k
 rw [R.wp_bind] at k
 refine R.wp_mono k fun s W1 k v H1 F1 eta1 o1 x1 r1 => ?_
 have y1:=y.ext2 o x1 o1
 split at k
 ·exact k.elim
 ·rename_i hs
  simp only [Bool.not_eq_true',Bool.not_eq_false] at hs
  obtain ⟨ty,z1,z2⟩:=zZBT y1.st r1 hs X.K
  refine ⟨ty, ?_⟩
  rw [R.wp_bind] at k
  refine kb e W1 sg H1 F1 eta1 _ y1.st (R.wp_mono k fun d W2 k u H2 F2 eta2 o2 x2 r2 => ?_)
  have y2:=y1.ext2 o x2 o2
  rw [R.wp_bind] at k
  obtain ⟨xs,hi,k⟩:=zZB k
  split at k
  ·rename_i hlt
   obtain ⟨a,vs,rfl,hh,rl,kk⟩:=zZIO y2 (r1.ext x2) hi z1 z2 k
   exact ⟨a,vs,u,rfl,rfl,hh,by rw [← rl.length]; exact Nat.lt_of_lt_of_le hlt zZc,kk _ (rl.append (.cons r2 .nil))⟩
  ·exact k.elim
/-- list.extend with a tuple of any make -/
theorem zZO2 (l b : Addr) (xs ys : Array Value) (n n2 : Nat) (d0 : Option Addr) (sl : Array (Option Value)) (h1 : ¬(!xs.isEmpty && Builtin.List.listTooLong (xs.size + ys.size)) = true) (h2 : xs.size ≤ sizeLine) (h3 : (xs ++ ys).size ≤ sizeLine + 1) :
  Meets (Builtin.«list.extend» ⟨[.ref l,.ref b],[]⟩) (fun _ R s=>s.heap.get? l = some ⟨.type "list",none,.seq xs n,#[]⟩ ∧ s.heap.get? b = some ⟨.type "tuple",d0,.seq ys n2,sl⟩ ∧ R (.ok (.ret .none)) { s with heap:=s.heap.update l (Obj.mapSeq fun x=>x ++ ys),toks:=s.toks }):=by
 refine .of_wp fun prog w A R s h => ?_
 obtain ⟨hp,gs,dr,tk,oss⟩:=s
 obtain ⟨hl,hb,h⟩:=h
 have i1:=AutoSeq1.idx_int
 have i2:=AutoSeq1.sub_tuple_tuple
 have i3:=AutoSeq1.sub_list_list
 have i4:=AutoSeq1.sub_tuple_list
 have i5:=AutoSeq1.sub_list_tuple
 wp_walk using (wpAny_updateSeq hl rfl (hz:=h2) (_hz':=h3)),AutoSeq1.wpAny_loadPart' hl,AutoSeq1.wpAny_loadPart' hb
 exact ⟨_,rfl,h⟩
def rExtB (K : PySem.W.Frag) : V → List V → Hp → VK → Prop:=fun x vs H Q => ∃ l b xs zs,x = .ref l ∧ vs = [.ref b] ∧ H l = some (.lst xs) ∧ (H b = some (.lst zs) ∨ SqT K H b zs) ∧ xs.length + zs.length ≤ sizeLine ∧ Q .non (upd H l (.lst (xs ++ zs)))
theorem zZNW : MtM X "list.extend" (rExtB X.K):=by
 intro pins s σ H x vs v us Q I rx rv h
 obtain ⟨l,b,xs,zs,rfl,rfl,hH,hB,hz,q⟩:=h
 rcases hB with hB | hB
 ·exact mt_extend pins s σ H _ _ v us Q I rx rv ⟨l,b,xs,zs,rfl,rfl,hH,hB,hz,q⟩
 cases rx
 obtain ⟨u,rfl,ru⟩:=rv.one
 cases ru
 obtain ⟨z,its,n,r,hl,e⟩:=I.lstM hH
 obtain ⟨its2,r2,⟨⟨oc,od,oa,os⟩,e2,ec,n2,ed⟩,_⟩:=I.tuple hB
 dsimp only at ec ed
 subst ec ed
 have hl2:=r2.length
 have hsz : its.toArray.size + its2.toArray.size ≤ sizeLine:=by rw [List.size_toArray,List.size_toArray]; omega
 have hlong : ¬ (!its.toArray.isEmpty && Builtin.List.listTooLong (its.toArray.size + its2.toArray.size)) = true:=by
  unfold Builtin.List.listTooLong
  rw [decide_eq_false (by omega),Bool.and_false]
  simp
 refine call_meets F.slot_list_extend ⟨_,e,rfl⟩ F.entry_list_extend (F.args_list_extend_2 _ _)
  (zZO2 l b its.toArray its2.toArray n n2 od os hlong (by rw [List.size_toArray]; omega) (by rw [Array.size_append]; omega)) ⟨e,e2, ?_⟩
 refine ⟨.non,_,I.lset (its':=its ++ its2) hH e (by simp) (r.append r2) ?_,rfl,q⟩
 rw [List.length_append]
 omega
def extS (fs fs2 : Env → Wd → R Src) : Env → Wd → R Fl:=fun e W=>(fs e W).bind fun s W=>if !lstSrc W s then .st else (fs2 e W).bind fun s2 W=>(opt (items W s) W).bind fun xs W =>
  match s2 with
  | .frz ys _=>if xs.length + ys.length ≤ cap then putList s (xs ++ ys) e W else .st
  | _=>.st
theorem zZJc {apos p2 : Pos} (hba : attributeBase pa "extend" X.env (eval pa X.env) = eval pa X.env) (hl : (apos.endLine == p2.line) = true) (hn : notStar pb = true) (ha : SOk B X pa fs) (hb : SOk B X pb fs2) :
  POk B X (.Expr (.Call (.Attribute pa "extend" apos) [pb] [] p2) pos) (extS fs fs2):=by
 obtain ⟨ta,ha,ka⟩:=ha
 obtain ⟨tb,hb,kb⟩:=hb
 refine ⟨_,ps_expr (pe_bm PySem.F.plainAttrs_list PySem.F.slot_list_extend PySem.F.type_list_extend zZNW ha (pa_cons hb pa_nil (star1 hn _ _)) hba (by rw [star1 hn]; rfl) hl (star1 hn _ _) rfl) (yZy rfl _ _ _),fun xo F0 eta0 H0 W0 e W sg H F eta De o y k => ?_⟩
 refine ka e W sg H F eta _ y.st ?_
 unfold extS at k
 rw [R.wp_bind] at k
 refine R.wp_mono k fun s W1 k v H1 F1 eta1 o1 x1 r1 => ?_
 have y1:=y.ext2 o x1 o1
 split at k
 ·exact k.elim
 ·rename_i hs
  simp only [Bool.not_eq_true',Bool.not_eq_false] at hs
  obtain ⟨ty,z1,z2⟩:=zZBT y1.st r1 hs X.K
  refine ⟨ty, ?_⟩
  rw [R.wp_bind] at k
  refine kb e W1 sg H1 F1 eta1 _ y1.st (R.wp_mono k fun s2 W2 k u H2 F2 eta2 o2 x2 r2 => ?_)
  have y2:=y1.ext2 o x2 o2
  rw [R.wp_bind] at k
  obtain ⟨xs,hi,k⟩:=zZB k
  cases s2 with
  | frz ys d =>
   simp only [] at k
   split at k
   ·rename_i hlt
    obtain ⟨a,vs,rfl,hh,rl,kk⟩:=zZIO y2 (r1.ext x2) hi z1 z2 k
    obtain ⟨rr,hd⟩:=r2
    rcases hd with rfl | rfl
    ·cases rr with
     | lst h r=>exact ⟨a,_,vs,_,rfl,rfl,hh,.inl (o2.sub _ _ h),by rw [← rl.length,← r.length]; exact Nat.le_trans hlt zZc,kk _ (rl.append r)⟩
    ·cases rr with
     | tup h r=>exact ⟨a,_,vs,_,rfl,rfl,hh,.inr (h.mono o2.sub).sq,by rw [← rl.length,← r.length]; exact Nat.le_trans hlt zZc,kk _ (rl.append r)⟩
   ·exact k.elim
  | _=>exact k.elim
end
end DL
set_option maxRecDepth 100000
set_option maxHeartbeats 4000000
namespace DL
open PySem PySem.Spec PyProof.Rows
open L2 hiding St
section
variable {B : Tb} {X : Cx} {xo : Addr} {tg py pa pb pc : Expr} {pos p : Pos} {fa fb fc : Env → Wd → R D} {fs fs2 fs3 : Env → Wd → R Src}
variable {e e' : Env} {sg sg' : L2.St} {F F' H H' F0 H0 : Hp} {eta eta' eta0 : List Addr} {W W' W0 : Wd} {st : Stmt} {sts sts2 : List Stmt} {f g : Env → Wd → R Fl}
/-- name op= e -/
theorem zZNd {op : Op} {i : Nat} {x : Str} {p2 : Pos} (hop : op = .add ∨ op = .sub) (hxk : i ∉ B.xk) (hN : X.N.Nodup) (hi : X.N[i]? = some x) (hx : L2.Loc X.env.scope x) (hf : X.fn x = true ∨ X.env.scope.names.lookup x = some .local) (ha : EOk B X pa fa) :
  POk B X (.AugAssign (.Name x p2) (pyOp op) pa pos) (fun e W=>(opt (getV e i) W).bind fun x W=>(fa e W).bind fun y W=>(opt (match x,y with | .int _,.int _=>binD op x y | _,_=>none) W).bind fun z W=>if i < e.length then .ok (.nx (e.set i (.val z))) W else .st):=by
 obtain ⟨ta,ha,ka⟩:=ha
 have go : ∀ (h : Int → Int → Int) (hb : ∀ a b,binD op (.int a) (.int b) = some (.int (h a b))) (ho : OpR X (inplaceOp (pyOp op)) (rI0 fun i j=>.int (h i j))),
   POk B X (.AugAssign (.Name x p2) (pyOp op) pa pos) (fun e W=>(opt (getV e i) W).bind fun x W=>(fa e W).bind fun y W=>(opt (match x,y with | .int _,.int _=>binD op x y | _,_=>none) W).bind fun z W=>if i < e.length then .ok (.nx (e.set i (.val z))) W else .st):=by
  intro h hb ho
  refine ⟨_,ps_aug hN hi hx ha (fun pins s σ H x y v u Q I rx ry q=>ho pins s σ H x y v u Q I rx ry q) hf,fun xo F0 eta0 H0 W0 e W sg H F eta De o y k => ?_⟩
  dsimp only at k
  rw [R.wp_bind] at k
  obtain ⟨d,q,k⟩:=zZB k
  unfold getV at q
  split at q
  ·rename_i d' hs
   cases q
   obtain ⟨v,q1,q2⟩:=y.st.sl i _ hs
   refine ⟨v,q1, ?_⟩
   rw [R.wp_bind] at k
   refine ka e W sg H F eta _ y.st (R.wp_mono k fun d2 W1 k u H1 F1 eta1 o1 x1 r1 => ?_)
   have y1:=y.ext2 o x1 o1
   rw [R.wp_bind] at k
   obtain ⟨z,q3,k⟩:=zZB k
   cases q2 with
   | int a =>
    cases r1 with
    | int b =>
     simp only [hb] at q3
     cases q3
     split at k
     ·rename_i hl
      exact ⟨a,b,rfl,rfl,k _ H1 F1 eta1 (y1.set hl hxk (.int _))⟩
     ·exact k.elim
    | _=>cases q3
   | _=>cases q3
  ·cases q
 rcases hop with rfl | rfl
 ·exact go (fun a b=>a + b) (fun _ _=>rfl) iop_add
 ·exact go (fun a b=>a - b) (fun _ _=>rfl) iop_sub
theorem zZNq (hc : TOk B X pc (tv fc)) (ha : BOk B X sts f) (hb : BOk B X sts2 g) : POk B X (.If pc sts sts2 pos) (fun e W=>(fc e W).bind fun x W=>(opt (truD x) W).bind fun k W=>if k then f e W else g e W):=by
 obtain ⟨tc,hc,kc⟩:=hc
 obtain ⟨ta,ha,ka⟩:=ha
 obtain ⟨tb,hb,kb⟩:=hb
 refine ⟨_,ps_if hc ha hb,fun xo F0 eta0 H0 W0 e W sg H F eta De o y k => ?_⟩
 refine kc e W sg H F eta _ y.st ?_
 unfold tv
 dsimp only at k
 rw [R.wp_bind] at k ⊢
 refine R.wp_mono k fun x W1 k => ?_
 rw [R.wp_bind] at k
 refine R.wp_mono k fun b W2 k H1 F1 eta1 o1 x1 => ?_
 have y1:=y.ext2 o x1 o1
 cases b with
 | true=>exact iteT (ka xo F0 eta0 H0 W0 e W2 sg H1 F1 eta1 De o y1 k)
 | false=>exact iteF (kb xo F0 eta0 H0 W0 e W2 sg H1 F1 eta1 De o y1 k)
theorem unbaseExt {F0 F1 F H0 H1 H : Hp} {eta0 eta1 eta : List Addr} (x : Ext F0 eta0 H0 F1 eta1 H1) (y : Ext F1 eta1 H0 F eta H) : Ext F0 eta0 H0 F eta H:=by
 refine ⟨x.sub.trans y.sub,x.pre.trans y.pre,fun a o h hn=>y.keep a o h fun z => ?_,fun a h => ?_,fun a h => ?_⟩
 ·rcases x.newE a z with q | q
  ·exact hn q
  ·rw [h] at q; cases q
 ·rcases y.newF a h with q | q
  ·exact x.newF a q
  ·exact .inr q
 ·rcases y.newE a h with q | q
  ·exact x.newE a q
  ·exact .inr q
theorem Fr0.rebase {F1 H1 : Hp} {eta1 : List Addr} (x : Ext F0 eta0 H0 F1 eta1 H1) (y : Fr0 B xo F0 eta0 H0 e W sg H F eta) (s : SubH F1 F) (p : eta1 <+: eta) : Fr0 B xo F1 eta1 H0 e W sg H F eta:=by
 refine ⟨y.st,⟨s,p,fun a o h hn=>y.ext.keep a o h fun z=>hn (x.pre.subset z),fun a h => ?_,fun a h => ?_⟩,y.new⟩
 ·rcases y.ext.newF a h with q | q
  ·refine .inl fun z=>q ?_
   cases w : F0 a with
   | none=>rfl
   | some u=>rw [x.sub a u w] at z; cases z
  ·exact .inr q
 ·rcases y.ext.newE a h with q | q
  ·exact .inl (x.pre.subset q)
  ·exact .inr q
theorem Fr0.unbase {F1 H1 : Hp} {eta1 : List Addr} (x : Ext F0 eta0 H0 F1 eta1 H1) (y : Fr0 B xo F1 eta1 H0 e W sg H F eta) : Fr0 B xo F0 eta0 H0 e W sg H F eta ∧ SubH F1 F ∧ eta1 <+: eta:=by
 refine ⟨⟨y.st,unbaseExt x y.ext,y.new⟩,y.ext.sub,y.ext.pre⟩
theorem zZLO {n : Nat} (hp : PassesOwn (model X.prog X.w) X.A X.env X.xe) (hc : TOk B X pc (tv fc)) (ha : BOk B X sts f) : POk B X (.While pc sts [] pos) (fun e W=>whileL fc f n e W):=by
 obtain ⟨tc,hc,kc⟩:=hc
 obtain ⟨ta,ha,ka⟩:=ha
 refine ⟨_,ps_while hp hc ha,fun xo F0 eta0 H0 W0 e W sg H F eta De o y k => ?_⟩
 refine ⟨fun m sg H => ∃ (e : Env) (W : Wd) (F : Hp) (eta : List Addr),Fr0 B xo F0 eta0 H0 e W sg H F eta ∧ (whileL fc f m e W).wp B.xq (FlowP B xo F0 eta0 H0 De),⟨n,e,W,F,eta,y,k⟩, ?_⟩
 rintro m sg H ⟨e,W,F,eta,y,k⟩
 cases m with
 | zero=>exact k.elim
 | succ m =>
  unfold whileL at k
  refine kc e W sg H F eta _ y.st ?_
  unfold tv
  rw [R.wp_bind] at k ⊢
  refine R.wp_mono k fun x W1 k => ?_
  rw [R.wp_bind] at k
  refine R.wp_mono k fun b W2 k H1 F1 eta1 o1 x1 => ?_
  have y1:=y.ext2 o x1 o1
  cases b with
  | false=>exact iteF (k sg H1 F1 eta1 y1)
  | true =>
   refine iteT ⟨fun sg' H' => ∃ (e : Env) (W : Wd) (F : Hp) (eta : List Addr),Fr0 B xo F0 eta0 H0 e W sg' H' F eta ∧ (whileL fc f m e W).wp B.xq (FlowP B xo F0 eta0 H0 De),fun sg' H' h=>⟨m,Nat.lt_succ_self m,h⟩, ?_⟩
   rw [if_pos rfl,R.wp_bind] at k
   refine ka xo F0 eta0 H0 W0 e W2 sg H1 F1 eta1 _ o y1 (R.wp_mono k fun fl W3 k => ?_)
   cases fl with
   | nx e3=>exact fun sg3 H3 F3 eta3 y3=>⟨e3,W3,F3,eta3,y3,k⟩
   | ct e3=>exact fun sg3 H3 F3 eta3 y3=>⟨e3,W3,F3,eta3,y3,k⟩
   | bk e3=>exact fun sg3 H3 F3 eta3 y3=>k sg3 H3 F3 eta3 y3
   | rt d=>exact k
theorem zZNu {t : Tg} {iter : Expr} {fi : Env → Wd → R (List D × Bool)} (hp : PassesOwn (model X.prog X.w) X.A X.env X.xe) (hc : X.calm = true) (hs : ∀ x,foldedSetIterable iter X.env x = pure x) (hi : ItOk B X tg iter fi) (hg : GOk B X tg (tgD t) (tgN t)) (ha : BOk B X sts f) :
  POk B X (.For tg iter sts [] pos) (fun e W=>(fi e W).bind fun ds W=>if ds.2 then .st else forL (tgD t) f ds.1 e W):=by
 obtain ⟨ti,hi,ki⟩:=hi
 obtain ⟨_,tg',hg,kg⟩:=hg
 obtain ⟨ta,ha,ka⟩:=ha
 refine ⟨_,ps_for hp hc hi hg ha hs,fun xo F0 eta0 H0 W0 e W sg H F eta De o y k => ?_⟩
 refine ki e W sg H F eta _ y.st ?_
 dsimp only at k
 rw [R.wp_bind] at k
 refine R.wp_mono k fun ds W1 k J H1 F1 eta1 o1 x1 it => ?_
 obtain ⟨ds,sl⟩:=ds
 dsimp only at k it
 cases sl with
 | true=>exact k.elim
 | false =>
  rw [if_neg (by decide)] at k
  have y1:=y.ext2 o x1 o1
  let Good : Nat → L2.St → Hp → Prop:=fun i sg H => ∃ (e : Env) (W : Wd) (F : Hp) (eta : List Addr),Fr0 B xo F0 eta0 H0 e W sg H F eta ∧ SubH F1 F ∧ eta1 <+: eta ∧ (forL (tgD t) f (ds.drop i) e W).wp B.xq (FlowP B xo F0 eta0 H0 De)
  refine ⟨fun i m sg H=>m = ds.length - i ∧ i ≤ ds.length ∧ Good i sg H,⟨ds.length,by simp,Nat.zero_le _,e,W1,F1,eta1,y1,SubH.refl _,List.prefix_refl _,by simpa using k⟩, ?_⟩
  rintro i m sg2 H2 ⟨rfl,hi,e2,W2,F2,eta2,y2,s2,p2,k2⟩
  have per : Per B e sg F1 eta1 false F2 eta2 H2:=⟨s2,p2,fun q=>by cases q⟩
  by_cases hlt : i < ds.length
  ·obtain ⟨go,yl⟩:=it.step i ds[i] F2 eta2 W2 H2 (by simp [hlt]) y2.st.ok per
   refine .inr ⟨go,Good (i + 1),fun sg' H' p'=>⟨ds.length - (i + 1),by omega,rfl,hlt,p'⟩,fun v H3 yy => ?_⟩
   obtain ⟨F3,o3,x3,r3⟩:=yl v H3 yy
   have y3:=y2.ext2 o x3 o3
   rw [List.drop_eq_getElem_cons hlt] at k2
   unfold forL at k2
   rw [R.wp_bind] at k2
   obtain ⟨e4,q4,k2⟩:=zZB k2
   refine kg ds[i] v e2 e4 W2 sg2 H3 F3 eta2 _ y3.st r3 q4 fun sg4 st4 w4 => ?_
   have y4:=y3.tgt st4 w4 (zZD8 q4)
   rw [R.wp_bind] at k2
   refine ka xo F1 eta1 H0 W1 e4 W2 sg4 H3 F3 eta2 _ trivial (y4.rebase y1.ext (s2.trans x3.sub) (p2.trans x3.pre)) (R.wp_mono k2 fun fl W5 k2 => ?_)
   cases fl with
   | nx e5=>exact fun sg5 H5 F5 eta5 y5=>let z:=y5.unbase y1.ext; ⟨e5,W5,F5,eta5,z.1,z.2.1,z.2.2,k2⟩
   | ct e5=>exact fun sg5 H5 F5 eta5 y5=>let z:=y5.unbase y1.ext; ⟨e5,W5,F5,eta5,z.1,z.2.1,z.2.2,k2⟩
   | bk e5=>exact fun sg5 H5 F5 eta5 y5=>k2 sg5 H5 F5 eta5 (y5.unbase y1.ext).1
   | rt d=>exact fun v H5 F5 eta5 o5 x5 r5=>k2 v H5 F5 eta5 o5 (unbaseExt y1.ext x5) r5
  ·have ei : i = ds.length:=by omega
   subst ei
   rw [List.drop_length] at k2
   unfold forL at k2
   exact .inl ⟨it.stop F2 eta2 W2 H2 y2.st.ok per,k2 sg2 H2 F2 eta2 y2⟩
/-- an own list or dict is frozen -/
def frzS (i : Nat) : Env → Wd → R Fl:=fun e W=>match e[i]? with | some (.ol xs)=>.ok (.nx (e.set i (.val (.lst xs)))) W | some (.od kvs)=>.ok (.nx (e.set i (.val (.dtt kvs)))) W | some (.val _)=>.ok (.nx e) W | _=>.st
theorem Fr0.freezeG (y : Fr0 B xo F0 eta0 H0 e W sg H F eta) {i : Nat} {z : Slot} {a : Addr} {u : HO} {d : D} (h : e[i]? = some z) (hz : z.owned = true) (q1 : sg[i]? = some (some (V.ref a))) (q2 : H a = some u) (q4 : F a = none) (q5 : a ∉ eta) (q6 : Rep B (upd F a u) eta d (.ref a)) : Fr0 B xo F0 eta0 H0 (e.set i (.val d)) W sg H (upd F a u) eta:=by
 have hi : i < e.length:=(List.getElem?_eq_some_iff.mp h).1
 have h0:=(y.new i _ a h hz q1).1
 have hx0:=(y.new i _ a h hz q1).2.2
 have s1 : SubH F (upd F a u):=zZ8 q4
 refine ⟨⟨y.st.ok.frz q2 q4 q5,by simp [y.st.len],fun j w hj => ?_,fun j k sj sk b g1 g2 o1 o2 r1 r2 => ?_,y.st.xr,y.st.xl,⟨y.st.xx.sub.trans s1,y.st.xx.pre,y.st.xx.keep,fun b hb => ?_,y.st.xx.newE⟩⟩,⟨y.ext.sub.trans s1,y.ext.pre,y.ext.keep,fun b hb => ?_,y.ext.newE⟩,fun j w b g1 g2 g3 => ?_⟩
 ·by_cases hij : i = j
  ·subst hij
   rw [List.getElem?_set_self hi] at hj
   cases hj
   exact ⟨_,q1,q6⟩
  ·rw [List.getElem?_set_ne hij] at hj
   have q:=y.st.sl j w hj
   have hne : ∀ b,w.owned = true → sg[j]? = some (some (V.ref b)) → b ≠ a:=fun b hw hb z=>by
    subst z
    exact hij (y.st.un i j _ _ b h hj hz hw q1 hb)
   cases w with
   | no=>trivial
   | val d=>obtain ⟨v,z1,z2⟩:=q; exact ⟨v,z1,z2.mono s1 (List.prefix_refl _)⟩
   | ol ys=>obtain ⟨b,ws,z1,z2,z3,z4,z5⟩:=q; exact ⟨b,ws,z1,z2,z3.mono s1 (List.prefix_refl _),by rw [upd_ne (hne b rfl z1)]; exact z4,z5⟩
   | oi c fs=>obtain ⟨b,dx,gs,z1,z2,z3,z4,z5⟩:=q; exact ⟨b,dx,gs,z1,z2,z3.mono s1 (List.prefix_refl _),by rw [upd_ne (hne b rfl z1)]; exact z4,z5⟩
   | od kvs=>obtain ⟨b,xs,ep,z1,z2,z3,z4,z5⟩:=q; exact ⟨b,xs,ep,z1,z2,z3.mono s1 (List.prefix_refl _),by rw [upd_ne (hne b rfl z1)]; exact z4,z5⟩
   | xv c p =>
    refine ⟨q.1,q.2.1, ?_⟩
    rcases q.2.2 with hh | ⟨x',v',dd,z1,z2,z3,z4,z5⟩
    ·exact .inl hh
    ·exact .inr ⟨x',v',dd,z1,z2,z3,z4.mono s1 (List.prefix_refl _),z5⟩
 ·have own : ∀ (j : Nat) (s : Slot),(e.set i (.val d))[j]? = some s → s.owned = true → e[j]? = some s:=fun j s g o=>by
   by_cases hj : i = j
   ·subst hj
    rw [List.getElem?_set_self hi] at g
    cases g
    cases o
   ·rw [List.getElem?_set_ne hj] at g; exact g
  exact y.st.un j k sj sk b (own j sj g1 o1) (own k sk g2 o2) o1 o2 r1 r2
 ·by_cases z : b = a
  ·subst z; exact .inr hx0
  ·rw [upd_ne z] at hb; exact y.st.xx.newF b hb
 ·by_cases z : b = a
  ·subst z; exact .inr h0
  ·rw [upd_ne z] at hb; exact y.ext.newF b hb
 ·by_cases hj : i = j
  ·subst hj
   rw [List.getElem?_set_self hi] at g1
   cases g1
   cases g2
  ·rw [List.getElem?_set_ne hj] at g1; exact y.new j w b g1 g2 g3
theorem Fr0.freeze (y : Fr0 B xo F0 eta0 H0 e W sg H F eta) {i : Nat} {xs : List D} (h : e[i]? = some (.ol xs)) : ∃ F',Fr0 B xo F0 eta0 H0 (e.set i (.val (.lst xs))) W sg H F' eta:=by
 obtain ⟨a,vs,q1,q2,q3,q4,q5⟩:=y.st.sl i _ h
 exact ⟨_,y.freezeG h rfl q1 q2 q4 q5 (.lst upd_same (q3.mono (zZ8 q4) (List.prefix_refl _)))⟩
theorem Fr0.freezeD (y : Fr0 B xo F0 eta0 H0 e W sg H F eta) {i : Nat} {kvs : List (List Int × D)} (h : e[i]? = some (.od kvs)) : ∃ F',Fr0 B xo F0 eta0 H0 (e.set i (.val (.dtt kvs))) W sg H F' eta:=by
 obtain ⟨a,xs,ep,q1,q2,q3,q4,q5⟩:=y.st.sl i _ h
 exact ⟨_,y.freezeG h rfl q1 q2 q4 q5 (.dtt upd_same (q3.mono (zZ8 q4) (List.prefix_refl _)))⟩
theorem zZJt (i : Nat) (k : BOk B X sts f) : BOk B X sts (fun e W=>(frzS i e W).bind fun fl W=>match fl with | .nx e=>f e W | fl=>.ok fl W):=by
 obtain ⟨t,h,k⟩:=k
 refine ⟨t,h,fun xo F0 eta0 H0 W0 e W sg H F eta De o y q => ?_⟩
 rw [R.wp_bind] at q
 unfold frzS at q
 split at q
 ·rename_i xs hs
  obtain ⟨F',y'⟩:=y.freeze hs
  exact k xo F0 eta0 H0 W0 _ W sg H F' eta De o y' q
 ·rename_i xs hs
  obtain ⟨F',y'⟩:=y.freezeD hs
  exact k xo F0 eta0 H0 W0 _ W sg H F' eta De o y' q
 ·exact k xo F0 eta0 H0 W0 _ W sg H F eta De o y q
 ·exact q.elim
end
end DL
set_option maxRecDepth 100000
set_option maxHeartbeats 4000000
namespace DL
open PySem PySem.Spec PyProof.Rows
open L2 hiding St
/-- a class whose instances are raised -/
structure RaiAt (K : PySem.W.Frag) (mg : Str → Option Value) (C : Addr) (x : Str) : Prop where
 nm : mg x = some (.ref C)
 kp : PySem.W.keepIn K (.ref C) = true
 ex : ∃ (Bs newId initId : String) (bmB : List Value),ExcBaseFacts Bs newId initId bmB ∧ PySem.W.excIn K C bmB newId = true
 s1 : PySem.W.subIn K (.ref C) (.type "BaseException") = some true
 s2 : PySem.W.typeIn K (.ref C) = some (.type "type")
/-- what the classes of exceptions say to each other -/
def XmOk (B : Tb0) (K : PySem.W.Frag) (g : Cfg) : Prop := ∀ k c b,g.xm k c = some b → PySem.W.exmOne K (.ref (B.ca k)) (.ref (B.ca c)) = some b
def XisOk (B : Tb0) (K : PySem.W.Frag) (g : Cfg) : Prop := ∀ k c b,g.xis k c = some b → L2.ExcC K (B.ca k) ∧ PySem.W.kitOne K (.ref (B.ca k)) (.ref (B.ca c)) = some b
/-- an except suite's context -/
def XHot (B : Tb) (X : Cx) : Prop := ∃ (X0 : Cx) (oe : Obj) (pn : List (Addr × Obj)),X = X0.suite B.xa ((B.xa,oe) :: pn) ∧ Zc (.ref (B.ca B.xc)) B.xd oe ∧ (∃ vs,oe.data = .fields vs) ∧ PySem.PXN.CtxN oe
section
variable {B : Tb} {X : Cx} {xo : Addr} {pa pb : Expr} {pos p p2 p3 : Pos} {e e' : Env} {sg sg' : L2.St} {F F' H H' F0 H0 : Hp} {eta eta' eta0 : List Addr} {W W' W0 : Wd} {st : Stmt} {sts : List Stmt} {f g : Env → Wd → R Fl}
/-- isinstance(e,ValueError) -/
def XivOk (B : Tb0) (K : PySem.W.Frag) (g : Cfg) : Prop := ∀ k b,g.xiv k = some b → L2.ExcC K (B.ca k) ∧ PySem.W.kitOne K (.ref (B.ca k)) (.type "ValueError") = some b
structure RaeAt (B : Tb0) (P : Program) (w : World) (K : PySem.W.Frag) (mg : Str → Option Value) (base : Heap) (c : Nat) (x : Str) : Prop where
 nm : mg x = some (.ref (B.ca c))
 T : OexC K (B.ca c)
 ex : ∃ (fI : Addr) (fd : FuncData) (ps : List Str),PySem.W.findIn K (.ref (B.ca c)) "__init__" = some (some (.ref fI)) ∧ PySem.W.typeIn K (.ref fI) = some (.type "function") ∧ FnOk P w K mg base (L2N.CX P w) 0 fI fd ps (spX (B.ca c) (B.fn (B.xf c))) ∧ Binds K fd ps []
/-- what the fields of exceptions are -/
def XfOk (B : Tb0) (K : PySem.W.Frag) (g : Cfg) : Prop := ∀ k f,g.xf k = some f → B.xf k = f ∧ XfC K (B.ca k) ∧ PySem.W.findIn K (.ref (B.ca k)) (B.fn f) = some none
end
end DL
set_option maxRecDepth 100000
set_option maxHeartbeats 4000000
namespace DL
open PySem PySem.Spec PyProof.Rows
open L2 hiding St
def kept (n : Nat) (w : List Nat) : List Nat:=(List.range n).filter fun i => !w.contains i
section
variable {B : Tb} {X : Cx} {xo : Addr} {pos np pos' : Pos} {e e' : Env} {sg sg' : L2.St} {F F' H H' F0 H0 : Hp} {eta eta' eta0 : List Addr} {W W' W0 : Wd} {body suite : List Stmt} {b0 : Stmt}
/-- slots that hold plain data stand for it at another base,too -/
theorem Fr0.plain {B2 : Tb} (y : Fr0 B xo F0 eta0 H0 e W sg H F eta) (hB : B2.toTb0 = B.toTb0) {e2 : Env} {sg2 : L2.St} {W2 : Wd} {H2 F2 : Hp} {eta2 : List Addr} (o2 : OkH B F2 eta2 W2 H2) (x2 : Ext F eta H F2 eta2 H2) (hl : e2.length = sg2.length)
  (hs : ∀ (j : Nat) (s : Slot),e2[j]? = some s → s = .no ∨ (∃ d,s = .val d ∧ e[j]? = some (.val d) ∧ sg2[j]? = sg[j]?) ∨ (∃ k p,s = .xv k p ∧ sg2[j]? = some (some (.ref B2.xa)) ∧ k = B2.xc ∧ XPay B2.toTb0 F2 eta2 H2 k p B2.xd)) (hr : ∀ i ∈ B2.xk,sg2[i]? = B2.xs[i]?) (hn : sg2.length = B2.xn) (hx : Ext B2.xF B2.xeta B2.xH F2 eta2 H2) : Fr0 B2 xo F0 eta0 H0 e2 W2 sg2 H2 F2 eta2:=by
 obtain ⟨T0,a1,a2,ad,a3,a4,a5,an,a6,a7,a8,a9⟩:=B2
 dsimp only at hB
 subst hB
 refine ⟨⟨o2,hl,fun j s h => ?_,fun j k sj sk a h1 h2 q1 q2 => ?_,hr,hn,hx⟩,Ext.trans' (B:=B) trivial y.st.ok y.ext x2,fun j z a h1 h2 h3 => ?_⟩
 ·rcases hs j s h with rfl | ⟨d,rfl,h1,h2⟩ | ⟨k,p,rfl,h1,h2,h3⟩
  ·trivial
  ·obtain ⟨v,g1,g2⟩:=y.st.sl j _ h1
   exact ⟨v,by rw [h2]; exact g1,g2.mono x2.sub x2.pre⟩
  ·exact ⟨h1,h2,h3⟩
 ·rcases hs j sj h1 with rfl | ⟨d,rfl,_⟩ | ⟨k,p,rfl,_⟩ <;> cases q1
 ·rcases hs j z h1 with rfl | ⟨d,rfl,_⟩ | ⟨k,p,rfl,_⟩ <;> cases h2
end
end DL
set_option maxRecDepth 100000
set_option maxHeartbeats 4000000
namespace DL
open PySem PySem.Spec PyProof.Rows
open L2 hiding St
section
variable {B : Tb} {X : Cx} {py pa pb pc : Expr} {pos p : Pos} {fa fb fc : Env → Wd → R D} {fs fs2 : Env → Wd → R Src} {e : Env} {sg : L2.St} {F F' H H' : Hp} {eta eta' : List Addr} {W W' : Wd}
theorem zZM8 {d : D} {v : V} {t : Ty} {b : Bool} (o : OkH B F eta W H) (r : Rep B F eta d v) (h : tyW W d t = some b) (K : PySem.W.Frag) : ∃ u,TyX K H v u ∧ PySem.W.kitOne K u (.type (tyNm t)) = some b:=by
 cases r with
 | own h1 =>
  unfold tyW at h
  dsimp only at h
  split at h
  ·rename_i n a xs hw
   obtain ⟨vs,e,_⟩:=o.cell _ _ _ h1 hw
   obtain ⟨_,_,_,_,k5,_⟩:=kits t
   refine ⟨_,.base (.lst e),kit_ty ((k5 xs).trans ?_)⟩
   cases t <;> simpa [tyD] using h
  ·cases h
 | non=>exact xZs o .non h K
 | bl b=>exact xZs o (.bl b) h K
 | int i=>exact xZs o (.int i) h K
 | str z=>exact xZs o (.str z) h K
 | tup h1 r1=>exact xZs o (.tup h1 r1) h K
 | lst h1 r1=>exact xZs o (.lst h1 r1) h K
 | ins _ _=>simp [tyW,tyD] at h
 | ext _=>simp [tyW,tyD] at h
 | tupz _ _=>simp [tyW,tyD] at h
 | dct _ _=>simp [tyW,tyD] at h
 | dtt _ _=>simp [tyW,tyD] at h
theorem zZNO (t : Ty) {q2 : Pos} (hg : Gl X "isinstance") (hm : X.mg "isinstance" = none) (hg2 : Gl X (tyNm t)) (hm2 : X.mg (tyNm t) = none) (hn : notStar pa = true) (ha : EOk B X pa fa) :
  EOk B X (.Call (.Name "isinstance" p) [pa,.Name (tyNm t) q2] [] pos) (fun e W=>(fa e W).bind fun x W=>opt ((tyW W x t).map .bl) W):=by
 obtain ⟨ta,ha,ka⟩:=ha
 have hx : PE X (.Name (tyNm t) q2) (tC (.ty (tyNm t))):=pe_bltn hg2 hm2 (zZJB t) rfl (by cases t <;> decide +kernel) (by cases t <;> decide +kernel)
 refine ⟨_,pe_callB call_isi hg hm PyProof.Rows.boot_isinstance (pa_cons ha (pa_cons hx pa_nil (star1 rfl _ _)) (star1 hn _ _)) (by decide) (by decide) (star1 hn _ _) rfl,fun e W sg H F eta Q s k => ?_⟩
 refine ka e W sg H F eta _ s ?_
 rw [R.wp_bind] at k
 refine R.wp_mono k fun x W1 k v H1 F1 eta1 o1 x1 r1 => ?_
 obtain ⟨z,q,k⟩:=zZB k
 simp only [Option.map_eq_some_iff] at q
 obtain ⟨b,q,rfl⟩:=q
 obtain ⟨u,h1,h2⟩:=zZM8 o1 r1 q X.K
 exact ⟨v,.ty (tyNm t),u,.type (tyNm t),b,rfl,.ty _,h1,h2,k _ H1 F1 eta1 o1 x1 (.bl _)⟩
def rInDG (K : PySem.W.Frag) (neg : Bool) : R2:=fun x y H Q => ∃ d ds,Dp K H x d ∧ (Dp K H y (.list ds) ∨ Dp K H y (.tuple ds)) ∧ SeqAt.shaped d = true ∧ SeqAt.shaped (.list ds) = true ∧ Q (.bl (if neg then !(ds.any fun z=>PyData.eqv z d) else (ds.any fun z=>PyData.eqv z d))) H
def inOp (neg : Bool) : CmpOp:=if neg then .NotIn else .In
theorem zZJP (neg : Bool) (hu : X.A.units + 65 < cLine) : OpR X (compareOp (inOp neg)) (rInDG X.K neg):=by
 intro pins s σ H x y v u Q I rx ry h
 obtain ⟨d,ds,hd,he,sd,se,q⟩:=h
 obtain ⟨as,r1⟩:=Dp.reads I d x v hd rx
 rcases he with he | he
 ·obtain ⟨bs,r2⟩:=Dp.reads I (.list ds) y u he ry
  cases neg
  ·exact SeqAt.in_list_reads r2 r1 (SeqAt.canLay_of_shaped se) (SeqAt.canLay_of_shaped sd) (room_in_shaped sd hu) ⟨.bl _,H,I,rfl,q⟩
  ·exact SeqAt.notIn_list_reads r2 r1 (SeqAt.canLay_of_shaped se) (SeqAt.canLay_of_shaped sd) (room_in_shaped sd hu) ⟨.bl _,H,I,rfl,q⟩
 ·obtain ⟨bs,r2⟩:=Dp.reads I (.tuple ds) y u he ry
  cases neg
  ·exact SeqAt.in_tuple_reads r2 r1 (SeqAt.canLay_of_shaped se) (SeqAt.canLay_of_shaped sd) (room_in_shaped sd hu) ⟨.bl _,H,I,rfl,q⟩
  ·exact SeqAt.notIn_tuple_reads r2 r1 (SeqAt.canLay_of_shaped se) (SeqAt.canLay_of_shaped sd) (room_in_shaped sd hu) ⟨.bl _,H,I,rfl,q⟩
theorem zZIa {neg : Bool} {x z : D} {s : Src} {v u : V} {Q : VK} (st : Stt B e W sg H F eta) (r1 : Rep B F eta x v) (r2 : SrcRep B e sg F eta s u) (q : indG neg W x s = some z)
  (k : ∀ (w : V) (H' F' : Hp) (eta' : List Addr),OkH B F' eta' W H' → Ext F eta H F' eta' H' → Rep B F' eta' z w → Q w H') (K : PySem.W.Frag) : rInDG K neg v u H Q:=by
 unfold indG at q
 split at q
 ·cases q
 ·rename_i hs
  simp only [Bool.not_eq_true] at hs
  simp only [Option.bind_eq_some_iff,Option.map_eq_some_iff] at q
  obtain ⟨xs,hi,b,q,rfl⟩:=q
  unfold indD at q
  simp only [Option.bind_eq_some_iff,Option.map_eq_some_iff] at q
  obtain ⟨d,hd,ds,hds,rfl⟩:=q
  have p1:=r1.dp (K:=K) st.ok.sub 60 d hd
  have hl : pd 60 (.lst xs) = some (.list ds):=by simp [pd,hds]
  have s1:=yZW hd
  have s2:=yZW hl
  cases ht : s.isTup with
  | false =>
   obtain ⟨a,vs,rfl,rl,hh⟩:=r2.lst st hi hs ht
   have p2:=rl.dp (K:=K) st.ok.sub 59 ds hds
   exact ⟨d,ds,p1,.inl (.lst (SqL.of hh) p2),s1,s2,k _ H F eta st.ok (Ext.refl _ _ _) (.bl _)⟩
  | true =>
   cases s with
   | frz ys y =>
    obtain ⟨rr,hy⟩:=r2
    rcases hy with rfl | rfl
    ·cases ht
    ·have hxs : ys = xs:=by simpa [items] using hi
     subst hxs
     cases rr with
     | tup hT rl =>
      have p2:=rl.dp (K:=K) st.ok.sub 59 ds hds
      exact ⟨d,ds,p1,.inr (.tup (hT.mono st.ok.sub).sq p2),s1,s2,k _ H F eta st.ok (Ext.refl _ _ _) (.bl _)⟩
   | _=>cases ht
theorem zZNv (neg : Bool) (hu : X.A.units + 65 < cLine) (hm : behindInMarks (inOp neg) pb = false) (ha : EOk B X pa fa) (hb : SOk B X pb fs) :
  EOk B X (.Compare pa [inOp neg] [pb] pos) (fun e W=>(fa e W).bind fun x W=>(fs e W).bind fun s W=>opt (indG neg W x s) W) :=
 zZEX ha hb (fun _ _ h1 h2=>pe_cmpR (zZJP neg hu) h1 h2 hm) (fun _ _ _ _ _ h=>h) fun e sg x s v u H F eta W Q z st r1 r2 q k=>zZIa st r1 r2 q k _
theorem zZNG (neg : Bool) (hu : X.A.units + 65 < cLine) (hm : behindInMarks (inOp neg) pb = false) (ha : EOk B X pa fa) (hb : SOk B X pb fs) :
  TOk B X (.Compare pa [inOp neg] [pb] pos) (tv (fun e W=>(fa e W).bind fun x W=>(fs e W).bind fun s W=>opt (indG neg W x s) W)):=by
 obtain ⟨ta,ha,ka⟩:=ha
 obtain ⟨tb,hb,kb⟩:=hb
 refine ⟨_,pt_cmpR (zZJP neg hu) ha hb hm,fun e W sg H F eta Q s k => ?_⟩
 refine ka e W sg H F eta _ s ?_
 unfold tv at k
 rw [R.bind_assoc,R.wp_bind] at k
 refine R.wp_mono k fun x W1 k v H1 F1 eta1 o1 x1 r1 => ?_
 rw [R.bind_assoc,R.wp_bind] at k
 refine kb e W1 sg H1 F1 eta1 _ (s.ext x1 o1) (R.wp_mono k fun y W2 k u H2 F2 eta2 o2 x2 r2 => ?_)
 rw [R.wp_bind] at k
 obtain ⟨z,q,k⟩:=zZB k
 refine zZIa (s.ext (Ext.trans s.ok o1 x1 x2) o2) (r1.mono x2.sub x2.pre) r2 q (fun w H' F' eta' o' x' rw' => ?_) _
 have hz : ∃ b,z = .bl b:=by
  unfold indG at q
  split at q
  ·cases q
  ·simp only [Option.bind_eq_some_iff,Option.map_eq_some_iff] at q
   obtain ⟨_,_,b,_,rfl⟩:=q
   exact ⟨_,rfl⟩
 obtain ⟨b,rfl⟩:=hz
 cases rw'
 exact ⟨b,rfl,k H' F' eta' o' (Ext.trans s.ok o1 x1 (Ext.trans o1 o2 x2 x'))⟩
theorem zZL9 {kvs : List (D × D)} {gs : List (Key × V)} (r : RepK B F eta kvs gs) (k : Key) : (kvs.any fun p=>decide (keyD p.1 = some k)) = gs.any fun p=>decide (p.1 = k):=by
 induction kvs generalizing gs with
 | nil=>cases r; rfl
 | cons p ps ih =>
  cases r with
  | cons hk h t =>
   rw [List.any_cons,List.any_cons,ih t]
   simp only [hk,Option.some.injEq]
theorem zZLh {kvs : List (D × D)} {gs : List (Key × V)} {k : Key} {d : D} {v : V} (rd : Rep B F eta d v) (r : RepK B F eta kvs gs) :
  RepK B F eta (kvs.map fun p=>if keyD p.1 = some k then (p.1,d) else p) (gs.map fun p=>if p.1 = k then (p.1,v) else p):=by
 induction kvs generalizing gs with
 | nil=>cases r; exact .nil
 | cons p ps ih =>
  cases r with
  | cons hk h t =>
   rw [List.map_cons,List.map_cons]
   simp only [hk,Option.some.injEq]
   split
   ·exact .cons hk rd (ih t)
   ·exact .cons hk h (ih t)
theorem zZJ8 {kvs : List (D × D)} {gs : List (Key × V)} {y d : D} {k : Key} {v : V} (hk : keyD y = some k) (rd : Rep B F eta d v) (r : RepK B F eta kvs gs) : RepK B F eta (kvs ++ [(y,d)]) (gs ++ [(k,v)]):=by
 induction kvs generalizing gs with
 | nil=>cases r; exact .cons hk rd .nil
 | cons p ps ih=>cases r with | cons hk h t=>exact .cons hk h (ih t)
theorem zZLW {kvs : List (D × D)} {gs : List (Key × V)} {y d : D} {k : Key} {v : V} (hk : keyD y = some k) (rd : Rep B F eta d v) (r : RepK B F eta kvs gs) : RepK B F eta (putKD k y d kvs) (putK gs k v):=by
 unfold putKD putK
 rw [zZL9 r k]
 split
 ·exact zZLh rd r
 ·exact zZJ8 hk rd r
theorem zZLk {kvs : List (D × D)} {gs : List (Key × V)} (r : RepK B F eta kvs gs) : kvs.length = gs.length:=by
 induction kvs generalizing gs with
 | nil=>cases r; rfl
 | cons p ps ih=>cases r with | cons hk h t=>simp [ih t]
theorem zZMF {kvs : List (D × D)} {gs : List (Key × V)} (r : RepK B F eta kvs gs) (k : Key) : (∃ d v,lookK k kvs = some d ∧ valV gs k = some v ∧ Rep B F eta d v) ∨ (lookK k kvs = none ∧ valV gs k = none):=by
 induction kvs generalizing gs with
 | nil=>cases r; exact .inr ⟨rfl,rfl⟩
 | cons p ps ih =>
  cases r with
  | @cons d x k' v ds vs hk h t =>
   by_cases e : k' = k
   ·left
    refine ⟨x,v, ?_, ?_,h⟩
    ·simp [lookK,List.find?_cons,hk,e]
    ·exact valV_pos e
   ·have e1 : lookK k ((d,x) :: ps) = lookK k ps:=by simp [lookK,List.find?_cons,hk,e]
    rw [e1,valV_neg (p:=(k',v)) e]
    exact ih t
theorem zZMf {y : D} {u : V} {k : Ky} (r : Rep B F eta y u) (h : keyD y = some k) : u = kV k:=by
 cases r <;> simp [keyD] at h <;> subst h <;> rfl
theorem zZGu {x : D} {v : V} {n : Nat} {kvs : List (D × D)} (o : OkH B F eta W H) (r : Rep B F eta x v) (h : dctOf x W = some (n,kvs)) : ∃ a gs,v = .ref a ∧ eta[n]? = some a ∧ H a = some (.dK gs) ∧ RepK B F eta kvs gs:=by
 cases r with
 | own h1 =>
  unfold dctOf at h
  dsimp only at h
  split at h
  ·rename_i hw
   cases h
   obtain ⟨gs,e,r⟩:=o.cell _ _ _ h1 hw
   exact ⟨_,gs,rfl,h1,e,r⟩
  ·cases h
 | _=>simp [dctOf] at h
def dgcF (fa fb : Env → Wd → R D) : Env → Wd → R D:=fun e W=>(fa e W).bind fun x W=>(fb e W).bind fun y W=>dgcR x y W
theorem zZN3 (hu : X.A.units + 1 < cLine) (hx : PlainIx pb) (ha : EOk B X pa fa) (hb : EOk B X pb fb) : EOk B X (.Subscript pa pb pos) (dgcF fa fb):=by
 obtain ⟨ta,ha,ka⟩:=ha
 obtain ⟨tb,hb,kb⟩:=hb
 refine ⟨_,pe_dget hu ha hb hx,fun e W sg H F eta Q s k => ?_⟩
 refine ka e W sg H F eta _ s ?_
 unfold dgcF at k
 rw [R.wp_bind] at k
 refine R.wp_mono k fun x W1 k v H1 F1 eta1 o1 x1 r1 => ?_
 rw [R.wp_bind] at k
 refine kb e W1 sg H1 F1 eta1 _ (s.ext x1 o1) (R.wp_mono k fun y W2 k u H2 F2 eta2 o2 x2 r2 => ?_)
 unfold dgcR at k
 obtain ⟨z,q,k⟩:=zZB k
 simp only [Option.bind_eq_some_iff] at q
 obtain ⟨⟨n,kvs⟩,h1,ky,h2,h5⟩:=q
 obtain ⟨a,gs,rfl,h3,h4,r3⟩:=zZGu o2 (r1.mono x2.sub x2.pre) h1
 rw [zZMf r2 h2]
 rcases zZMF r3 ky with ⟨d,v,e1,e2,r4⟩ | ⟨e1,e2⟩
 ·rw [e1] at h5
  cases h5
  refine ⟨a,v,rfl, ?_,k _ H2 F2 eta2 o2 (Ext.trans s.ok o1 x1 x2) r4⟩
  rw [← e2]
  exact DGet.k h4
 ·rw [e1] at h5; cases h5
/-- {"k": v,..} -/
def DOk (B : Tb) (X : Cx) (pos : Pos) (keys : List (Option Expr)) (vals : List Expr) (ks : List Str) (f : Env → Wd → R (List D)) : Prop := ∃ trs,PPs X pos keys vals trs ∧ ∀ (e : Env) (W : Wd) (sg : L2.St) (H F : Hp) (eta : List Addr) (Q : List (V × V) → Hp → Prop),Stt B e W sg H F eta →
 (f e W).wp B.xq (fun ds W' => ∀ (vs : List V) (H' F' : Hp) (eta' : List Addr),OkH B F' eta' W' H' → Ext F eta H F' eta' H' → RepL B F' eta' ds vs → ds.length = ks.length → Q ((ks.map V.str).zip vs) H') → tPairs trs sg H Q
theorem zZNj : DOk B X pos [] [] [] (fun _ W=>.ok [] W):=⟨_,pps_nil,fun e W sg H F eta Q s k=>k [] H F eta s.ok (Ext.refl _ _ _) .nil rfl⟩
theorem zZMM {keys : List (Option Expr)} {vals : List Expr} {k0 : Str} {j : Nat} {kp : Pos} {ks : List Str} {fr : Env → Wd → R (List D)} (ha : EOk B X pa fa) (hr : DOk B X pos keys vals ks fr) :
  DOk B X pos (some (.Constant (.str k0) j kp) :: keys) (pa :: vals) (k0 :: ks) (fun e W=>(fa e W).bind fun x W=>(fr e W).bind fun xs W=>.ok (x :: xs) W):=by
 obtain ⟨ta,ha,ka⟩:=ha
 obtain ⟨tr,hr,kr⟩:=hr
 refine ⟨_,pps_cons pe_str ha hr,fun e W sg H F eta Q s k => ?_⟩
 show ta sg H _
 refine ka e W sg H F eta _ s ?_
 rw [R.wp_bind] at k
 refine R.wp_mono k fun x W1 k v H1 F1 eta1 o1 x1 r1 => ?_
 rw [R.wp_bind] at k
 refine kr e W1 sg H1 F1 eta1 _ (s.ext x1 o1) (R.wp_mono k fun xs W2 k vs H2 F2 eta2 o2 x2 r2 hl => ?_)
 exact k (v :: vs) H2 F2 eta2 o2 (Ext.trans s.ok o1 x1 x2) (.cons (r1.mono x2.sub x2.pre) r2) (by simp [hl])
theorem zZGo : ∀ (more kvs : List (Key × V)),((kvs ++ more).map (·.1)).Nodup → mergeK kvs more = kvs ++ more
 | [],kvs,_=>by simp [mergeK]
 | p :: r,kvs,h=>by
  have hn : valV kvs p.1 = none:=by
   cases q : valV kvs p.1 with
   | none=>rfl
   | some x =>
    have hi:=valV_in q
    rw [List.map_append,List.nodup_append] at h
    exact absurd rfl (h.2.2 _ hi _ (by simp))
  show mergeK (putK kvs p.1 p.2) r = _
  rw [putK_new p.2 hn,zZGo r _ (by simpa using h)]
  simp
def dspF (ks : List Str) (f : Env → Wd → R (List D)) : Env → Wd → R D:=fun e W=>(f e W).bind fun xs W=>dspR ks xs W
theorem zZLQ {xs : List D} {vs : List V} : ∀ {ks : List Str},RepL B F eta xs vs → RepK B F eta ((ks.map D.str).zip xs) ((ks.map Sum.inr).zip vs):=by
 intro ks
 induction ks generalizing xs vs with
 | nil=>intro _; exact .nil
 | cons k ks ih =>
  intro r
  cases r with
  | nil=>exact .nil
  | cons h t=>exact .cons rfl h (ih t)
theorem zZIx : ∀ {ks : List Str} (vs : List V),ks.Nodup → ((((ks.map Sum.inr).zip vs : List (Key × V))).map (·.1)).Nodup
 | [],vs,_=>by simp
 | k :: ks,[],_=>by simp
 | k :: ks,v :: vs,h=>by
  obtain ⟨h1,h2⟩:=List.nodup_cons.mp h
  rw [List.map_cons,List.zip_cons_cons,List.map_cons,List.nodup_cons]
  refine ⟨fun z => ?_,zZIx vs h2⟩
  obtain ⟨q,hq,e⟩:=List.mem_map.mp z
  have:=(List.of_mem_zip hq).1
  obtain ⟨k',hk',e2⟩:=List.mem_map.mp this
  rw [← e2] at e
  cases e
  exact h1 hk'
theorem zZJJ : ∀ (ks : List Str) (vs : List V),(ks.map V.str).zip vs = ((ks.map Sum.inr).zip vs : List (Key × V)).map fun kv=>(kV kv.1,kv.2)
 | [],_=>rfl
 | k :: ks,[]=>rfl
 | k :: ks,v :: vs=>by
  simp only [List.map_cons,List.zip_cons_cons]
  rw [zZJJ ks vs]
  rfl
theorem zZNh {keys : List (Option Expr)} {vals : List Expr} {ks : List Str} {f : Env → Wd → R (List D)} (h1 : keys.all (·.isSome) = true) (h2 : keys.length = vals.length) (h15 : keys.length ≤ 15) (h : DOk B X pos keys vals ks f) (h0 : keys = [] → vals = [] ∧ ks = [] ∧ ∀ e W,f e W = .ok [] W) : EOk B X (.Dict keys vals pos) (dspF ks f):=by
 by_cases hk : keys = []
 ·obtain ⟨rfl,rfl,hf⟩:=h0 hk
  subst hk
  refine ⟨_,pe_dnewK,fun e W sg H F eta Q s k a ha => ?_⟩
  unfold dspF at k
  rw [hf] at k
  have k : (dspR [] [] W).wp B.xq _:=k
  unfold dspR at k
  rw [if_pos ⟨⟨rfl,by decide⟩,List.nodup_nil⟩] at k
  have o1:=s.ok.new (u:=.dK []) ha
  have o2 : OkH B F (eta ++ [a]) (W ++ [.dct []]) (upd H a (.dK [])):=o1.toCell (s.ok.notF ha) (s.ok.notE ha) ⟨[],upd_same,.nil⟩
  refine k (.ref a) _ F (eta ++ [a]) o2 ⟨SubH.refl _,List.prefix_append _ _,fun b o hb _=>by rw [upd_ne (ne_of_none hb ha)]; exact hb,fun _ h=>.inl h,fun b hb => ?_⟩ (.own ?_)
  ·rcases List.mem_append.mp hb with hb | hb
   ·exact .inl hb
   ·rw [List.mem_singleton.mp hb]; exact .inr ha
  ·rw [← s.ok.len]; simp
 ·obtain ⟨trs,hp,kp⟩:=h
  refine ⟨_,pe_disp hp h1 h2 hk h15,fun e W sg H F eta Q s k a ha => ?_⟩
  unfold dspF at k
  rw [R.wp_bind] at k
  have o1:=s.ok.new (u:=.dK []) ha
  have s1 : Stt B e W sg (upd H a (.dK [])) F eta:=s.ext (Ext.new ha) o1
  refine kp e W sg _ F eta _ s1 (R.wp_mono k fun xs W2 k vs H2 F2 eta2 o2 x2 r2 hl => ?_)
  have hE : a ∉ eta:=s.ok.notE ha
  have hH2 : H2 a = some (.dK []):=x2.keep a _ upd_same hE
  have hF2 : F2 a = none:=by
   cases q : F2 a with
   | none=>rfl
   | some u =>
    rcases x2.newF a (by rw [q]; simp) with z | z
    ·exact absurd (s.ok.notF ha) z
    ·rw [upd_same] at z; cases z
  have hE2 : a ∉ eta2:=fun z=>by
   rcases x2.newE a z with q | q
   ·exact hE q
   ·rw [upd_same] at q; cases q
  unfold dspR at k
  split at k
  ·rename_i hh
   obtain ⟨⟨c1,c2⟩,c3⟩:=hh
   refine ⟨hH2,(ks.map Sum.inr).zip vs,zZJJ ks vs, ?_, ?_⟩
   ·rw [List.length_zip,List.length_map]
    omega
   ·have em : mergeK [] ((ks.map Sum.inr).zip vs) = (ks.map Sum.inr).zip vs:=zZGo _ [] (by simpa using zZIx vs c3)
    rw [em]
    have o3 : OkH B F2 eta2 W2 (upd H2 a (.dK ((ks.map Sum.inr).zip vs))):=o2.writeO hF2 hE2
    have o4 : OkH B F2 (eta2 ++ [a]) (W2 ++ [.dct ((ks.map D.str).zip xs)]) (upd H2 a (.dK ((ks.map Sum.inr).zip vs))):=o3.toCell hF2 hE2 ⟨_,upd_same,zZLQ (r2.mono (SubH.refl _) (List.prefix_append _ _))⟩
    have y2:=Ext.trans s.ok o1 (Ext.new ha) x2
    refine k (.ref a) _ F2 (eta2 ++ [a]) o4 ⟨y2.sub,y2.pre.trans (List.prefix_append _ _),fun b o hb hn => ?_,y2.newF,fun b hb => ?_⟩ (.own ?_)
    ·rw [upd_ne (ne_of_none hb ha)]
     exact y2.keep b o hb hn
    ·rcases List.mem_append.mp hb with hb | hb
     ·exact y2.newE b hb
     ·rw [List.mem_singleton.mp hb]; exact .inr ha
    ·rw [← o2.len]; simp
  ·exact k.elim
theorem zZG4 {x : D} {v : V} {n : Nat} {xs : List D} (o : OkH B F eta W H) (r : Rep B F eta x v) (h : cellL x W = some (n,xs)) : ∃ a vs,v = .ref a ∧ eta[n]? = some a ∧ H a = some (.lst vs) ∧ RepL B F eta xs vs ∧ W[n]? = some (.lst xs):=by
 cases r with
 | own h1 =>
  unfold cellL at h
  dsimp only at h
  split at h
  ·rename_i hw
   cases h
   obtain ⟨vs,e,r⟩:=o.cell _ _ _ h1 hw
   exact ⟨_,vs,rfl,h1,e,r,hw⟩
  ·cases h
 | _=>simp [cellL] at h
end
end DL
set_option maxRecDepth 100000
set_option maxHeartbeats 4000000
namespace DL
open PySem PySem.Spec PyProof.Rows
open L2 hiding St
theorem zZGy {M : Model} {A : Around} {E : Value → Shared → Prop} {s : Shared} {K : PySem.W.Frag} {x C : Addr} {ox : Obj} {od : Option Obj} {name : Str} {id : String} {args : List Value} {Q : Option Value → Shared → Prop} (X : K.In s.heap) (I : PySem.W.InstAt s.heap x ox C od) (hs : PySem.W.findIn K (.ref C) name = some (some (.builtin id)))
  (hb : ∀ self,bindSpecial (.builtin id) self = pure (.builtin id,[self])) (h : wpAny M A (call (.builtin id) (.ref x :: args)) (fun v=>Q (some v)) E s) : wpAny M A (callSpecialIfBound? (.ref x) name args) Q E s:=by
 simp only [callSpecialIfBound?,bindSpecialIfBound?]
 refine wpAny_holding (wpAny_bind (wpAny_bind (wpAny_bind (I.type.here ((PySem.W.looks_findIn X hs).here ?_)))))
 simp only [hb]
 refine wpAny_bind (wpAny_askSetting (wpAny_ite ?_))
 have fin : wpAny M A (call (.builtin id) ([.ref x] ++ args) >>= fun v=>pure (some v)) Q E s:=wpAny_bind (wpAny_mono h (fun v s' h'=>wpAny_pure h') fun _ _ h'=>h')
 split
 ·exact wpAny_bind (wpAny_pure (wpAny_pure (by exact fin)))
 ·exact wpAny_tryCatch (wpAny_bind (wpAny_pure (wpAny_pure (by exact fin))))
def rOwnNe (X : Cx) (k : Nat) : R2:=fun x y H Q => ∃ (a dx C : Addr) (fs : List (Str × V)) (b dy C' : Addr) (gs : List (Str × V)) (q : Addr) (sp : Sp),x = .ref a ∧ y = .ref b ∧ H a = some (.ins C dx fs) ∧ H b = some (.ins C' dy gs) ∧
 (PySem.W.findIn X.K (.ref C) "__ne__" = some (some (.builtin "object.__ne__")) ∧ PySem.W.mroIn X.K C (.type "object") = some true) ∧
 PySem.W.findIn X.K (.ref C) "__eq__" = some (some (.ref q)) ∧ PySem.W.isFn X.K (.ref q) = true ∧ PySem.W.notFirst X.K C (.ref C') = true ∧ FnR X.prog X.w X.K X.mg X.base (L2N.CX X.prog X.w) k q sp ∧ sp [x,y] H (fun z H' => ∃ b,z = .bl b ∧ Q (.bl (!b)) H') E0
theorem zZLU {X : Cx} {k : Nat} (hr : Room (k + 1) X.A) : OpR X (compareOp .NotEq) (rOwnNe X k):=by
 intro pins s σ H x y v u Q I rx ry h
 obtain ⟨a,dx,C,fs,b,dy,C',gs,q,sp,rfl,rfl,ha,hb,⟨hne,hmr⟩,hs,hf,hn,Fn,hq⟩:=h
 cases (show v = Value.ref a from rx)
 cases (show u = Value.ref b from ry)
 obtain ⟨mA,O,_⟩:=ins_get I.hok ha
 obtain ⟨mB,O',_⟩:=ins_get I.hok hb
 obtain ⟨od,J,_⟩:=O.look
 obtain ⟨od',J',_⟩:=O'.look
 obtain ⟨m,hF⟩:=I.fr
 have KX:=(I.ok.mod.kin).keeps hF.keep
 show wpAny (model X.prog X.w) X.A (richCompare .NotEq (.ref a) (.ref b)) (fun w s' => ∃ w' H',Inv X pins σ H' s' ∧ RelV w' w ∧ Q w' H') X.xe s
 have one : wpAny (model X.prog X.w) X.A (tryCompare (.ref a) "__ne__" (.ref b)) (fun r s' => ∃ v,r = some v ∧ ∃ w' H',Inv X pins σ H' s' ∧ RelV w' v ∧ Q w' H') X.xe s:=by
  unfold tryCompare
  refine wpAny_bind (zZGy KX J hne PySem.F.cmp_object.ne.bind (wpAny_call (codeAny_call_builtin PySem.F.cmp_object.ne.plain PySem.F.cmpEntry_ne (PySem.W.check_slot PySem.F.cmpKind_ne PySem.F.cmpSplit_ne (J.type.andThen (PySem.W.looks_mroIn KX hmr)) (PySem.F.cmpArgs_ne _ _) ?_))))
  have hu : X.A.in1.units < cLine:=(zZBp (j:=1) hr (by decide)).units0
  have run : ∀ {Q2 : Option Value → Shared → Prop} {E2 : Value → Shared → Prop},(∀ b s' H',Inv X pins σ H' s' → Q (.bl (!b)) H' → Q2 (some (.bool b)) s') → wpAny (model X.prog X.w) X.A.in1 (callSpecialIfBound? (.ref a) "__eq__" [.ref b]) Q2 E2 s:=by
   intro Q2 E2 h2
   refine PySem.W.ifBound_K KX J hs hf ?_
   refine wpAny_mono (wpAny_call (zZK3 (j:=1) (us:=[.ref a,.ref b]) (ws:=[.ref a,.ref b]) Fn hr (by decide) I (.cons rfl (.cons rfl .nil)) hq)) (fun w s' z => ?_) fun _ _ x=>x
   obtain ⟨z',H',I',rz,b',e1,q1⟩:=z
   subst e1
   cases (show w = Value.bool b' from rz)
   exact h2 b' s' H' I' q1
  unfold Builtin.«object.__ne__»
  repeat (first | with_reducible refine wpAny_cRoomFor hu ?_ | with_reducible refine run (fun b' s' H' I' q1 => ?_) | wp_step)
  exact ⟨_,rfl,.bl (!b'),H',I',rfl,q1⟩
 unfold richCompare
 simp only [oneThing_ref]
 refine wpAny_holding (wpAny_bind (wpAny_cRoomFor (zZBp (j:=0) hr (by decide)).units0 ?_))
 refine wpAny_bind (J.type.here (wpAny_bind (J'.type.here ?_)))
 split
 ·rename_i qq
  have e : PySem.W.subIn X.K (.ref C') (.ref C) = some false:=by
   rcases Bool.or_eq_true_iff.mp hn with e | e
   ·rw [beq_iff_eq.mp e] at qq; simp at qq
   ·exact beq_iff_eq.mp e
  refine wpAny_bind ((PySem.W.looks_subIn KX e).here ?_)
  simp only [Bool.false_eq_true,if_false]
  refine wpAny_bind (wpAny_mono one (fun r s' z => ?_) fun _ _ e=>e)
  obtain ⟨v,rfl,hq⟩:=z
  exact wpAny_pure hq
 ·refine wpAny_bind (wpAny_pure ?_)
  simp only [Bool.false_eq_true,if_false]
  refine wpAny_bind (wpAny_mono one (fun r s' z => ?_) fun _ _ e=>e)
  obtain ⟨v,rfl,hq⟩:=z
  exact wpAny_pure hq
def rNoneNe (X : Cx) (k : Nat) : R2:=fun x y H Q => ∃ (b dy C : Addr) (gs : List (Str × V)) (q : Addr) (sp : Sp),x = .non ∧ y = .ref b ∧ H b = some (.ins C dy gs) ∧
 (PySem.W.findIn X.K (.ref C) "__ne__" = some (some (.builtin "object.__ne__")) ∧ PySem.W.mroIn X.K C (.type "object") = some true) ∧
 PySem.W.findIn X.K (.ref C) "__eq__" = some (some (.ref q)) ∧ PySem.W.isFn X.K (.ref q) = true ∧ PySem.W.subIn X.K (.ref C) (.type "NoneType") = some false ∧ FnR X.prog X.w X.K X.mg X.base (L2N.CX X.prog X.w) k q sp ∧ sp [y,x] H (fun z H' => ∃ b,z = .bl b ∧ Q (.bl (!b)) H') E0
theorem zZKT {X : Cx} {k : Nat} (hr : Room (k + 1) X.A) : OpR X (compareOp .NotEq) (rNoneNe X k):=by
 intro pins s σ H x y v u Q I rx ry h
 obtain ⟨b,dy,C,gs,q,sp,rfl,rfl,hb,⟨hne,hmr⟩,hs,hf,hn,Fn,hq⟩:=h
 cases (show v = Value.none from rx)
 cases (show u = Value.ref b from ry)
 obtain ⟨mB,O',_⟩:=ins_get I.hok hb
 obtain ⟨od',J',_⟩:=O'.look
 obtain ⟨m,hF⟩:=I.fr
 have KX:=(I.ok.mod.kin).keeps hF.keep
 show wpAny (model X.prog X.w) X.A (richCompare .NotEq .none (.ref b)) (fun w s' => ∃ w' H',Inv X pins σ H' s' ∧ RelV w' w ∧ Q w' H') X.xe s
 have two : wpAny (model X.prog X.w) X.A (tryCompare .none "__ne__" (.ref b)) (fun r s'=>r = none ∧ s' = s) X.xe s :=
  wpAny_tryCompare_declines (show s.TypeIs .none "NoneType" from rfl) PySem.F.slot_NoneType_ne (call_gives PySem.F.slot_NoneType_ne rfl PySem.F.entry_NoneType_ne (PySem.F.args_NoneType_ne_2 _ _) (PySem.SeqAt.NoneType___ne___none_ref_0 b) ⟨rfl,rfl,rfl⟩)
 have one : wpAny (model X.prog X.w) X.A (tryCompare (.ref b) "__ne__" .none) (fun r s' => ∃ v,r = some v ∧ ∃ w' H',Inv X pins σ H' s' ∧ RelV w' v ∧ Q w' H') X.xe s:=by
  unfold tryCompare
  refine wpAny_bind (zZGy KX J' hne PySem.F.cmp_object.ne.bind (wpAny_call (codeAny_call_builtin PySem.F.cmp_object.ne.plain PySem.F.cmpEntry_ne (PySem.W.check_slot PySem.F.cmpKind_ne PySem.F.cmpSplit_ne (J'.type.andThen (PySem.W.looks_mroIn KX hmr)) (PySem.F.cmpArgs_ne _ _) ?_))))
  have hu : X.A.in1.units < cLine:=(zZBp (j:=1) hr (by decide)).units0
  have run : ∀ {Q2 : Option Value → Shared → Prop} {E2 : Value → Shared → Prop},(∀ b s' H',Inv X pins σ H' s' → Q (.bl (!b)) H' → Q2 (some (.bool b)) s') → wpAny (model X.prog X.w) X.A.in1 (callSpecialIfBound? (.ref b) "__eq__" [.none]) Q2 E2 s:=by
   intro Q2 E2 h2
   refine PySem.W.ifBound_K KX J' hs hf ?_
   refine wpAny_mono (wpAny_call (zZK3 (j:=1) (us:=[.ref b,.none]) (ws:=[.ref b,.non]) Fn hr (by decide) I (.cons rfl (.cons rfl .nil)) hq)) (fun w s' z => ?_) fun _ _ x=>x
   obtain ⟨z',H',I',rz,b',e1,q1⟩:=z
   subst e1
   cases (show w = Value.bool b' from rz)
   exact h2 b' s' H' I' q1
  unfold Builtin.«object.__ne__»
  repeat (first | with_reducible refine wpAny_cRoomFor hu ?_ | with_reducible refine run (fun b' s' H' I' q1 => ?_) | wp_step)
  exact ⟨_,rfl,.bl (!b'),H',I',rfl,q1⟩
 simp only [richCompare,cmpInfo,(show s.TypeIs .none "NoneType" from rfl).oneThing_none]
 refine wpAny_holding (wpAny_bind (wpAny_cRoomFor (zZBp (j:=0) hr (by decide)).units0 ?_))
 refine wpAny_bind (wpAny_typeOf (show s.TypeIs .none "NoneType" from rfl) (wpAny_bind (J'.type.here ?_)))
 split
 ·refine wpAny_bind ((PySem.W.looks_subIn KX hn).here ?_)
  simp only [Bool.false_eq_true,if_false,Bool.not_false,if_true]
  refine wpAny_bind (m:=tryCompare .none _ (.ref b)) (wpAny_mono two (fun r s1 z => ?_) fun _ _ e=>e)
  obtain ⟨z1,z2⟩:=z
  subst z1
  subst z2
  refine wpAny_bind (m:=tryCompare (.ref b) _ .none) (wpAny_mono one (fun r s2 z => ?_) fun _ _ e=>e)
  obtain ⟨v,rfl,hq⟩:=z
  exact wpAny_pure hq
 ·rename_i q
  exact absurd (by simp) q
def rNe (X : Cx) (k : Nat) : R2:=fun x y H Q=>rOwnNe X k x y H Q ∨ rNoneNe X k x y H Q
theorem op_ne {X : Cx} {k : Nat} (hr : Room (k + 1) X.A) : OpR X (compareOp .NotEq) (rNe X k):=by
 intro pins s σ H x y v u Q I rx ry h
 rcases h with h | h
 ·exact zZLU hr _ _ _ _ _ _ _ _ _ I rx ry h
 ·exact zZKT hr _ _ _ _ _ _ _ _ _ I rx ry h
/-- what is known for != -/
def NemOk (B : Tb0) (P : Program) (w : World) (K : PySem.W.Frag) (mg : Str → Option Value) (base : Heap) (k : Nat) (g : Cfg) : Prop :=
 ∀ c c' f,g.nem c c' = some f → ∃ a,(PySem.W.findIn K (.ref (B.ca c)) "__ne__" = some (some (.builtin "object.__ne__")) ∧ PySem.W.mroIn K (B.ca c) (.type "object") = some true ∧ PySem.W.subIn K (.ref (B.ca c)) (.type "NoneType") = some false) ∧
  PySem.W.findIn K (.ref (B.ca c)) "__eq__" = some (some (.ref a)) ∧ PySem.W.isFn K (.ref a) = true ∧ PySem.W.notFirst K (B.ca c) (.ref (B.ca c')) = true ∧ FnR P w K mg base (L2N.CX P w) k a (spC B (g.call f))
section
variable {B : Tb} {X : Cx} {xo : Addr} {tg py pa pb pc : Expr} {pos p : Pos} {fa fb fc : Env → Wd → R D} {e : Env} {sg : L2.St} {F F' H H' F0 H0 : Hp} {eta eta' eta0 : List Addr} {W W' W0 : Wd} {sts : List Stmt} {f : Env → Wd → R Fl}
def dputS (fx fa fb : Env → Wd → R D) : Env → Wd → R Fl:=fun e W=>(fx e W).bind fun d W=>(fa e W).bind fun s W=>(fb e W).bind fun y W =>
  (opt (dctOf s W) W).bind fun p W=>(opt (keyD y) W).bind fun k W=>if p.2.length < cap then .ok (.nx e) (W.set p.1 (.dct (putKD k y d p.2))) else .st
theorem zZLl {px : Expr} {p2 : Pos} {fx : Env → Wd → R D} (hu : X.A.units + 1 < cLine) (hx : EOk B X px fx) (ha : EOk B X pa fa) (hb : EOk B X pb fb) : POk B X (.Assign [.Subscript pa pb p2] px pos) (dputS fx fa fb):=by
 obtain ⟨tx,hx,kx⟩:=hx
 obtain ⟨ta,ha,ka⟩:=ha
 obtain ⟨tb,hb,kb⟩:=hb
 refine ⟨_,ps_dput hu ha hb hx (xZu (fun _ _ h=>by cases h) _ _),fun xo F0 eta0 H0 W0 e W sg H F eta De o y k => ?_⟩
 refine kx e W sg H F eta _ y.st ?_
 unfold dputS at k
 rw [R.wp_bind] at k
 refine R.wp_mono k fun d W1 k v H1 F1 eta1 o1 x1 r1 => ?_
 rw [R.wp_bind] at k
 have y1:=y.ext2 o x1 o1
 refine ka e W1 sg H1 F1 eta1 _ y1.st (R.wp_mono k fun s W2 k u H2 F2 eta2 o2 x2 r2 => ?_)
 rw [R.wp_bind] at k
 have y2:=y1.ext2 o x2 o2
 refine kb e W2 sg H2 F2 eta2 _ y2.st (R.wp_mono k fun i W3 k w H3 F3 eta3 o3 x3 r3 => ?_)
 have y3:=y2.ext2 o x3 o3
 rw [R.wp_bind] at k
 obtain ⟨⟨n,kvs⟩,h1,k⟩:=zZB k
 rw [R.wp_bind] at k
 obtain ⟨ky,h2,k⟩:=zZB k
 split at k
 ·rename_i hlt
  obtain ⟨a,gs,rfl,g1,g2,r4⟩:=zZGu o3 (r2.mono x3.sub x3.pre) h1
  rw [zZMf r3 h2]
  refine ⟨a,_,rfl,DPut.k (k:=ky) (v:=v) g2 (by rw [← zZLk r4]; exact Nat.lt_of_lt_of_le hlt zZc), ?_⟩
  exact k sg _ F3 eta3 (y3.cell g1 ⟨_,upd_same,zZLW h2 ((r1.mono x2.sub x2.pre).mono x3.sub x3.pre) r4⟩)
 ·exact k.elim
def PerC (B : Tb) (n : Nat) (a : Addr) (xs : List D) (F : Hp) (eta : List Addr) (H : Hp) : Prop:=eta[n]? = some a ∧ ∃ W,OkH B F eta W H ∧ W[n]? = some (.lst xs)
theorem srcC {n : Nat} {a : Addr} {xs : List D} (K : PySem.W.Frag) : ∀ (F' : Hp) (eta' : List Addr) (H' : Hp) (W' : Wd),OkH B F' eta' W' H' → PerC B n a xs F' eta' H' → ∃ vs,SqK .l K H' a vs ∧ RepL B F' eta' xs vs:=by
 rintro F' eta' H' W' o ⟨h1,W2,o2,h2⟩
 obtain ⟨vs,q1,q2⟩:=o2.cell n a _ h1 h2
 exact ⟨vs,SqL.of q1,q2⟩
theorem zZI2 {g : Cfg} {n : Nat} {xs : List D} {W : Wd} (h : ckL g n xs W = true) : W[n]? = some (.lst xs):=by
 unfold ckL at h
 simp only [Bool.and_eq_true,decide_eq_true_eq] at h
 obtain ⟨h1,h2⟩:=h
 have h3 : W.set n (.lst xs) = W:=h2
 rw [← h3]
 exact List.getElem?_set_self h1
theorem zZOg {g : Cfg} {n : Nat} {xs : List D} {W : Wd} (h : W[n]? = some (.lst xs)) : ckL g n xs W = true:=by
 unfold ckL
 obtain ⟨h1,h2⟩:=List.getElem?_eq_some_iff.mp h
 rw [Bool.and_eq_true]
 refine ⟨decide_eq_true h1,@decide_eq_true _ (g.dw _ _) ?_⟩
 rw [← h2]
 exact List.set_getElem_self h1
/-- what is walked -/
def ItcOk (B : Tb) (X : Cx) (tg py : Expr) (en : Bool) (fa : Env → Wd → R D) : Prop := ∃ t : TI,PI X tg py t ∧ ∀ (e : Env) (W : Wd) (sg : L2.St) (H F : Hp) (eta : List Addr) (Q : L2.It → Hp → Prop),Stt B e W sg H F eta →
 ((fa e W).bind fun d W=>opt (cellL d W) W).wp B.xq (fun p W' => ∀ (J : L2.It) (H' F' : Hp) (eta' : List Addr) (a : Addr),OkH B F' eta' W' H' → Ext F eta H F' eta' H' → eta'[p.1]? = some a → W'[p.1]? = some (.lst p.2) → IterOk B J (enC en p.2) (PerC B p.1 a p.2) → Q J H') → t sg H Q
theorem zZNJ (ha : EOk B X pa fa) : ItcOk B X tg pa false fa:=by
 obtain ⟨ta,ha,ka⟩:=ha
 refine ⟨_,zZI4 ha,fun e W sg H F eta Q s k => ?_⟩
 refine ka e W sg H F eta _ s ?_
 rw [R.wp_bind] at k
 refine R.wp_mono k fun x W1 k v H1 F1 eta1 o1 x1 r1 => ?_
 obtain ⟨⟨n,xs⟩,h1,k⟩:=zZB k
 obtain ⟨a,vs,rfl,g1,g2,rl,hw⟩:=zZG4 o1 r1 h1
 exact ⟨a,.l,rfl,⟨vs,SqL.of g2⟩,k _ H1 F1 eta1 a o1 x1 g1 hw (zZIH (srcC X.K))⟩
theorem zZLt {elts : List Expr} {kk : Nat} {tpos : Pos} (hg : Gl X "enumerate") (hm : X.mg "enumerate" = none) (hn : notStar pa = true) (ha : EOk B X pa fa) : ItcOk B X (.Tuple elts kk tpos) (.Call (.Name "enumerate" p) [pa] [] pos) true fa:=by
 obtain ⟨ta,ha,ka⟩:=ha
 refine ⟨_,zZIJ hg hm hn (pa_cons ha pa_nil (star1 hn _ _)),fun e W sg H F eta Q s k => ?_⟩
 refine ka e W sg H F eta _ s ?_
 rw [R.wp_bind] at k
 refine R.wp_mono k fun x W1 k v H1 F1 eta1 o1 x1 r1 => ?_
 obtain ⟨⟨n,xs⟩,h1,k⟩:=zZB k
 obtain ⟨a,vs,rfl,g1,g2,rl,hw⟩:=zZG4 o1 r1 h1
 exact ⟨a,.l,vs,rfl,SqL.of g2,k _ H1 F1 eta1 a o1 x1 g1 hw (zZG6 (srcC X.K))⟩
def forcS (g : Cfg) (t : Tg) (en : Bool) (fa : Env → Wd → R D) (f : Env → Wd → R Fl) : Env → Wd → R Fl:=fun e W=>(fa e W).bind fun d W=>(opt (cellL d W) W).bind fun p W=>forK (ckL g p.1 p.2) (tgD t) f (enC en p.2) e W
theorem zZLY {g : Cfg} {t : Tg} {en : Bool} {iter : Expr} (hp : PassesOwn (model X.prog X.w) X.A X.env X.xe) (hc : X.calm = true) (hs : ∀ x,foldedSetIterable iter X.env x = pure x) (hi : ItcOk B X tg iter en fa) (hg : GOk B X tg (tgD t) (tgN t)) (ha : BOk B X sts f) :
  POk B X (.For tg iter sts [] pos) (forcS g t en fa f):=by
 obtain ⟨ti,hi,ki⟩:=hi
 obtain ⟨_,tg',hg,kg⟩:=hg
 obtain ⟨ta,ha,ka⟩:=ha
 refine ⟨_,ps_for hp hc hi hg ha hs,fun xo F0 eta0 H0 W0 e W sg H F eta De o y k => ?_⟩
 refine ki e W sg H F eta _ y.st ?_
 unfold forcS at k
 rw [← R.bind_assoc,R.wp_bind] at k
 refine R.wp_mono k fun pp W1 k J H1 F1 eta1 a o1 x1 ga gw it => ?_
 obtain ⟨n,xs⟩:=pp
 dsimp only at k it ga gw
 generalize hds : enC en xs = ds at *
 have y1:=y.ext2 o x1 o1
 let Good : Nat → L2.St → Hp → Prop:=fun i sg H => ∃ (e : Env) (W : Wd) (F : Hp) (eta : List Addr),Fr0 B xo F0 eta0 H0 e W sg H F eta ∧ SubH F1 F ∧ eta1 <+: eta ∧ (forK (ckL g n xs) (tgD t) f (ds.drop i) e W).wp B.xq (FlowP B xo F0 eta0 H0 De)
 refine ⟨fun i m sg H=>m = ds.length - i ∧ i ≤ ds.length ∧ Good i sg H,⟨ds.length,by simp,Nat.zero_le _,e,W1,F1,eta1,y1,SubH.refl _,List.prefix_refl _,by simpa using k⟩, ?_⟩
 rintro i m sg2 H2 ⟨rfl,hi,e2,W2,F2,eta2,y2,s2,p2,k2⟩
 have hck : ckL g n xs W2 = true:=by
  unfold forK at k2
  cases hq : ds.drop i with
  | nil=>rw [hq] at k2; dsimp only at k2; split at k2 <;> first | assumption | exact k2.elim
  | cons _ _=>rw [hq] at k2; dsimp only at k2; split at k2 <;> first | assumption | exact k2.elim
 have per : PerC B n a xs F2 eta2 H2:=⟨zZEB p2 ga,W2,y2.st.ok,zZI2 hck⟩
 by_cases hlt : i < ds.length
 ·obtain ⟨go,yl⟩:=it.step i ds[i] F2 eta2 W2 H2 (by simp [hlt]) y2.st.ok per
  refine .inr ⟨go,Good (i + 1),fun sg' H' p'=>⟨ds.length - (i + 1),by omega,rfl,hlt,p'⟩,fun v H3 yy => ?_⟩
  obtain ⟨F3,o3,x3,r3⟩:=yl v H3 yy
  have y3:=y2.ext2 o x3 o3
  rw [List.drop_eq_getElem_cons hlt] at k2
  unfold forK at k2
  rw [if_pos hck,R.wp_bind] at k2
  obtain ⟨e4,q4,k2⟩:=zZB k2
  refine kg ds[i] v e2 e4 W2 sg2 H3 F3 eta2 _ y3.st r3 q4 fun sg4 st4 w4 => ?_
  have y4:=y3.tgt st4 w4 (zZD8 q4)
  rw [R.wp_bind] at k2
  refine ka xo F1 eta1 H0 W1 e4 W2 sg4 H3 F3 eta2 _ trivial (y4.rebase y1.ext (s2.trans x3.sub) (p2.trans x3.pre)) (R.wp_mono k2 fun fl W5 k2 => ?_)
  cases fl with
  | nx e5=>exact fun sg5 H5 F5 eta5 y5=>let z:=y5.unbase y1.ext; ⟨e5,W5,F5,eta5,z.1,z.2.1,z.2.2,k2⟩
  | ct e5=>exact fun sg5 H5 F5 eta5 y5=>let z:=y5.unbase y1.ext; ⟨e5,W5,F5,eta5,z.1,z.2.1,z.2.2,k2⟩
  | bk e5=>exact fun sg5 H5 F5 eta5 y5=>k2 sg5 H5 F5 eta5 (y5.unbase y1.ext).1
  | rt d=>exact fun v H5 F5 eta5 o5 x5 r5=>k2 v H5 F5 eta5 o5 (unbaseExt y1.ext x5) r5
 ·have ei : i = ds.length:=by omega
  subst ei
  rw [List.drop_length] at k2
  unfold forK at k2
  rw [if_pos hck] at k2
  exact .inl ⟨it.stop F2 eta2 W2 H2 y2.st.ok per,k2 sg2 H2 F2 eta2 y2⟩
theorem zZIh {elt : Env → Wd → R D} {tst : Env → Wd → R Bool} {tgf : D → Env → Option Env} {ns : List Nat} {J : L2.It} {ds : List D} {F1 H1 : Hp} {eta1 : List Addr} {W1 : Wd} {Dn : Addr} {Qd : Hp → Prop}
  (hxk : ∀ i ∈ ns,i ∉ B.xk) (st1 : Stt B e W1 sg H1 F1 eta1) {ck : Wd → Bool} {Pq : Hp → List Addr → Hp → Prop} (it : IterOk B J ds Pq) (hP : ∀ (W : Wd) (F : Hp) (eta : List Addr) (H : Hp),OkH B F eta W H → Ext F1 eta1 H1 F eta H → ck W = true → Pq F eta H) (hD : H1 Dn = none) (hz : ds.length ≤ cap)
  (k : (compKT ck (fun d=>tgf d (wipeE e ns)) (fun e W=>(tst e W).bind fun k W=>.ok (.bl k) W) elt ds W1).wp B.xq fun xs W' => ∀ (vs : List V) (H' F' : Hp) (eta' : List Addr),OkH B F' eta' W' H' → Ext F1 eta1 H1 F' eta' H' → H' Dn = some (.lst vs) → F' Dn = none → Dn ∉ eta' → RepL B F' eta' xs vs → Qd H') :
  ∃ W : Nat → Nat → Hp → Prop,(∃ m,W 0 m (upd H1 Dn (.lst []))) ∧ ∀ i m H,W i m H →
 (J.stop i H ∧ Qd H) ∨ (J.go i H ∧ ∃ Nx : Hp → Prop,(∀ H',Nx H' → ∃ m',m' < m ∧ W (i + 1) m' H') ∧ ∀ x H',J.yld i H x H' → canG B.mute tgf ns x (wipe sg ns) H' fun σ2 H2=>wipe σ2 ns = wipe sg ns ∧ canT B.mute tst σ2 H2 fun b H3 =>
  if b = true then canE B.mute elt σ2 H3 fun y H4 => ∃ acc,H4 Dn = some (.lst acc) ∧ acc.length < sizeLine ∧ Nx (upd H4 Dn (.lst (acc ++ [y]))) else Nx H3):=by
 let Good : Nat → Hp → Prop:=fun i H => ∃ (F : Hp) (eta : List Addr) (Wc : Wd) (acc : List V) (accD : List D),OkH B F eta Wc H ∧ Ext F1 eta1 H1 F eta H ∧ H Dn = some (.lst acc) ∧ F Dn = none ∧ Dn ∉ eta ∧ RepL B F eta accD acc ∧ accD.length ≤ i ∧
  (compKT ck (fun d=>tgf d (wipeE e ns)) (fun e W=>(tst e W).bind fun k W=>.ok (.bl k) W) elt (ds.drop i) Wc).wp B.xq fun xs W' => ∀ (vs : List V) (H' F' : Hp) (eta' : List Addr),OkH B F' eta' W' H' → Ext F1 eta1 H1 F' eta' H' → H' Dn = some (.lst vs) → F' Dn = none → Dn ∉ eta' → RepL B F' eta' (accD ++ xs) vs → Qd H'
 refine ⟨fun i m H=>m = ds.length - i ∧ i ≤ ds.length ∧ Good i H,⟨ds.length,by simp,Nat.zero_le _,F1,eta1,W1,[],[],st1.ok.new hD,Ext.new hD,upd_same,st1.ok.notF hD,st1.ok.notE hD,.nil,by simp, ?_⟩, ?_⟩
 ·simpa using k
 rintro i m H ⟨rfl,hi,F,eta,Wc,acc,accD,o,x,hDn,hF,hE,rl,hlen,kk⟩
 have hck : ck Wc = true:=by
  unfold compKT at kk
  cases hq : ds.drop i with
  | nil=>rw [hq] at kk; dsimp only at kk; split at kk <;> first | assumption | exact kk.elim
  | cons _ _=>rw [hq] at kk; dsimp only at kk; split at kk <;> first | assumption | exact kk.elim
 have per : Pq F eta H:=hP Wc F eta H o x hck
 by_cases hlt : i < ds.length
 ·obtain ⟨go,yl⟩:=it.step i ds[i] F eta Wc H (by simp [hlt]) o per
  refine .inr ⟨go,Good (i + 1),fun H' p'=>⟨ds.length - (i + 1),by omega,rfl,hlt,p'⟩,fun v H2 y => ?_⟩
  obtain ⟨F2,o2,x2,r2⟩:=yl v H2 y
  have y2:=Ext.trans st1.ok o x x2
  have st2:=(st1.ext y2 o2).wipe ns hxk
  rw [List.drop_eq_getElem_cons hlt] at kk
  unfold compKT at kk
  rw [if_pos hck,R.wp_bind] at kk
  obtain ⟨e2,q,kk⟩:=zZB kk
  have hD2 : H2 Dn = some (.lst acc):=x2.keep Dn _ hDn hE
  have hF2 : F2 Dn = none:=by
   cases q : F2 Dn with
   | none=>rfl
   | some u =>
    rcases x2.newF Dn (by rw [q]; simp) with z | z
    ·exact absurd hF z
    ·rw [hDn] at z; cases z
  refine ⟨ds[i],_,e2,Wc,F2,eta,st2.mute,r2,q,fun sg3 st3 w3=>⟨?_, ?_⟩⟩
  ·have:=w3 ns fun i h=>h
   rw [this]
   exact xZ1 sg ns ns fun i h=>h
  ·rw [R.wp_bind] at kk
   replace kk:=R.wp_calm (y:=B.mute.xq) kk
   rw [R.wp_bind] at kk
   refine ⟨e2,Wc,F2,eta,st3,R.wp_mono kk fun bb W4 kk H4 F4 eta4 o4 x4 => ?_⟩
   have y4:=Ext.trans st1.ok o2 y2 x4
   have hD4 : H4 Dn = some (.lst acc):=x4.keep Dn _ hD2 hE
   have hF4 : F4 Dn = none:=by
    cases q : F4 Dn with
    | none=>rfl
    | some u =>
     rcases x4.newF Dn (by rw [q]; simp) with z | z
     ·exact absurd hF2 z
     ·rw [hD2] at z; cases z
   have hE4 : Dn ∉ eta4:=fun z=>by
    rcases x4.newE Dn z with q | q
    ·exact hE q
    ·rw [hD2] at q; cases q
   simp only [R.wp_ok] at kk
   cases bb with
   | true =>
    refine iteT ?_
    simp only [] at kk
    rw [R.wp_bind] at kk
    replace kk:=R.wp_calm (y:=B.mute.xq) kk
    refine ⟨e2,W4,F4,eta4,st3.ext x4 o4,R.wp_mono kk fun d5 W5 kk w5 H5 F5 eta5 o5 x5 r5 => ?_⟩
    have y5:=Ext.trans st1.ok o4 y4 x5
    have hD5 : H5 Dn = some (.lst acc):=x5.keep Dn _ hD4 hE4
    have hF5 : F5 Dn = none:=by
     cases q : F5 Dn with
     | none=>rfl
     | some u =>
      rcases x5.newF Dn (by rw [q]; simp) with z | z
      ·exact absurd hF4 z
      ·rw [hD4] at z; cases z
    have hE5 : Dn ∉ eta5:=fun z=>by
     rcases x5.newE Dn z with q | q
     ·exact hE4 q
     ·rw [hD4] at q; cases q
    have hl : acc.length < sizeLine:=by rw [← rl.length]; exact Nat.lt_of_lt_of_le (Nat.lt_of_le_of_lt hlen (Nat.lt_of_lt_of_le hlt hz)) zZc
    refine ⟨acc,hD5,hl,F5,eta5,W5,acc ++ [w5],accD ++ [d5],o5.writeO hF5 hE5,⟨y5.sub,y5.pre,fun a u ha hn => ?_,y5.newF,y5.newE⟩,upd_same,hF5,hE5,((rl.mono ((x2.sub.trans x4.sub).trans x5.sub) (x4.pre.trans x5.pre)).append (.cons r5 .nil)),by simp; omega, ?_⟩
    ·have hne : a ≠ Dn:=ne_of_none ha hD
     rw [upd_ne hne]
     exact y5.keep a u ha hn
    ·rw [R.wp_bind] at kk
     refine R.wp_mono kk fun xs W6 kk vs H' F' eta' o' x' h1 h2 h3 h4 => ?_
     refine kk vs H' F' eta' o' x' h1 h2 h3 ?_
     simpa using h4
   | false =>
    refine iteF ?_
    simp only [] at kk
    exact ⟨F4,eta4,W4,acc,accD,o4,y4,hD4,hF4,hE4,rl.mono (x2.sub.trans x4.sub) x4.pre,by omega,kk⟩
 ·have ei : i = ds.length:=by omega
  subst ei
  rw [List.drop_length] at kk
  unfold compKT at kk
  rw [if_pos hck,R.wp_ok,List.append_nil] at kk
  exact .inl ⟨it.stop F eta Wc H o per,kk acc H F eta o x hDn hF hE rl⟩
def compCF (g : Cfg) (en : Bool) (elt : Env → Wd → R D) (tst : Env → Wd → R Bool) (tgf : D → Env → Option Env) (ns : List Nat) (fa : Env → Wd → R D) : Env → Wd → R (List D):=fun e W=>(fa e W).bind fun d W=>(opt (cellL d W) W).bind fun p W =>
 if (enC en p.2).length ≤ cap then compKT (ckL g p.1 p.2) (fun d=>tgf d (wipeE e ns)) (fun e W=>(tst e W).bind fun k W=>.ok (.bl k) W) elt (enC en p.2) W else .st
theorem zZFt {g : Cfg} {en : Bool} {elt : Env → Wd → R D} {tst : Env → Wd → R Bool} {tgf : D → Env → Option Env} {ns : List Nat} {wi : TI}
  (hxk : ∀ i ∈ ns,i ∉ B.xk) (ki : ∀ (e : Env) (W : Wd) (sg : L2.St) (H F : Hp) (eta : List Addr) (Q : L2.It → Hp → Prop),Stt B e W sg H F eta →
   ((fa e W).bind fun d W=>opt (cellL d W) W).wp B.xq (fun p W' => ∀ (J : L2.It) (H' F' : Hp) (eta' : List Addr) (a : Addr),OkH B F' eta' W' H' → Ext F eta H F' eta' H' → eta'[p.1]? = some a → W'[p.1]? = some (.lst p.2) → IterOk B J (enC en p.2) (PerC B p.1 a p.2) → Q J H') → wi sg H Q)
  (e : Env) (W : Wd) (sg : L2.St) (H F : Hp) (eta : List Addr) (Q : VK) (s : Stt B e W sg H F eta)
  (k : (compCF g en elt tst tgf ns fa e W).wp B.xq (fun ds W' => ∀ (a : Addr) (vs : List V) (H' F' : Hp) (eta' : List Addr),OkH B F' eta' W' H' → Ext F eta H F' eta' H' → H a = none → H' a = some (.lst vs) → F' a = none → a ∉ eta' → RepL B F' eta' ds vs → Q (.ref a) H')) :
  tLc wi (canG B.mute tgf ns) (canT B.mute tst) (canE B.mute elt) ns sg H Q:=by
 refine ki e W sg H F eta _ s ?_
 unfold compCF at k
 rw [← R.bind_assoc,R.wp_bind] at k
 refine R.wp_mono k fun pp W1 k J H1 F1 eta1 a o1 x1 ga gw it Dn hD => ?_
 obtain ⟨n,xs⟩:=pp
 dsimp only at k it ga gw
 split at k
 ·rename_i hz
  refine zZIh hxk (s.ext x1 o1) it (fun W' F' eta' H' o p hk=>⟨zZEB p.pre ga,W',o,zZI2 hk⟩) hD hz (R.wp_mono k fun xs W2 k vs H' F' eta' o' x' h1 h2 h3 h4 => ?_)
  exact k Dn vs H' F' eta' o' (Ext.trans s.ok o1 x1 x') (x1.there s.ok o1 hD) h1 h2 h3 h4
 ·exact k.elim
theorem zZLT {g : Cfg} {en : Bool} {pelt iter : Expr} {ifs : List Expr} {scope : Scope} {elt : Env → Wd → R D} {tst : Env → Wd → R Bool} {tgf : D → Env → Option Env} {ns : List Nat}
  (hxk : ∀ i ∈ ns,i ∉ B.xk) (hc : X.calm = true) (hN : X.N.Nodup) (hb : blkC X.N X.env.scope scope (ownOf X.N ns) = true) (hs : ∀ x,foldedSetIterable iter X.env x = pure x)
  (hi : ItcOk B X tg iter en fa) (hg : ∀ X',Blk X scope X' → GOk B.mute X' tg tgf ns) (ht : ∀ X',Blk X scope X' → QOk B.mute X' ifs tst) (he : ∀ X',Blk X scope X' → EOk B.mute X' pelt elt) :
  FOk B X (.ListComp pelt [⟨tg,iter,ifs,0⟩] scope pos) (compCF g en elt tst tgf ns fa):=by
 obtain ⟨wi,hi,ki⟩:=hi
 have h:=pe_lc (pos:=pos) (own:=ownOf X.N ns) hc hN hi (blkOk_by hb) (fun s H C cl fp=>(hg _ ⟨s,H,C,cl,fp,rfl⟩).can) (fun s H C cl fp=>ht _ ⟨s,H,C,cl,fp,rfl⟩) (fun s H C cl fp=>(he _ ⟨s,H,C,cl,fp,rfl⟩).can) hs
 rw [yZY] at h
 exact ⟨_,h,fun e W sg H F eta Q s k=>zZFt hxk ki e W sg H F eta Q s k⟩
theorem zZDQ {g : Cfg} {en : Bool} {pelt iter : Expr} {ifs : List Expr} {scope : Scope} {elt : Env → Wd → R D} {tst : Env → Wd → R Bool} {tgf : D → Env → Option Env} {ns : List Nat} {i : Nat} {y : Str} {py spos : Pos}
  (hxk : ∀ i ∈ ns,i ∉ B.xk) (hc : X.calm = true) (hN : X.N.Nodup) (hy : X.N[i]? = some y) (hyl : X.env.scope.names.lookup y = some .local)
  (hsw : swapsWith (.ListComp pelt [⟨tg,iter,ifs,0⟩] scope pos) (some (.Name y py)) spos.line X.env = pure true) (hb : blkC X.N X.env.scope scope (ownOf X.N ns) = true) (hs : ∀ x,foldedSetIterable iter X.env x = pure x)
  (hi : ItcOk B X tg iter en fa) (hg : ∀ X',Blk X scope X' → GOk B.mute X' tg tgf ns) (ht : ∀ X',Blk X scope X' → QOk B.mute X' ifs tst) (he : ∀ X',Blk X scope X' → EOk B.mute X' pelt elt) :
  ∃ t : TE,PS X (.Assign [.Name y py] (.ListComp pelt [⟨tg,iter,ifs,0⟩] scope pos) spos) (tAsg t (gName i)) ∧ ∀ (e : Env) (W : Wd) (sg : L2.St) (H F : Hp) (eta : List Addr) (Q : VK),Stt B e W sg H F eta →
   (compCF g en elt tst tgf ns fa e W).wp B.xq (fun ds W' => ∀ (a : Addr) (vs : List V) (H' F' : Hp) (eta' : List Addr),OkH B F' eta' W' H' → Ext F eta H F' eta' H' → H a = none → H' a = some (.lst vs) → F' a = none → a ∉ eta' → RepL B F' eta' ds vs → Q (.ref a) H') → t sg H Q:=by
 obtain ⟨wi,hi,ki⟩:=hi
 have h:=ps_setLc (own:=ownOf X.N ns) hc hN hy hyl hsw hi (blkOk_by hb) (fun s H C cl fp=>(hg _ ⟨s,H,C,cl,fp,rfl⟩).can) (fun s H C cl fp=>ht _ ⟨s,H,C,cl,fp,rfl⟩) (fun s H C cl fp=>(he _ ⟨s,H,C,cl,fp,rfl⟩).can) hs
 rw [yZY] at h
 exact ⟨_,h,fun e W sg H F eta Q s k=>zZFt hxk ki e W sg H F eta Q s k⟩
end
end DL
set_option maxRecDepth 100000
set_option maxHeartbeats 4000000
namespace DL
open PySem PySem.Spec PyProof.Rows
open L2 hiding St
/-- the keys' tuples stand -/
def KeysT (H : Hp) (xs : List (List Int × Addr × Value)) : Prop := ∀ x ∈ xs,TupF H x.2.1 (x.1.map V.int)
theorem zZGA {P : Program} {w : World} : ∀ {ks : List Int} {its : List Value},Vals (ks.map V.int) its → ItemsAre (intKind P w) ks its
 | [],[],.nil=>.nil
 | k :: ks,_ :: _,.cons r t=>by
  obtain ⟨tk,rfl⟩:=r
  exact .cons (by show Value.isInt k (.int k tk) = true; simp [Value.isInt]) (zZGA t)
section
variable {X : Cx} {pins : List (Addr × Obj)} {σ : L2.St} {H : Hp} {s : Shared} {a b : Addr} {k : List Int} {xs : List (List Int × Addr × Value)} {ep : Nat}
theorem zZGa (I : L2.Inv X pins σ H s) (h : TupF H b (k.map V.int)) : (tupleKind (intKind X.prog X.w)).is s.heap k b:=by
 obtain ⟨o,_,hb⟩:=h
 obtain ⟨_,_,its,r,ob,h1,h2,n,h3⟩:=I.hok b _ hb
 exact ⟨ob,_,n,h1,h2,h3,by simpa using zZGA r⟩
theorem zZJI (I : L2.Inv X pins σ H s) (h : H a = some (dtO a xs ep)) : ((a == sysModules) = false ∧ (xs.map (·.1)).Nodup) ∧ ∃ o es,s.heap.get? a = some o ∧ o.ExactDict ∧ o.data = .dict es ep ∧ es.toList = xs.map tEnt:=(I.hok a _ h).1
theorem zZHa (I : L2.Inv X pins σ H s) (h : H a = some (dtO a xs ep)) (hk : KeysT H xs) : (a == sysModules) = false ∧ s.heap.DictOfH (tupleKind (intKind X.prog X.w)) a xs:=by
 obtain ⟨⟨h0,hn⟩,o,es,h1,h2,h3,h4⟩:=zZJI I h
 exact ⟨h0,o,es,ep,h1,h2,h3,h4,fun x hx=>zZGa I (hk x hx),hn⟩
theorem zZH9 {P : Program} {w : World} {H' : Hp} {h' : Heap} (hd : (a == sysModules) = false) (x : h'.DictOfH (tupleKind (intKind P w)) a xs) : ∃ ep',ObjOk P w H' h' a (dtO a xs ep'):=by
 obtain ⟨o,es,ep',h1,h2,h3,h4,_,hn⟩:=x
 refine ⟨ep',⟨⟨hd,hn⟩,o,es,h1,h2,h3,h4⟩,⟨o,h1⟩,fun g1 g2 q k => ?_⟩
 obtain ⟨z,o',es',e1,e2,e3,e4⟩:=q
 exact ⟨z,o',es',k _ e1,e2,e3,e4⟩
theorem zZIs {h' : Heap} {t' : Nat} {ys : List (List Int × Addr × Value)} (I : L2.Inv X pins σ H s) (h : H a = some (dtO a xs ep)) (hs : Heap.SameBut a s.heap h') (x : h'.DictOfH (tupleKind (intKind X.prog X.w)) a ys) :
  ∃ ep',L2.Inv X pins σ (upd H a (dtO a ys ep')) { s with heap:=h',toks:=t' }:=by
 obtain ⟨⟨hd,_⟩,_⟩:=zZJI I h
 obtain ⟨o,es,e,q,_⟩:=id x
 obtain ⟨ep',n⟩:=zZH9 (H':=upd H a (dtO a ys e)) hd x
 obtain ⟨ep2,n2⟩:=zZH9 (H':=upd H a (dtO a ys ep')) hd x
 refine ⟨ep',d_write I (by rw [h]; exact True.intro) hs ⟨o,q⟩ ?_⟩
 exact ⟨n.1,n.2.1,n.2.2⟩
theorem zZLR {h' : Heap} {t' : Nat} (I : L2.Inv X pins σ H s) (hp : s.heap.objs.size ≤ a) (hd : (a == sysModules) = false) (k : ∀ b u,s.heap.get? b = some u → h'.get? b = some u) (x : h'.DictOfH (tupleKind (intKind X.prog X.w)) a xs) :
  ∃ ep',L2.Inv X pins σ (upd H a (dtO a xs ep')) { s with heap:=h',toks:=t' }:=by
 obtain ⟨ep',n⟩:=zZH9 (H':=upd H a (dtO a xs 0)) hd x
 refine ⟨ep',I.laid k hp ?_⟩
 exact ⟨n.1,n.2.1,n.2.2⟩
end
section
variable {X : Cx} {pa pb pc : Expr} {pos p : Pos} {ta tb tc : TE} {tg : Expr}
/-- d[k] -/
def tDtg (td ty : TE) : TE:=fun σ H Q=>td σ H fun x H1=>ty σ H1 fun y H2 => ∃ (a : Addr) (xs : List (List Int × Addr × Value)) (ep : Nat) (b : Addr) (k : List Int) (c : Addr) (u : Value) (v : V),x = .ref a ∧ y = .ref b ∧ H2 a = some (dtO a xs ep) ∧ KeysT H2 xs ∧ TupF H2 b (k.map V.int) ∧ atKey xs k = some (c,u) ∧ RelV v u ∧ Q v H2
theorem zZOy (hu : X.A.units + 1 < cLine) (ha : PE X pa ta) (hb : PE X pb tb) (hx : PlainIx pb) : PE X (.Subscript pa pb pos) (tDtg ta tb):=by
 refine ⟨fun pins s σ H Q I h => ?_⟩
 refine subD_of PySem.F.slot_dict_getitem.lookup hx (thn (ha.run pins s σ H _ I h) fun u s1 ⟨x,H1,I1,rx,q1⟩=>thn (hb.run pins s1 σ H1 _ I1 q1) fun i s2 ⟨y,H2,I2,ry,q2⟩ => ?_)
 obtain ⟨a,xs,ep,b,k,c,w,v,rfl,rfl,h1,h2,h3,h4,h5,q⟩:=q2
 cases (show u = Value.ref a from rx)
 cases (show i = Value.ref b from ry)
 obtain ⟨_,hm⟩:=zZHa I2 h1 h2
 exact ⟨hm.typeIs,wpAny_getItem_heap (knd:=tupleKind (intKind X.prog X.w)) (tupleKind_room_in1 hu) (zZGa I2 h3) hm h4 ⟨v,H2,I2.tok _,h5,q⟩⟩
/-- d[k] = v -/
def sDtp (td ty tv : TE) : TS:=fun D σ H=>tv σ H fun v H1=>td σ H1 fun x H2=>ty σ H2 fun y H3 => ∃ (a : Addr) (xs : List (List Int × Addr × Value)) (ep : Nat) (b : Addr) (k : List Int),x = .ref a ∧ y = .ref b ∧ H3 a = some (dtO a xs ep) ∧ KeysT H3 xs ∧ TupF H3 b (k.map V.int) ∧ xs.length ≤ sizeLine ∧
 ∀ (u : Value) (ep' : Nat),RelV v u → D.nx σ (upd H3 a (dtO a (storedH xs k b u) ep'))
theorem zZO1 {px : Expr} {p2 : Pos} {tx : TE} (hu : X.A.units + 1 < cLine) (ha : PE X pa ta) (hb : PE X pb tb) (hv : PE X px tx) (hs : swapsWith px (some (.Subscript pa pb p2)) pos.line X.env = pure false) : PS X (.Assign [.Subscript pa pb p2] px pos) (sDtp ta tb tx):=by
 refine ⟨fun pins s σ H D I h => ?_⟩
 refine wpAny_Assign_Subscript (thn (hv.run pins s σ H _ I h) fun r s1 ⟨v,H1,I1,rv,q1⟩=>thn (ha.run pins s1 σ H1 _ I1 q1) fun u s2 ⟨x,H2,I2,rx,q2⟩=>thn (hb.run pins s2 σ H2 _ I2 q2) fun i s3 ⟨y,H3,I3,ry,q3⟩ => ?_) hs
 obtain ⟨a,xs,ep,b,k,rfl,rfl,h1,h2,h3,h4,q⟩:=q3
 cases (show u = Value.ref a from rx)
 cases (show i = Value.ref b from ry)
 obtain ⟨_,hm⟩:=zZHa I3 h1 h2
 refine wpAny_setItem_heap (knd:=tupleKind (intKind X.prog X.w)) (hsz:=h4) (tupleKind_room_in1 hu) (zZGa I3 h3) hm fun h' hm' hs' => ?_
 obtain ⟨ep',I4⟩:=zZIs I3 h1 hs' hm'
 exact ⟨σ,_,I4,q r ep' rv⟩
/-- {} -/
theorem zZJZ {P : Program} {w : World} (h : Heap) : (h.push { cls:=.type "dict",data:=.dict #[] }).DictOfH (tupleKind (intKind P w)) h.objs.size []:=Heap.DictOfH.new h
def tDtE : TE:=fun _ H Q => ∀ q ep,H q = none → Q (.ref q) (upd H q (dtO q [] ep))
theorem zZOe : PE X (.Dict [] [] pos) tDtE:=⟨fun pins s σ H Q I h=>by
 obtain ⟨ep,I2⟩:=zZLR (t':=s.toks) I (Nat.le_refl _) (beq_eq_false_iff_ne.mpr (Ne.symm (Nat.ne_of_lt I.big))) (fun _ _ q=>Heap.get?_push_of_some _ q) (zZJZ (P:=X.prog) (w:=X.w) s.heap)
 exact wpAny_Dict_empty ⟨.ref s.heap.objs.size,_,I2,rfl,h _ ep (I.hok.fresh (Nat.le_refl _))⟩⟩
end
end DL
set_option maxRecDepth 100000
set_option maxHeartbeats 4000000
namespace DL
open PySem PySem.Spec PyProof.Rows
open L2 hiding St
section
variable {B : Tb} {X : Cx} {xo : Addr} {py pa pb pc : Expr} {pos p : Pos} {fa fb fc : Env → Wd → R D} {fs fs2 : Env → Wd → R Src} {e : Env} {sg : L2.St} {F F' H H' F0 H0 : Hp} {eta eta' eta0 : List Addr} {W W' W0 : Wd} {sts : List Stmt} {f : Env → Wd → R Fl}
variable {kvs : List (List Int × D)} {xs : List (List Int × Addr × Value)} {k : List Int} {d : D}
theorem zZDx (s : SubH F H) : ∀ {kvs : List (List Int × D)} {xs : List (List Int × Addr × Value)},RepT B F eta kvs xs → KeysT H xs
 | _,_,.nil=>fun x h=>by cases h
 | _,_,.cons hk h hu t=>fun x hx=>by
  rcases List.mem_cons.mp hx with rfl | hx
  ·exact hk.mono s
  ·exact zZDx s t x hx
theorem zZIA : ∀ {kvs : List (List Int × D)} {xs : List (List Int × Addr × Value)},RepT B F eta kvs xs → kvs.length = xs.length
 | _,_,.nil=>rfl
 | _,_,.cons hk h hu t=>by simp [zZIA t]
theorem zZGb : ∀ {kvs : List (List Int × D)} {xs : List (List Int × Addr × Value)},RepT B F eta kvs xs → ∀ k : List Int,(∃ d c u v,lookT k kvs = some d ∧ atKey xs k = some (c,u) ∧ RelV v u ∧ Rep B F eta d v) ∨ (lookT k kvs = none ∧ atKey xs k = none)
 | _,_,.nil,k=>.inr ⟨rfl,rfl⟩
 | _,_,.cons (k:=k') (d:=d) (b:=b) (u:=u) (v:=v) (ds:=ds) (xs:=xs) hk h hu t,k=>by
  by_cases e : k' = k
  ·subst e
   exact .inl ⟨d,b,u,v,by simp [lookT],by simp [atKey],hu,h⟩
  ·have e1 : lookT k ((k',d) :: ds) = lookT k ds:=by simp [lookT,e]
   have e2 : atKey ((k',b,u) :: xs) k = atKey xs k:=by simp [atKey,e]
   rw [e1,e2]
   exact zZGb t k
theorem zZLe (r : RepT B F eta kvs xs) (k : List Int) : (lookT k kvs).isSome = (atKey xs k).isSome:=by
 rcases zZGb r k with ⟨d,c,u,v,h1,h2,_⟩ | ⟨h1,h2⟩ <;> rw [h1,h2] <;> rfl
theorem zZEY {v : V} {u : Value} {k : List Int} (hu : RelV v u) (rd : Rep B F eta d v) : ∀ {kvs : List (List Int × D)} {xs : List (List Int × Addr × Value)},RepT B F eta kvs xs → RepT B F eta (kvs.map fun p=>if p.1 = k then (p.1,d) else p) (xs.map (putAt k u))
 | _,_,.nil=>.nil
 | _,_,.cons (k:=k') hk h hu' t=>by
  rw [List.map_cons,List.map_cons]
  unfold putAt
  by_cases e : k' = k
  ·simp only [e,if_true]
   exact .cons (by rw [← e]; exact hk) rd hu (zZEY hu rd t)
  ·simp only [e,if_false]
   exact .cons hk h hu' (zZEY hu rd t)
theorem zZGq {b : Addr} {v : V} {u : Value} {k : List Int} (hk : TupF F b (k.map V.int)) (hu : RelV v u) (rd : Rep B F eta d v) : ∀ {kvs : List (List Int × D)} {xs : List (List Int × Addr × Value)},RepT B F eta kvs xs → RepT B F eta (kvs ++ [(k,d)]) (xs ++ [(k,b,u)])
 | _,_,.nil=>.cons hk rd hu .nil
 | _,_,.cons hk' h hu' t=>.cons hk' h hu' (zZGq hk hu rd t)
theorem zZLo {b : Addr} {v : V} {u : Value} {k : List Int} (hk : TupF F b (k.map V.int)) (hu : RelV v u) (rd : Rep B F eta d v) (r : RepT B F eta kvs xs) : RepT B F eta (putT k d kvs) (storedH xs k b u):=by
 unfold putT storedH
 rw [zZLe r k]
 split
 ·exact zZEY hu rd r
 ·exact zZGq hk hu rd r
theorem zZIc : ∀ {xs : List D} {vs : List V} {ks : List Int},RepL B F eta xs vs → intsD xs = some ks → vs = ks.map V.int
 | _,_,ks,.nil,h=>by simp [intsD] at h; subst h; rfl
 | _,_,ks,.cons (d:=d) r t,h=>by
  cases d <;> simp [intsD] at h
  obtain ⟨r2,h2,rfl⟩:=h
  cases r
  rw [zZIc t h2]
  rfl
theorem zZIV {y : D} {v : V} (r : Rep B F eta y v) (h : keyI y = some k) : ∃ b,v = .ref b ∧ TupF F b (k.map V.int):=by
 cases r <;> simp [keyI] at h
 rename_i a xs vs hT rl
 rw [zZIc rl h] at hT
 exact ⟨a,rfl,hT⟩
def DkOk (B : Tb) (X : Cx) (py : Expr) (f : Env → Wd → R (List (List Int × D))) : Prop := ∃ t : TE,PE X py t ∧ ∀ (e : Env) (W : Wd) (sg : L2.St) (H F : Hp) (eta : List Addr) (Q : VK),Stt B e W sg H F eta →
 (f e W).wp B.xq (fun kvs W' => ∀ (a : Addr) (xs : List (List Int × Addr × Value)) (ep : Nat) (H' F' : Hp) (eta' : List Addr),OkH B F' eta' W' H' → Ext F eta H F' eta' H' → H' a = some (dtO a xs ep) → a ∉ eta' → RepT B F' eta' kvs xs → Q (.ref a) H') → t sg H Q
theorem zZMS {i : Nat} (s : Stt B e W sg H F eta) (h : odOf e[i]? = some kvs) : ∃ a xs ep,sg[i]? = some (some (V.ref a)) ∧ H a = some (dtO a xs ep) ∧ a ∉ eta ∧ RepT B F eta kvs xs:=by
 unfold odOf at h
 split at h
 ·rename_i kv q
  cases h
  obtain ⟨a,xs,ep,h1,h2,h3,h4,h5⟩:=s.sl i _ q
  exact ⟨a,xs,ep,h1,h2,h5,h3⟩
 ·rename_i d q
  obtain ⟨v,h1,h2⟩:=s.sl i _ q
  cases h2 <;> simp [dttOf] at h
  rename_i a ep kv xs hF r
  subst h
  exact ⟨a,xs,ep,h1,s.ok.sub _ _ hF,(fun z=>by rw [s.ok.cF a z] at hF; cases hF),r⟩
 ·cases h
theorem zZO0 {i : Nat} {x : Str} (hN : X.N[i]? = some x) (hv : Vis X.env.scope x) (hd : (x == ("__debug__" : Str)) = false) (hc : (x == ("__classdict__" : Str)) = false) (g : Cfg) :
  DkOk B X (.Name x pos) (dkOf (.var i) (evE g (.var i))):=by
 refine ⟨_,pe_var hN hv hd hc,fun e W sg H F eta Q s k => ?_⟩
 unfold dkOf at k
 obtain ⟨kv,q,k⟩:=zZB k
 obtain ⟨a,xs,ep,h1,h2,h3,h4⟩:=zZMS s q
 exact ⟨_,h1,k a xs ep H F eta s.ok (Ext.refl _ _ _) h2 h3 h4⟩
theorem zZPA {a : E} {g : Cfg} (hn : ∀ i,a ≠ .var i) (ha : EOk B X pa (evE g a)) : DkOk B X pa (dkOf a (evE g a)):=by
 obtain ⟨ta,ha,ka⟩:=ha
 refine ⟨ta,ha,fun e W sg H F eta Q s k => ?_⟩
 refine ka e W sg H F eta _ s ?_
 have e1 : dkOf a (evE g a) e W = (evE g a e W).bind fun d W=>opt (dttOf d) W:=by
  unfold dkOf
  cases a <;> first | rfl | exact absurd rfl (hn _)
 rw [e1,R.wp_bind] at k
 refine R.wp_mono k fun x W1 k v H1 F1 eta1 o1 x1 r1 => ?_
 obtain ⟨kv,q,k⟩:=zZB k
 cases r1 <;> simp [dttOf] at q
 rename_i c ep kv2 xs hF r
 subst q
 exact k c xs ep H1 F1 eta1 o1 x1 (o1.sub _ _ hF) (fun z=>by rw [o1.cF c z] at hF; cases hF) r
variable {fd : Env → Wd → R (List (List Int × D))}
def dtgF (fd : Env → Wd → R (List (List Int × D))) (fb : Env → Wd → R D) : Env → Wd → R D:=fun e W=>(fd e W).bind fun kvs W=>(fb e W).bind fun x W=>dtgR kvs x W
theorem zZNH (hu : X.A.units + 1 < cLine) (hx : PlainIx pb) (ha : DkOk B X pa fd) (hb : EOk B X pb fb) : EOk B X (.Subscript pa pb pos) (dtgF fd fb):=by
 obtain ⟨ta,ha,ka⟩:=ha
 obtain ⟨tb,hb,kb⟩:=hb
 refine ⟨_,zZOy hu ha hb hx,fun e W sg H F eta Q s k => ?_⟩
 refine ka e W sg H F eta _ s ?_
 unfold dtgF at k
 rw [R.wp_bind] at k
 refine R.wp_mono k fun kvs W1 k a xs ep H1 F1 eta1 o1 x1 h1 h2 r1 => ?_
 rw [R.wp_bind] at k
 refine kb e W1 sg H1 F1 eta1 _ (s.ext x1 o1) (R.wp_mono k fun x W2 k v H2 F2 eta2 o2 x2 r2 => ?_)
 unfold dtgR at k
 obtain ⟨z,q,k⟩:=zZB k
 simp only [Option.bind_eq_some_iff] at q
 obtain ⟨ky,hk,q⟩:=q
 obtain ⟨b,rfl,hT⟩:=zZIV r2 hk
 have r3:=r1.mono x2.sub x2.pre
 rcases zZGb r3 ky with ⟨d,c,u,v,e1,e2,e3,e4⟩ | ⟨e1,_⟩
 ·rw [e1] at q
  cases q
  exact ⟨a,xs,ep,b,ky,c,u,v,rfl,rfl,x2.keep a _ h1 h2,zZDx o2.sub r3,hT.mono o2.sub,e2,e3,k v H2 F2 eta2 o2 (Ext.trans s.ok o1 x1 x2) e4⟩
 ·rw [e1] at q; cases q
end
end DL
set_option maxRecDepth 100000
set_option maxHeartbeats 4000000
namespace DL
open PySem PySem.Spec PyProof.Rows
open L2 hiding St
section
variable {B : Tb} {X : Cx} {xo : Addr} {py pa pb pc : Expr} {pos p : Pos} {fa fb fc : Env → Wd → R D} {fs fs2 : Env → Wd → R Src} {e : Env} {sg : L2.St} {F F' H H' F0 H0 : Hp} {eta eta' eta0 : List Addr} {W W' W0 : Wd} {sts : List Stmt} {f : Env → Wd → R Fl}
theorem zZM9 (i : Int) (n : Nat) : RepL B F eta (rangeD i n) ((List.range n).map fun (k : Nat)=>V.int (i + (k : Int))):=by
 have : ∀ l : List Nat,RepL B F eta (l.map fun (k : Nat)=>D.int (i + (k : Int))) (l.map fun (k : Nat)=>V.int (i + (k : Int))):=by
  intro l
  induction l with
  | nil=>exact .nil
  | cons a l ih=>exact .cons (.int _) ih
 exact this _
def lrgF (fa fb : Env → Wd → R D) : Env → Wd → R (List D):=fun e W=>((fa e W).bind fun x W=>(fb e W).bind fun y W =>
  match x,y with
  | .int i,.int j=>if smallI i && smallI j then .ok (rangeD i (j - i).toNat,false) W else .st
  | _,_=>.st).bind fun (ds : List D × Bool) W=>if ds.1.length ≤ cap then .ok ds.1 W else .st
theorem zZMx {p2 p3 : Pos} (hc : X.calm = true) (hg : Gl X "list") (hm : X.mg "list" = none) (hg2 : Gl X "range") (hm2 : X.mg "range" = none) (hn : notStar pa = true) (hn2 : notStar pb = true) (ha : EOk B X pa fa) (hb : EOk B X pb fb) :
  FOk B X (.Call (.Name "list" p) [.Call (.Name "range" p2) [pa,pb] [] p3] [] pos) (lrgF fa fb):=by
 obtain ⟨ta,ha,ka⟩:=ha
 obtain ⟨tb,hb,kb⟩:=hb
 refine ⟨_,pe_listRg hc hg hm (prg_2 hg2 hm2 ha hb (star1 hn _ _) (star1 hn2 _ _) (xZm _ _ (by simp [hn2]))),fun e W sg H F eta Q s k => ?_⟩
 refine ka e W sg H F eta _ s ?_
 unfold lrgF at k
 rw [R.bind_assoc,R.wp_bind] at k
 refine R.wp_mono k fun x W1 k v H1 F1 eta1 o1 x1 r1 => ?_
 rw [R.bind_assoc,R.wp_bind] at k
 refine kb e W1 sg H1 F1 eta1 _ (s.ext x1 o1) (R.wp_mono k fun y W2 k u H2 F2 eta2 o2 x2 r2 => ?_)
 have y2:=Ext.trans s.ok o1 x1 x2
 cases r1 with
 | int i =>
  cases r2 with
  | int j =>
   simp only [] at k
   split at k
   ·rename_i hs
    rw [R.bind_ok] at k
    split at k
    ·rename_i hz
     simp only [Bool.and_eq_true] at hs
     obtain ⟨a1,a2⟩:=zZAe hs.1
     obtain ⟨b1,b2⟩:=zZAe hs.2
     have hl : (rangeD i (j - i).toNat).length = (j - i).toNat:=by simp [rangeD]
     simp only [hl] at hz
     refine ⟨i,j,rfl,rfl,⟨a1,a2,b1,b2, ?_⟩,fun q hq => ?_⟩
     ·unfold cap at hz; omega
     ·exact k q _ _ F2 eta2 (o2.new hq) (Ext.trans s.ok o2 y2 (Ext.new hq)) (y2.there s.ok o2 hq) upd_same (o2.notF hq) (o2.notE hq) (zZM9 i _)
    ·exact k.elim
   ·exact k.elim
  | _=>exact k.elim
 | _=>cases y <;> exact k.elim
inductive FpOk (B : Tb) (X : Cx) : List Expr → (Env → Wd → R (List D)) → Prop where
 | nil : FpOk B X [] (fun _ W=>.ok [] W)
 | lit {x : Str} {j : Nat} {q : Pos} {es : List Expr} {fr : Env → Wd → R (List D)} (r : FpOk B X es fr) : FpOk B X (.Constant (.str x) j q :: es) (fun e W=>(R.ok (D.str x) W).bind fun y W=>(fr e W).bind fun ys W=>.ok (y :: ys) W)
 | fld {q : Pos} {es : List Expr} {fr : Env → Wd → R (List D)} {pa : Expr} {fa : Env → Wd → R D} (ha : EOk B X pa fa) (r : FpOk B X es fr) : FpOk B X (.FormattedValue pa (-1) none q :: es) (fun e W=>(fa e W).bind fun y W=>(fr e W).bind fun ys W=>.ok (y :: ys) W)
end
end DL
set_option maxRecDepth 100000
set_option maxHeartbeats 4000000
namespace DL
open PySem PySem.Spec PyProof.Rows
open L2 hiding St
end DL
set_option maxRecDepth 100000
set_option maxHeartbeats 4000000
namespace DL
open PySem PySem.Spec PyProof.Rows
open L2 hiding St
section
variable {B : Tb} {X : Cx} {xo : Addr} {py pa pb pc pz : Expr} {pos p : Pos} {fa fb fc fk fx fz : Env → Wd → R D} {fs fs2 : Env → Wd → R Src} {e : Env} {sg : L2.St} {F F' H H' F0 H0 : Hp} {eta eta' eta0 : List Addr} {W W' W0 : Wd} {sts : List Stmt} {f : Env → Wd → R Fl} {kvs : List (List Int × D)} {xs : List (List Int × Addr × Value)} {ep : Nat}
theorem Fr0.ownD (y : Fr0 B xo F0 eta0 H0 e W sg H F eta) {i : Nat} {a : Addr} (hi : i < e.length) (h1 : H a = some (dtO a xs ep)) (h2 : F a = none) (h3 : a ∉ eta) (r : RepT B F eta kvs xs) (h0 : H0 a = none) (hxh : B.xH a = none) (hxk : i ∉ B.xk)
  (hu : ∀ (j : Nat) (z : Slot),e[j]? = some z → z.owned = true → sg[j]? ≠ some (some (V.ref a))) : Fr0 B xo F0 eta0 H0 (e.set i (.od kvs)) W (sg.set i (some (.ref a))) H F eta:=by
 have hi' : i < sg.length:=by rw [← y.st.len]; exact hi
 refine ⟨⟨y.st.ok,by simp [y.st.len],fun j z h => ?_,fun j k sj sk b g1 g2 o1 o2 q1 q2 => ?_,fun j hj => ?_,by rw [List.length_set]; exact y.st.xl,y.st.xx⟩,y.ext,fun j z b g1 g2 g3 => ?_⟩
 ·by_cases hj : i = j
  ·subst hj
   rw [List.getElem?_set_self hi] at h
   cases h
   exact ⟨a,xs,ep,List.getElem?_set_self hi',h1,r,h2,h3⟩
  ·rw [List.getElem?_set_ne hj] at h
   have q:=y.st.sl j z h
   cases z with
   | no=>trivial
   | val d=>obtain ⟨u,h1,h2⟩:=q; exact ⟨u,by rw [List.getElem?_set_ne hj]; exact h1,h2⟩
   | ol xs=>obtain ⟨a,vs,h1,h2⟩:=q; exact ⟨a,vs,by rw [List.getElem?_set_ne hj]; exact h1,h2⟩
   | oi c fs=>obtain ⟨a,dx,gs,h1,h2⟩:=q; exact ⟨a,dx,gs,by rw [List.getElem?_set_ne hj]; exact h1,h2⟩
   | od kvs=>obtain ⟨a,xs,ep,h1,h2⟩:=q; exact ⟨a,xs,ep,by rw [List.getElem?_set_ne hj]; exact h1,h2⟩
   | xv c p=>obtain ⟨h1,h2⟩:=q; exact ⟨by rw [List.getElem?_set_ne hj]; exact h1,h2⟩
 ·by_cases hj : i = j
  ·by_cases hk : i = k
   ·rw [← hj,← hk]
   ·subst hj
    rw [List.getElem?_set_self hi'] at q1
    cases q1
    rw [List.getElem?_set_ne hk] at g2 q2
    exact absurd q2 (hu k sk g2 o2)
  ·rw [List.getElem?_set_ne hj] at g1 q1
   by_cases hk : i = k
   ·subst hk
    rw [List.getElem?_set_self hi'] at q2
    cases q2
    exact absurd q1 (hu j sj g1 o1)
   ·rw [List.getElem?_set_ne hk] at g2 q2
    exact y.st.un j k sj sk b g1 g2 o1 o2 q1 q2
 ·rw [List.getElem?_set_ne (fun z=>hxk (by rw [z]; exact hj))]
  exact y.st.xr j hj
 ·by_cases hj : i = j
  ·subst hj
   rw [List.getElem?_set_self hi'] at g3
   cases g3
   rw [List.getElem?_set_self hi] at g1
   cases g1
   exact ⟨h0,(fun q=>by cases q),hxh⟩
  ·rw [List.getElem?_set_ne hj] at g1 g3
   exact y.new j z b g1 g2 g3
def asgES (i : Nat) : Env → Wd → R Fl:=fun e W=>if i < e.length then .ok (.nx (e.set i (.od []))) W else .st
theorem zZLX {i : Nat} {x : Str} {p2 : Pos} (hxk : i ∉ B.xk) (hN : X.N.Nodup) (hi : X.N[i]? = some x) (hx : L2.Loc X.env.scope x) (hf : X.fn x = true ∨ X.env.scope.names.lookup x = some .local) :
  POk B X (.Assign [.Name x p2] (.Dict [] [] p) pos) (asgES i):=by
 refine ⟨_,ps_set hN hi hx zZOe (yZy rfl _ _ _) hf,fun xo F0 eta0 H0 W0 e W sg H F eta De o y k a ep ha => ?_⟩
 unfold asgES at k
 split at k
 ·rename_i hl
  have o1:=y.st.ok.new (u:=dtO a [] ep) ha
  have x1:=Ext.new (F:=F) (eta:=eta) (u:=dtO a [] ep) ha
  have y1:=y.ext2 o x1 o1
  refine k _ _ F eta (y1.ownD hl upd_same (y.st.ok.notF ha) (y.st.ok.notE ha) .nil (y.ext.there' y.st.ok ha) (y.st.xx.there' y.st.ok ha) hxk fun j z h1 h2 h3 => ?_)
  exact y.st.ownAt h1 h2 h3 ha
 ·exact k.elim
/-- the name of a dict of the frame's own -/
theorem zZMh {i : Nat} (y : Fr0 B xo F0 eta0 H0 e W sg H F eta) (h : odS e[i]? = some kvs) : ∃ a xs ep,e[i]? = some (.od kvs) ∧ sg[i]? = some (some (V.ref a)) ∧ H a = some (dtO a xs ep) ∧ RepT B F eta kvs xs ∧ F a = none ∧ a ∉ eta:=by
 unfold odS at h
 split at h
 ·rename_i kv q
  cases h
  obtain ⟨a,xs,ep,z⟩:=y.st.sl i _ q
  exact ⟨a,xs,ep,q,z⟩
 ·cases h
theorem Fr0.putD (y : Fr0 B xo F0 eta0 H0 e W sg H F eta) {i : Nat} {a b : Addr} {k : List Int} {d : D} {v : V} {u : Value} {ep' : Nat} (h1 : e[i]? = some (.od kvs)) (h2 : sg[i]? = some (some (V.ref a))) (h3 : RepT B F eta kvs xs) (h4 : F a = none) (h5 : a ∉ eta)
  (hk : TupF F b (k.map V.int)) (hu : RelV v u) (rd : Rep B F eta d v) : Fr0 B xo F0 eta0 H0 (e.set i (.od (putT k d kvs))) W sg (upd H a (dtO a (storedH xs k b u) ep')) F eta :=
 y.write (z':=.od (putT k d kvs)) h1 rfl h2 h4 h5 rfl (fun z=>by cases z) ⟨a,_,ep',h2,upd_same,zZLo hk hu rd h3,h4,h5⟩
def putDS (i : Nat) (fk fx : Env → Wd → R D) : Env → Wd → R Fl:=fun e W=>(fx e W).bind fun d W=>(opt (odS e[i]?) W).bind fun kvs W=>(fk e W).bind fun y W=>(opt (keyI y) W).bind fun k W =>
  if kvs.length < cap then .ok (.nx (e.set i (.od (putT k d kvs)))) W else .st
theorem zZMN {i : Nat} {x : Str} {p2 p3 : Pos} {px : Expr} (hu : X.A.units + 1 < cLine) (hN : X.N[i]? = some x) (hv : Vis X.env.scope x) (hd : (x == ("__debug__" : Str)) = false) (hc : (x == ("__classdict__" : Str)) = false) (hk : EOk B X pb fk) (hx : EOk B X px fx) :
  POk B X (.Assign [.Subscript (.Name x p2) pb p3] px pos) (putDS i fk fx):=by
 obtain ⟨tk,hk,kk⟩:=hk
 obtain ⟨tx,hx,kx⟩:=hx
 refine ⟨_,zZO1 hu (pe_var hN hv hd hc) hk hx (xZu (fun _ _ h=>by cases h) _ _),fun xo F0 eta0 H0 W0 e W sg H F eta De o y k => ?_⟩
 refine kx e W sg H F eta _ y.st ?_
 unfold putDS at k
 rw [R.wp_bind] at k
 refine R.wp_mono k fun d W1 k v H1 F1 eta1 o1 x1 r1 => ?_
 have y1:=y.ext2 o x1 o1
 rw [R.wp_bind] at k
 obtain ⟨kv,hod,k⟩:=zZB k
 obtain ⟨a,xs,ep,g1,g2,g3,g4,g5,g6⟩:=zZMh y1 hod
 refine ⟨_,g2, ?_⟩
 rw [R.wp_bind] at k
 refine kk e W1 sg H1 F1 eta1 _ y1.st (R.wp_mono k fun yk W2 k u H2 F2 eta2 o2 x2 r2 => ?_)
 have y2:=y1.ext2 o x2 o2
 rw [R.wp_bind] at k
 obtain ⟨ky,hky,k⟩:=zZB k
 obtain ⟨b,rfl,hT⟩:=zZIV r2 hky
 obtain ⟨a',xs',ep',q1,q2,q3,q4,q5,q6⟩:=zZMh y2 hod
 rw [g2] at q2
 cases q2
 split at k
 ·rename_i hlt
  refine ⟨a,xs',ep',b,ky,rfl,rfl,q3,zZDx o2.sub q4,hT.mono o2.sub, ?_,fun w ep2 hw=>k sg _ F2 eta2 (y2.putD q1 g2 q4 q5 q6 hT hw (r1.mono x2.sub x2.pre))⟩
  rw [← zZIA q4]
  exact Nat.le_of_lt (Nat.lt_of_lt_of_le hlt zZc)
 ·exact k.elim
end
end DL
set_option maxRecDepth 100000
set_option maxHeartbeats 4000000
namespace DL
open PySem PySem.Spec PyProof.Rows
open L2 hiding St
end DL
set_option maxRecDepth 100000
set_option maxHeartbeats 4000000
namespace DL
open PySem PySem.Spec PyProof.Rows
open L2 hiding St
section
variable {B : Tb} {X : Cx} {tg py pa pb pc : Expr} {pos p : Pos}
variable {e e' e2 : Env} {sg sg' sg2 : L2.St} {F F' F2 H H' H2 : Hp} {eta eta' eta2 : List Addr} {W W' : Wd}
theorem zZGI {α : Type} {f : α → Bool} : ∀ {ds : List α} {j : Nat},ds.findIdx? f = some j → (∃ z,ds[j]? = some z ∧ f z = true) ∧ ∀ (m : Nat) (z' : α),m < j → ds[m]? = some z' → f z' = false
 | [],j,h=>by simp at h
 | d :: ds,j,h=>by
  rw [List.findIdx?_cons] at h
  split at h
  ·rename_i hq
   cases h
   exact ⟨⟨d,rfl,hq⟩,fun m z' hm=>absurd hm (Nat.not_lt_zero _)⟩
  ·rename_i hq
   simp only [Option.map_eq_some_iff] at h
   obtain ⟨j',h1,rfl⟩:=h
   obtain ⟨⟨z,h2,h3⟩,h4⟩:=zZGI h1
   refine ⟨⟨z,by simpa using h2,h3⟩,fun m z' hm hz => ?_⟩
   cases m with
   | zero=>simp at hz; subst hz; simpa using hq
   | succ m=>exact h4 m z' (by omega) (by simpa using hz)
theorem zZNw {fb : Env → Wd → R D} {apos : Pos} {fs : Env → Wd → R Src} (hu : X.A.units + 65 < cLine) (hb : attributeBase pa "index" X.env (eval pa X.env) = eval pa X.env) (hl : (apos.endLine == pos.line) = true) (hn : notStar pb = true) (ha : SOk B X pa fs) (hbb : EOk B X pb fb) :
  EOk B X (.Call (.Attribute pa "index" apos) [pb] [] pos) (fun e W=>(fs e W).bind fun s W=>if lstSrc W s then (fb e W).bind fun y W=>opt (ixdG W s y) W else .st):=by
 obtain ⟨ta,ha,ka⟩:=ha
 obtain ⟨tb,hbb,kb⟩:=hbb
 refine ⟨_,pe_bm PySem.F.plainAttrs_list PySem.F.slot_list_index PySem.F.type_list_index (mt_indexD hu) ha (pa_cons hbb pa_nil (star1 hn _ _)) hb (by rw [star1 hn]; rfl) hl (star1 hn _ _) rfl,fun e W sg H F eta Q s k => ?_⟩
 refine ka e W sg H F eta _ s ?_
 rw [R.wp_bind] at k
 refine R.wp_mono k fun x W1 k v H1 F1 eta1 o1 x1 r1 => ?_
 split at k
 ·rename_i hs
  have st1:=s.ext x1 o1
  obtain ⟨ty,z1,z2⟩:=zZBT st1 r1 hs X.K
  refine ⟨ty, ?_⟩
  rw [R.wp_bind] at k
  refine kb e W1 sg H1 F1 eta1 _ st1 (R.wp_mono k fun y W2 k u H2 F2 eta2 o2 x2 r2 => ?_)
  obtain ⟨z,q,k⟩:=zZB k
  unfold ixdG at q
  simp only [Option.bind_eq_some_iff,Option.map_eq_some_iff] at q
  obtain ⟨xs,hi,d,hd,ds,hds,j,hj,rfl⟩:=q
  have y2:=Ext.trans s.ok o1 x1 x2
  obtain ⟨a,vs,rfl,rl,hh⟩:=(r1.ext x2).lst (s.ext y2 o2) hi z1 z2
  have p1:=r2.dp (K:=X.K) o2.sub 60 d hd
  have p2:=rl.dp (K:=X.K) o2.sub 59 ds hds
  have hl2 : pd 60 (.lst xs) = some (.list ds):=by simp [pd,hds]
  obtain ⟨⟨z,g1,g2⟩,g3⟩:=zZGI hj
  exact ⟨a,u,d,ds,j,z,rfl,rfl,.lst (SqL.of hh) p2,p1,yZW hl2,yZW hd,g1,g2,g3,k _ H2 F2 eta2 o2 y2 (.int _)⟩
 ·exact k.elim
/-- a heap without one of its things -/
def off (H : Hp) (D : Addr) : Hp:=fun a=>if a = D then none else H a
theorem yZ5 {a D : Addr} (h : a ≠ D) : off H D a = H a:=if_neg h
theorem zZIQ {a D : Addr} {u : HO} (h : off H D a = some u) : a ≠ D ∧ H a = some u:=by
 unfold off at h
 split at h
 ·cases h
 ·exact ⟨by assumption,h⟩
theorem OkH.off (o : OkH B F eta W H) {p : Addr} (hF : F p = none) (hE : p ∉ eta) : OkH B F eta W (off H p):=by
 refine ⟨fun a w h => ?_,o.cF,o.nd,o.len,fun n a c h1 h2 => ?_⟩
 ·rw [yZ5 (fun z=>by rw [z,hF] at h; cases h)]; exact o.sub a w h
 ·have hm : a ∈ eta:=List.mem_of_getElem? h1
  have hne : a ≠ p:=fun z=>hE (by rw [← z]; exact hm)
  have q:=o.cell n a c h1 h2
  cases c with
  | lst xs=>obtain ⟨vs,e,r⟩:=q; exact ⟨vs,by rw [yZ5 hne]; exact e,r⟩
  | ins c fs=>obtain ⟨dx,gs,e,r⟩:=q; exact ⟨dx,gs,by rw [yZ5 hne]; exact e,r⟩
  | dct kvs=>obtain ⟨gs,e,r⟩:=q; exact ⟨gs,by rw [yZ5 hne]; exact e,r⟩
  | dead=>show DL.off H p a ≠ none; rw [yZ5 hne]; exact q
theorem Ext.off (x : Ext F eta H F' eta' H') {p : Addr} (hp : H p = none) : Ext F eta H F' eta' (off H' p) :=
 ⟨x.sub,x.pre,fun a u h hn=>by rw [yZ5 (ne_of_none h hp)]; exact x.keep a u h hn,x.newF,x.newE⟩
theorem Stt.off (st : Stt B e W sg H F eta) {p : Addr} (hF : F p = none) (hE : p ∉ eta) (hx : B.xH p = none) (hn : ∀ (i : Nat) (z : Slot) (a : Addr),e[i]? = some z → z.owned = true → sg[i]? = some (some (V.ref a)) → a ≠ p) (hd : ∀ (i c : Nat) (q : D),e[i]? = some (.xv c q) → q ≠ .non → ∀ dd,B.xd = some dd → dd ≠ p) : Stt B e W sg (off H p) F eta:=by
 refine ⟨st.ok.off hF hE,st.len,fun i z h => ?_,st.un,st.xr,st.xl,st.xx.off hx⟩
 have q:=st.sl i z h
 cases z with
 | no=>trivial
 | val d=>exact q
 | ol xs =>
  obtain ⟨a,vs,h1,h2,h3,h4,h5⟩:=q
  exact ⟨a,vs,h1,by rw [yZ5 (hn i _ a h rfl h1)]; exact h2,h3,h4,h5⟩
 | oi c fs =>
  obtain ⟨a,dx,gs,h1,h2,h3,h4,h5⟩:=q
  exact ⟨a,dx,gs,h1,by rw [yZ5 (hn i _ a h rfl h1)]; exact h2,h3,h4,h5⟩
 | od kvs =>
  obtain ⟨a,xs,ep,h1,h2,h3,h4,h5⟩:=q
  exact ⟨a,xs,ep,h1,by rw [yZ5 (hn i _ a h rfl h1)]; exact h2,h3,h4,h5⟩
 | xv c q' =>
  refine ⟨q.1,q.2.1, ?_⟩
  rcases q.2.2 with h' | ⟨y,v,dd,h1,h2,h3,h4,h5⟩
  ·exact .inl h'
  ·exact .inr ⟨y,v,dd,h1,h2,by rw [yZ5 (hd i c q' h (by rw [h1]; intro z; cases z) dd h2)]; exact h3,h4,h5⟩
/-- what a place that was new is not -/
theorem Stt.fresh (st : Stt B e W sg H F eta) {p : Addr} (hp : H p = none) : B.xH p = none:=by
 cases h : B.xH p with
 | none=>rfl
 | some u =>
  by_cases hm : p ∈ B.xeta
  ·exact absurd hp (st.ok.there (st.xx.pre.subset hm))
  ·rw [st.xx.keep p u h hm] at hp
   cases hp
def canI (B : Tb) (f : Env → Wd → R (List D × Bool)) : TI:=fun sg H Q => ∃ (e : Env) (W : Wd) (F : Hp) (eta : List Addr),Stt B e W sg H F eta ∧
 (f e W).wp B.xq (fun ds W' => ∀ (J : L2.It) (H' F' : Hp) (eta' : List Addr),OkH B F' eta' W' H' → Ext F eta H F' eta' H' → IterOk B J ds.1 (Per B e sg F' eta' ds.2) → Q J H')
theorem ItOk.can {f : Env → Wd → R (List D × Bool)} (h : ItOk B X tg py f) : PI X tg py (canI B f):=by
 obtain ⟨t,h,k⟩:=h
 exact ⟨fun pins s σ H Q I ⟨e,W,F,eta,st,q⟩=>h.run pins s σ H Q I (k e W σ H F eta Q st q)⟩
/-- a target's slots: values,or what was there -/
def TgOnly (tgf : D → Env → Option Env) : Prop := ∀ (d : D) (e e' : Env) (i : Nat) (z : Slot),tgf d e = some e' → e'[i]? = some z → (∃ x,z = .val x) ∨ e[i]? = some z
theorem zZJU {elt : Env → Wd → R D} {it2 : Env → Wd → R (List D × Bool)} {tgf tgf2 : D → Env → Option Env} {ns ns2 : List Nat} {J : L2.It} {ds : List D} {b : Bool} {F1 H1 : Hp} {eta1 : List Addr} {W1 : Wd} {Dn : Addr} {Qd : Hp → Prop}
  (hxk : ∀ i ∈ ns,i ∉ B.xk) (hxk2 : ∀ i ∈ ns2,i ∉ B.xk) (hto : TgOnly tgf) (st1 : Stt B e W1 sg H1 F1 eta1) (it : IterOk B J ds (Per B e sg F1 eta1 b)) (hD : H1 Dn = none)
  (k : (comp2L (fun d=>tgf d (wipeE e ns)) it2 (fun d e2=>tgf2 d (wipeE e2 ns2)) elt 0 ds W1).wp B.xq fun xs W' => ∀ (vs : List V) (H' F' : Hp) (eta' : List Addr),OkH B F' eta' W' H' → Ext F1 eta1 H1 F' eta' H' → H' Dn = some (.lst vs) → F' Dn = none → Dn ∉ eta' → RepL B F' eta' xs vs → Qd H') :
  ∃ W : Nat → Nat → Hp → Prop,(∃ m,W 0 m (upd H1 Dn (.lst []))) ∧ ∀ i m H,W i m H →
 (J.stop i H ∧ Qd H) ∨ (J.go i H ∧ ∃ Nx : Hp → Prop,(∀ H',Nx H' → ∃ m',m' < m ∧ W (i + 1) m' H') ∧ ∀ x H',J.yld i H x H' → canG B.mute tgf ns x (wipe sg ns) H' fun σ2 H2=>wipe σ2 ns = wipe sg ns ∧ canT B.mute (fun _ W=>.ok true W) σ2 H2 fun b H3 =>
  if b = true then canI B.mute it2 σ2 H3 fun J1 H4 => ∃ W1 : Nat → Nat → Hp → Prop,(∃ m,W1 0 m H4) ∧ ∀ j k H,W1 j k H →
   (J1.stop j H ∧ Nx H) ∨ (J1.go j H ∧ ∃ Nx1 : Hp → Prop,(∀ H',Nx1 H' → ∃ k',k' < k ∧ W1 (j + 1) k' H') ∧ ∀ x H',J1.yld j H x H' → canG B.mute tgf2 ns2 x (wipe σ2 ns2) H' fun σ3 H5=>wipe σ3 ns2 = wipe σ2 ns2 ∧ canT B.mute (fun _ W=>.ok true W) σ3 H5 fun b H6 =>
    if b = true then canE B.mute elt σ3 H6 fun y H7 => ∃ acc,H7 Dn = some (.lst acc) ∧ acc.length < sizeLine ∧ Nx1 (upd H7 Dn (.lst (acc ++ [y]))) else Nx1 H6)
  else Nx H3):=by
 have hxH:=st1.fresh hD
 -- what a place of the frame's own is at the start
 have own1 : ∀ (i : Nat) (z : Slot) (a : Addr),e[i]? = some z → z.owned = true → sg[i]? = some (some (V.ref a)) → a ≠ Dn:=by
  intro i z a h ho hs
  have q:=st1.sl i z h
  cases z with
  | no=>cases ho
  | val d=>cases ho
  | xv c p=>cases ho
  | ol xs=>obtain ⟨a',vs,h1,h2,_⟩:=q; rw [hs] at h1; cases h1; exact ne_of_none h2 hD
  | oi c fs=>obtain ⟨a',dx,gs,h1,h2,_⟩:=q; rw [hs] at h1; cases h1; exact ne_of_none h2 hD
  | od kvs=>obtain ⟨a',xs,ep,h1,h2,_⟩:=q; rw [hs] at h1; cases h1; exact ne_of_none h2 hD
 let Good : Nat → Hp → Prop:=fun i H => ∃ (F : Hp) (eta : List Addr) (Wc : Wd) (acc : List V) (accD : List D),OkH B F eta Wc H ∧ Ext F1 eta1 H1 F eta H ∧ H Dn = some (.lst acc) ∧ F Dn = none ∧ Dn ∉ eta ∧ RepL B F eta accD acc ∧
  (comp2L (fun d=>tgf d (wipeE e ns)) it2 (fun d e2=>tgf2 d (wipeE e2 ns2)) elt accD.length (ds.drop i) Wc).wp B.xq fun xs W' => ∀ (vs : List V) (H' F' : Hp) (eta' : List Addr),OkH B F' eta' W' H' → Ext F1 eta1 H1 F' eta' H' → H' Dn = some (.lst vs) → F' Dn = none → Dn ∉ eta' → RepL B F' eta' (accD ++ xs) vs → Qd H'
 refine ⟨fun i m H=>m = ds.length - i ∧ i ≤ ds.length ∧ Good i H,⟨ds.length,by simp,Nat.zero_le _,F1,eta1,W1,[],[],st1.ok.new hD,Ext.new hD,upd_same,st1.ok.notF hD,st1.ok.notE hD,.nil, ?_⟩, ?_⟩
 ·simpa using k
 rintro i m H ⟨rfl,hi,F,eta,Wc,acc,accD,o,x,hDn,hF,hE,rl,kk⟩
 have per : Per B e sg F1 eta1 b F eta H:=⟨x.sub,x.pre,fun _=>⟨Wc,st1.ext x o⟩⟩
 -- the new list stays
 have stay : ∀ {F F' H H' : Hp} {eta eta' : List Addr} {acc : List V},Ext F eta H F' eta' H' → H Dn = some (.lst acc) → F Dn = none → Dn ∉ eta → H' Dn = some (.lst acc) ∧ F' Dn = none ∧ Dn ∉ eta':=by
  intro F F' H H' eta eta' acc x h1 h2 h3
  refine ⟨x.keep Dn _ h1 h3, ?_,fun z => ?_⟩
  ·cases q : F' Dn with
   | none=>rfl
   | some u =>
    rcases x.newF Dn (by rw [q]; simp) with z | z
    ·exact absurd h2 z
    ·rw [h1] at z; cases z
  ·rcases x.newE Dn z with q | q
   ·exact h3 q
   ·rw [h1] at q; cases q
 by_cases hlt : i < ds.length
 ·obtain ⟨go,yl⟩:=it.step i ds[i] F eta Wc H (by simp [hlt]) o per
  refine .inr ⟨go,Good (i + 1),fun H' p'=>⟨ds.length - (i + 1),by omega,rfl,hlt,p'⟩,fun v H2 y => ?_⟩
  obtain ⟨F2,o2,x2,r2⟩:=yl v H2 y
  have y2:=Ext.trans st1.ok o x x2
  have st2:=(st1.ext y2 o2).wipe ns hxk
  rw [List.drop_eq_getElem_cons hlt] at kk
  unfold comp2L at kk
  rw [R.wp_bind] at kk
  obtain ⟨e2,q,kk⟩:=zZB kk
  obtain ⟨hD2,hF2,hE2⟩:=stay x2 hDn hF hE
  refine ⟨ds[i],_,e2,Wc,F2,eta,st2.mute,r2,q,fun sg3 st3 w3=>⟨?_, ?_⟩⟩
  ·have:=w3 ns fun i h=>h
   rw [this]
   exact xZ1 sg ns ns fun i h=>h
  ·refine ⟨e2,Wc,F2,eta,st3, ?_⟩
   rw [R.wp_ok]
   intro H4 F4 eta4 o4 x4
   refine iteT ?_
   have y4:=Ext.trans st1.ok o2 y2 x4
   obtain ⟨hD4,hF4,hE4⟩:=stay x4 hD2 hF2 hE2
   have st4:=st3.ext x4 o4
   rw [R.wp_bind] at kk
   replace kk:=R.wp_calm (y:=B.mute.xq) kk
   refine ⟨e2,Wc,F4,eta4,st4,R.wp_mono kk fun ys W5 kk J1 H5 F5 eta5 o5 x5 it5 => ?_⟩
   have y5:=Ext.trans st1.ok o4 y4 x5
   obtain ⟨hD5,hF5,hE5⟩:=stay x5 hD4 hF4 hE4
   have st5:=(st4.ext x5 o5).unmute
   by_cases hy : accD.length + ys.1.length ≤ cap
   case neg=>rw [if_neg hy] at kk; exact kk.elim
   rw [if_pos hy,R.wp_bind] at kk
   -- the places of the frame in the inner loop
   have sEq : ∀ i,i ∉ ns → sg3[i]? = sg[i]? := fun i hi=>by
    have this : (L2.wipe sg3 ns)[i]? = (L2.wipe (L2.wipe sg ns) ns)[i]? := by rw [w3 ns fun i h=>h]
    rw [yZo hi,xZ1 sg ns ns fun i h=>h,yZo hi] at this
    exact this
   have eEq : ∀ (j : Nat) (z : Slot),e2[j]? = some z → (∀ d,z ≠ .val d) → z ≠ .no → j ∉ ns ∧ e[j]? = some z:=fun j z hz hv hno=>by
    rcases hto _ _ _ j z q hz with ⟨x,rfl⟩ | h2
    ·exact absurd rfl (hv x)
    ·rcases zZBS h2 with h3 | ⟨h3,h4⟩
     ·exact absurd h3 hno
     ·exact ⟨h4,h3⟩
   have sto : Stt B e2 W5 sg3 (DL.off H5 Dn) F5 eta5:=by
    refine st5.off hF5 hE5 hxH (fun j z a hz ho hs => ?_) (fun j c q' hz hq dd hdd => ?_)
    ·obtain ⟨h1,h2⟩:=eEq j z hz (fun d h=>by rw [h] at ho; cases ho) (fun h=>by rw [h] at ho; cases ho)
     rw [sEq j h1] at hs
     exact own1 j z a h2 ho hs
    ·obtain ⟨h1,h2⟩:=eEq j _ hz (fun d h=>by cases h) (fun h=>by cases h)
     obtain ⟨_,_,h3⟩:=st1.sl j _ h2
     rcases h3 with ⟨h3,_⟩ | ⟨y',v',dd',g1,g2,g3,_⟩
     ·exact absurd h3 hq
     ·rw [hdd] at g2
      cases g2
      exact ne_of_none g3 hD
   have rl5:=rl.mono ((x2.sub.trans x4.sub).trans x5.sub) (x4.pre.trans x5.pre)
   let Good2 : Nat → Hp → Prop:=fun j H => ∃ (F : Hp) (eta : List Addr) (Wc : Wd) (acc : List V) (accD2 : List D),OkH B F eta Wc H ∧ Ext F1 eta1 H1 F eta H ∧ Ext F5 eta5 (DL.off H5 Dn) F eta H ∧ H Dn = some (.lst acc) ∧ F Dn = none ∧ Dn ∉ eta ∧ RepL B F eta (accD ++ accD2) acc ∧ accD2.length ≤ j ∧
    (compK (fun _=>true) (fun d=>tgf2 d (wipeE e2 ns2)) elt (ys.1.drop j) Wc).wp B.xq fun xs W6 => ∀ (vs : List V) (H' F' : Hp) (eta' : List Addr),OkH B F' eta' W6 H' → Ext F1 eta1 H1 F' eta' H' → H' Dn = some (.lst vs) → F' Dn = none → Dn ∉ eta' → RepL B F' eta' (accD ++ (accD2 ++ xs)) vs → Good (i + 1) H'
   refine ⟨fun j k H=>k = ys.1.length - j ∧ j ≤ ys.1.length ∧ Good2 j H,⟨ys.1.length,by simp,Nat.zero_le _,F5,eta5,W5,acc,[],o5,y5,⟨SubH.refl _,List.prefix_refl _,fun a u h _=>(zZIQ h).2,fun _ h=>.inl h,fun _ h=>.inl h⟩,hD5,hF5,hE5,by rw [List.append_nil]; exact rl5,by simp, ?_⟩, ?_⟩
   ·rw [List.drop_zero]
    refine R.wp_mono kk fun xs W6 kk vs H' F' eta' o' x' h1 h2 h3 h4=>⟨F',eta',W6,vs,accD ++ xs,o',x',h1,h2,h3,by simpa using h4, ?_⟩
    rw [R.wp_bind] at kk
    rw [List.length_append]
    refine R.wp_mono kk fun zs W7 kk vs' H'' F'' eta'' o'' x'' g1 g2 g3 g4 => ?_
    rw [R.wp_ok] at kk
    exact kk vs' H'' F'' eta'' o'' x'' g1 g2 g3 (by rw [← List.append_assoc]; exact g4)
   rintro j k H ⟨rfl,hj,F6,eta6,W6,acc6,accD2,o6,y6,z6,hD6,hF6,hE6,rl6,hl6,kk6⟩
   have per6 : Per B.mute e2 sg3 F5 eta5 ys.2 F6 eta6 H:=⟨z6.sub,z6.pre,fun _=>⟨W6,(sto.ext z6 o6).mute⟩⟩
   by_cases hjt : j < ys.1.length
   ·obtain ⟨go1,yl1⟩:=it5.step j ys.1[j] F6 eta6 W6 H (by simp [hjt]) o6 per6
    refine .inr ⟨go1,Good2 (j + 1),fun H' p'=>⟨ys.1.length - (j + 1),by omega,rfl,hjt,p'⟩,fun v7 H7 yy => ?_⟩
    obtain ⟨F7,o7,x7,r7⟩:=yl1 v7 H7 yy
    have y7:=Ext.trans st1.ok o6 y6 x7
    have z7:=Ext.trans sto.ok o6 z6 x7
    obtain ⟨hD7,hF7,hE7⟩:=stay x7 hD6 hF6 hE6
    have st7:=(sto.ext z7 o7).wipe ns2 hxk2
    rw [List.drop_eq_getElem_cons hjt] at kk6
    unfold compK at kk6
    rw [if_pos rfl,R.wp_bind] at kk6
    obtain ⟨e3,q3,kk6⟩:=zZB kk6
    refine ⟨ys.1[j],_,e3,W6,F7,eta6,st7.mute,r7,q3,fun sg8 st8 w8=>⟨?_, ?_⟩⟩
    ·rw [w8 ns2 fun i h=>h]
     exact xZ1 sg3 ns2 ns2 fun i h=>h
    ·refine ⟨e3,W6,F7,eta6,st8, ?_⟩
     rw [R.wp_ok]
     intro H9 F9 eta9 o9 x9
     refine iteT ?_
     have y9:=Ext.trans st1.ok o7 y7 x9
     have z9:=Ext.trans sto.ok o7 z7 x9
     obtain ⟨hD9,hF9,hE9⟩:=stay x9 hD7 hF7 hE7
     rw [R.wp_bind] at kk6
     replace kk6:=R.wp_calm (y:=B.mute.xq) kk6
     refine ⟨e3,W6,F9,eta9,st8.ext x9 o9,R.wp_mono kk6 fun d10 W10 kk6 w10 H10 F10 eta10 o10 x10 r10 => ?_⟩
     have y10:=Ext.trans st1.ok o9 y9 x10
     have z10:=Ext.trans sto.ok o9 z9 x10
     obtain ⟨hD10,hF10,hE10⟩:=stay x10 hD9 hF9 hE9
     have hl : acc6.length < sizeLine:=by
      rw [← rl6.length,List.length_append]
      exact Nat.lt_of_lt_of_le (show accD.length + accD2.length < cap by omega) zZc
     refine ⟨acc6,hD10,hl,F10,eta10,W10,acc6 ++ [w10],accD2 ++ [d10],o10.writeO hF10 hE10,⟨y10.sub,y10.pre,fun a u ha hn => ?_,y10.newF,y10.newE⟩,⟨z10.sub,z10.pre,fun a u ha hn => ?_,z10.newF,z10.newE⟩,upd_same,hF10,hE10, ?_,by simp; omega, ?_⟩
     ·rw [upd_ne (ne_of_none ha hD)]
      exact y10.keep a u ha hn
     ·rw [upd_ne (zZIQ ha).1]
      exact z10.keep a u ha hn
     ·rw [← List.append_assoc]
      exact (rl6.mono ((x7.sub.trans x9.sub).trans x10.sub) (x9.pre.trans x10.pre)).append (.cons r10 .nil)
     ·rw [R.wp_bind] at kk6
      refine R.wp_mono kk6 fun xs W11 kk6 vs H' F' eta' o' x' h1 h2 h3 h4 => ?_
      rw [R.wp_ok] at kk6
      refine kk6 vs H' F' eta' o' x' h1 h2 h3 ?_
      simpa using h4
   ·have ei : j = ys.1.length:=by omega
    subst ei
    rw [List.drop_length] at kk6
    unfold compK at kk6
    rw [if_pos rfl,R.wp_ok,List.append_nil] at kk6
    exact .inl ⟨it5.stop F6 eta6 W6 H o6 per6,kk6 acc6 H F6 eta6 o6 y6 hD6 hF6 hE6 rl6⟩
 ·have ei : i = ds.length:=by omega
  subst ei
  rw [List.drop_length] at kk
  unfold comp2L at kk
  rw [R.wp_ok,List.append_nil] at kk
  exact .inl ⟨it.stop F eta Wc H o per,kk acc H F eta o x hDn hF hE rl⟩
theorem GOk.more {f : D → Env → Option Env} {ns ns' : List Nat} (h : GOk B X tg f ns) (hs : ∀ i ∈ ns,i ∈ ns') (hx : ∀ i ∈ ns',i ∉ B.xk) : GOk B X tg f ns':=by
 obtain ⟨_,t,h,k⟩:=h
 exact ⟨hx,t,h,fun d v e e' W sg H F eta Q st r q kk=>k d v e e' W sg H F eta Q st r q fun sg' st' w=>kk sg' st' fun vs hv=>w vs fun i hi=>hv i (hs i hi)⟩
mutual
theorem zZEn : ∀ (t : Tg) (d : D) (e e' : Env) (i : Nat) (z : Slot),tgD t d e = some e' → e'[i]? = some z → (∃ x,z = .val x) ∨ e[i]? = some z
 | .nm j,d,e,e',i,z,h,hz=>by
  unfold tgD at h
  split at h
  ·cases h
   by_cases hj : j = i
   ·subst hj
    rename_i hl
    rw [List.getElem?_set_self hl] at hz
    cases hz
    exact .inl ⟨_,rfl⟩
   ·rw [List.getElem?_set_ne hj] at hz
    exact .inr hz
  ·cases h
 | .tup ts,d,e,e',i,z,h,hz=>by
  cases d with
  | tup xs=>exact zZDe ts xs e e' i z h hz
  | tupz xs=>exact zZDe ts xs e e' i z h hz
  | _=>simp [tgD] at h
theorem zZDe : ∀ (ts : Tgs) (ds : List D) (e e' : Env) (i : Nat) (z : Slot),tgsD ts ds e = some e' → e'[i]? = some z → (∃ x,z = .val x) ∨ e[i]? = some z
 | .nil,[],e,e',i,z,h,hz=>by
  cases h
  exact .inr hz
 | .nil,_ :: _,e,e',i,z,h,hz=>by cases h
 | .cons t ts,[],e,e',i,z,h,hz=>by cases h
 | .cons t ts,x :: xs,e,e',i,z,h,hz=>by
  have h : (tgD t x e).bind (fun e=>tgsD ts xs e) = some e':=h
  obtain ⟨e1,h1,h2⟩:=Option.bind_eq_some_iff.mp h
  rcases zZDe ts xs e1 e' i z h2 hz with g | g
  ·exact .inl g
  ·exact zZEn t x e e1 i z h1 g
end
def comp2F (elt : Env → Wd → R D) (tgf : D → Env → Option Env) (ns : List Nat) (fi : Env → Wd → R (List D × Bool)) (tgf2 : D → Env → Option Env) (ns2 : List Nat) (fi2 : Env → Wd → R (List D × Bool)) : Env → Wd → R (List D):=fun e W=>(fi e W).bind fun ds W=>comp2L (fun d=>tgf d (wipeE e (ns ++ ns2))) fi2 (fun d e2=>tgf2 d (wipeE e2 ns2)) elt 0 ds.1 W
theorem zZFr {elt : Env → Wd → R D} {tgf tgf2 : D → Env → Option Env} {ns ns2 : List Nat} {fi fi2 : Env → Wd → R (List D × Bool)} {wi : TI} (hto : TgOnly tgf)
  (hxk : ∀ i ∈ ns ++ ns2,i ∉ B.xk) (ki : ∀ (e : Env) (W : Wd) (sg : L2.St) (H F : Hp) (eta : List Addr) (Q : L2.It → Hp → Prop),Stt B e W sg H F eta →
   (fi e W).wp B.xq (fun ds W' => ∀ (J : L2.It) (H' F' : Hp) (eta' : List Addr),OkH B F' eta' W' H' → Ext F eta H F' eta' H' → IterOk B J ds.1 (Per B e sg F' eta' ds.2) → Q J H') → wi sg H Q)
  (e : Env) (W : Wd) (sg : L2.St) (H F : Hp) (eta : List Addr) (Q : VK) (s : Stt B e W sg H F eta)
  (k : (comp2F elt tgf ns fi tgf2 ns2 fi2 e W).wp B.xq (fun ds W' => ∀ (a : Addr) (vs : List V) (H' F' : Hp) (eta' : List Addr),OkH B F' eta' W' H' → Ext F eta H F' eta' H' → H a = none → H' a = some (.lst vs) → F' a = none → a ∉ eta' → RepL B F' eta' ds vs → Q (.ref a) H')) :
  tLc2 wi (canG B.mute tgf (ns ++ ns2)) (canT B.mute fun _ W=>.ok true W) (canI B.mute fi2) (canG B.mute tgf2 ns2) (canT B.mute fun _ W=>.ok true W) (canE B.mute elt) (ns ++ ns2) ns2 sg H Q:=by
 refine ki e W sg H F eta _ s ?_
 unfold comp2F at k
 rw [R.wp_bind] at k
 refine R.wp_mono k fun ds W1 k J H1 F1 eta1 o1 x1 it Dn hD => ?_
 refine zZJU hxk (fun i hi=>hxk i (List.mem_append_right _ hi)) hto (s.ext x1 o1) it hD (R.wp_mono k fun xs W2 k vs H' F' eta' o' x' h1 h2 h3 h4 => ?_)
 exact k Dn vs H' F' eta' o' (Ext.trans s.ok o1 x1 x') (x1.there s.ok o1 hD) h1 h2 h3 h4
theorem zZLL {tg2 pelt iter iter2 : Expr} {scope : Scope} {elt : Env → Wd → R D} {tgf tgf2 : D → Env → Option Env} {ns ns2 : List Nat} {fi fi2 : Env → Wd → R (List D × Bool)} (hto : TgOnly tgf)
  (hxk : ∀ i ∈ ns ++ ns2,i ∉ B.xk) (hc : X.calm = true) (hN : X.N.Nodup) (hb : blkC X.N X.env.scope scope (ownOf X.N (ns ++ ns2)) = true) (hs : ∀ x,foldedSetIterable iter X.env x = pure x) (hs2 : ∀ env x,foldedSetIterable iter2 env x = pure x)
  (hi : ItOk B X tg iter fi) (hg : ∀ X',Blk X scope X' → GOk B.mute X' tg tgf ns) (hi2 : ∀ X',Blk X scope X' → ItOk B.mute X' tg2 iter2 fi2) (hg2 : ∀ X',Blk X scope X' → GOk B.mute X' tg2 tgf2 ns2) (he : ∀ X',Blk X scope X' → EOk B.mute X' pelt elt) :
  FOk B X (.ListComp pelt [⟨tg,iter,[],0⟩,⟨tg2,iter2,[],0⟩] scope pos) (comp2F elt tgf ns fi tgf2 ns2 fi2):=by
 obtain ⟨wi,hi,ki⟩:=hi
 have h:=pe_lc2 (pos:=pos) (own:=ownOf X.N (ns ++ ns2)) (vs1:=ns2) hc hN hi (blkOk_by hb) (fun i hi=>by rw [yZY]; exact List.mem_append_right _ hi) (fun s H C cl fp=>((hg _ ⟨s,H,C,cl,fp,rfl⟩).more (fun i hi=>List.mem_append_left ns2 hi) hxk).can) (fun s H C cl fp=>(zZCH : QOk B.mute _ [] _)) (fun s H C cl fp=>(hi2 _ ⟨s,H,C,cl,fp,rfl⟩).can) (fun s H C cl fp=>(hg2 _ ⟨s,H,C,cl,fp,rfl⟩).can) (fun s H C cl fp=>(zZCH : QOk B.mute _ [] _)) (fun s H C cl fp=>(he _ ⟨s,H,C,cl,fp,rfl⟩).can) hs hs2
 rw [yZY] at h
 exact ⟨_,h,fun e W sg H F eta Q s k=>zZFr hto hxk ki e W sg H F eta Q s k⟩
theorem zZKu {tg2 pelt iter iter2 : Expr} {scope : Scope} {elt : Env → Wd → R D} {tgf tgf2 : D → Env → Option Env} {ns ns2 : List Nat} {fi fi2 : Env → Wd → R (List D × Bool)} {i : Nat} {y : Str} {py spos : Pos} (hto : TgOnly tgf)
  (hxk : ∀ i ∈ ns ++ ns2,i ∉ B.xk) (hc : X.calm = true) (hN : X.N.Nodup) (hy : X.N[i]? = some y) (hyl : X.env.scope.names.lookup y = some .local)
  (hsw : swapsWith (.ListComp pelt [⟨tg,iter,[],0⟩,⟨tg2,iter2,[],0⟩] scope pos) (some (.Name y py)) spos.line X.env = pure true) (hb : blkC X.N X.env.scope scope (ownOf X.N (ns ++ ns2)) = true) (hs : ∀ x,foldedSetIterable iter X.env x = pure x) (hs2 : ∀ env x,foldedSetIterable iter2 env x = pure x)
  (hi : ItOk B X tg iter fi) (hg : ∀ X',Blk X scope X' → GOk B.mute X' tg tgf ns) (hi2 : ∀ X',Blk X scope X' → ItOk B.mute X' tg2 iter2 fi2) (hg2 : ∀ X',Blk X scope X' → GOk B.mute X' tg2 tgf2 ns2) (he : ∀ X',Blk X scope X' → EOk B.mute X' pelt elt) :
  ∃ t : TE,PS X (.Assign [.Name y py] (.ListComp pelt [⟨tg,iter,[],0⟩,⟨tg2,iter2,[],0⟩] scope pos) spos) (tAsg t (gName i)) ∧ ∀ (e : Env) (W : Wd) (sg : L2.St) (H F : Hp) (eta : List Addr) (Q : VK),Stt B e W sg H F eta →
   (comp2F elt tgf ns fi tgf2 ns2 fi2 e W).wp B.xq (fun ds W' => ∀ (a : Addr) (vs : List V) (H' F' : Hp) (eta' : List Addr),OkH B F' eta' W' H' → Ext F eta H F' eta' H' → H a = none → H' a = some (.lst vs) → F' a = none → a ∉ eta' → RepL B F' eta' ds vs → Q (.ref a) H') → t sg H Q:=by
 obtain ⟨wi,hi,ki⟩:=hi
 have h:=ps_setLc2 (own:=ownOf X.N (ns ++ ns2)) (vs1:=ns2) hc hN hy hyl hsw hi (blkOk_by hb) (fun i hi=>by rw [yZY]; exact List.mem_append_right _ hi) (fun s H C cl fp=>((hg _ ⟨s,H,C,cl,fp,rfl⟩).more (fun i hi=>List.mem_append_left ns2 hi) hxk).can) (fun s H C cl fp=>(zZCH : QOk B.mute _ [] _)) (fun s H C cl fp=>(hi2 _ ⟨s,H,C,cl,fp,rfl⟩).can) (fun s H C cl fp=>(hg2 _ ⟨s,H,C,cl,fp,rfl⟩).can) (fun s H C cl fp=>(zZCH : QOk B.mute _ [] _)) (fun s H C cl fp=>(he _ ⟨s,H,C,cl,fp,rfl⟩).can) hs hs2
 rw [yZY] at h
 exact ⟨_,h,fun e W sg H F eta Q s k=>zZFr hto hxk ki e W sg H F eta Q s k⟩
end
end DL
set_option maxRecDepth 100000
set_option maxHeartbeats 4000000
namespace DL
open PySem PySem.Spec PyProof.Rows
open L2 hiding St
structure Zs where
 anm : Nat → Str
 fnm : Nat → Option Str
 cnm : Nat → Option Str
 blt : List Str
 gi : List (Str × Int)
 xnm : Nat → Option Str
 rnm : Nat → Option Str
 enm : Nat → Option Str
 hnm : Nat → Option Str
structure Sx where
 N : List Str
 nms : List (Str × NameKind)
 top : Bool:=true
 kept : List Nat:=[]
 hot : Bool:=false
def visB : Option NameKind → Bool
 | some .local=>true | some .cell=>true | some .free=>true | _=>false
def nmOk (x : Str) : Bool := !(x == ("__debug__" : Str)) && !(x == ("__classdict__" : Str))
def chkV (S : Sx) (i : Nat) (x : Str) : Bool:=decide (S.N[i]? = some x) && (visB (S.nms.lookup x) && nmOk x)
def chkL (S : Sx) (i : Nat) (x : Str) : Bool:=(decide (S.N[i]? = some x) && !S.kept.contains i) && (decide (S.nms.lookup x = some .local) || (S.top && decide (S.nms.lookup x = some .cell)))
def chkG (S : Sx) (x : Str) : Bool:=decide (S.nms.lookup x = some .globalImplicit) && nmOk x
def chkB (Z : Zs) (S : Sx) (x : Str) : Bool:=chkG S x && Z.blt.contains x
def relab (nms : List (Str × NameKind)) (l : List (Str × NameKind)) : List (Str × NameKind):=l.map fun (n,k)=>if (k == .free && nms.lookup n == some .cell) then (n,.cell) else (n,k)
def Sx.inner (S : Sx) (sc : Scope) : Sx:=⟨S.N,relab S.nms sc.names,false,S.kept,S.hot⟩
def abOk : Expr → Bool
 | .Call _ [] _ _=>false | _=>true
def ixOk : Expr → Bool
 | .Slice _ _ _ _=>false | _=>true
def isTup : Expr → Bool
 | .Tuple _ _ _=>true | _=>false
def notSet : Expr → Bool
 | .Set _ _ _=>false | _=>true
def blkB (S : Sx) (scope : Scope) (ns : List Nat) : Bool:=blkC S.N { scope with names:=S.nms } scope (ownOf S.N ns)
def E.isIfe : E → Bool
 | _=>false
def E.isVar : E → Bool
 | .var _=>true | _=>false
def Es.isNil : Es → Bool
 | .nil=>true | _=>false
def noKw : List Keyword → Bool
 | []=>true | _=>false
def coldK (S : Sx) (ks : List Keyword) : Bool := !S.hot && noKw ks
theorem ck1 {S : Sx} {ks : List Keyword} (h : coldK S ks = true) : S.hot = false:=by
 unfold coldK at h
 simp only [Bool.and_eq_true,Bool.not_eq_true'] at h
 exact h.1
theorem ck2 {S : Sx} {ks : List Keyword} (h : coldK S ks = true) : noKw ks = true:=by
 unfold coldK at h
 simp only [Bool.and_eq_true] at h
 exact h.2
def chkT (t : E) (b : Bool) : Bool := !t.isIfe && b
mutual
def chkTg : Tg → Sx → Expr → Bool
 | .nm i,S,py=>match py with | .Name x _=>chkL S i x | _=>false
 | .tup ts,S,py=>match py with | .Tuple es _ _=>(!S.hot && es.all notStar) && chkTgs ts S es | _=>false
def chkTgs : Tgs → Sx → List Expr → Bool
 | .nil,_,py=>match py with | []=>true | _=>false
 | .cons t ts,S,py=>match py with | p :: ps=>chkTg t S p && chkTgs ts S ps | _=>false
end
/-- a mutable list,walked -/
def chkIcF (Z : Zs) (f : Expr → Bool) (en : Bool) (S : Sx) (tg py : Expr) : Bool :=
 if en then (match py with | .Call (.Name x _) [p] ks _=>(noKw ks && (decide (("enumerate" : Str) = x) && chkB Z S x)) && ((isTup tg && notStar p) && f p) | _=>false) else f py
mutual
def chkE (Z : Zs) : E → Sx → Expr → Bool
 | .non,_,py=>match py with | .Constant .none _ _=>true | _=>false
 | .bl b,_,py=>match py with | .Constant (.bool c) _ _=>decide (b = c) | _=>false
 | .int i,S,py=>match py with | .Constant (.int j) _ _=>decide (i = j) | .Name x _=>chkG S x && decide (Z.gi.lookup x = some i) | _=>false
 | .str s,_,py=>match py with | .Constant (.str t) _ _=>decide (s = t) | _=>false
 | .var i,S,py=>match py with | .Name x _=>chkV S i x | _=>false
 | .bin op a b,S,py=>match py with | .BinOp l o r _=>decide (o = pyOp op) && (chkE Z a S l && chkE Z b S r) | _=>false
 | .cmp op a b,S,py=>match py with | .Compare l [o] [r] _=>(decide (o = pyCm op) && !(behindInMarks o r)) && (chkE Z a S l && chkE Z b S r) | _=>false
 | .chain o1 o2 a b c,S,py=>match py with
  | .Compare l [p1,p2] [m,r] _=>(decide (p1 = pyCm o1) && decide (p2 = pyCm o2)) && ((decide (p1 ≠ .In ∧ p1 ≠ .NotIn ∧ p2 ≠ .In ∧ p2 ≠ .NotIn)) && (chkE Z a S l && (chkE Z b S m && chkE Z c S r)))
  | _=>false
 | .and es,S,py=>match py with | .BoolOp .And ps _ => !es.isNil && chkA Z es S ps | _=>false
 | .or es,S,py=>match py with | .BoolOp .Or ps _ => !es.isNil && chkA Z es S ps | _=>false
 | .not a,S,py=>match py with | .UnaryOp .Not l _=>chkT a (chkE Z a S l) | _=>false
 | .fld f a,S,py=>match py with | .Attribute o nm _=>(decide (Z.anm f = nm) && abOk o) && chkE Z a S o | _=>false
 | .idx a b,S,py=>match py with | .Subscript l r _=>ixOk r && (chkE Z a S l && chkE Z b S r) | _=>false
 | .sl a lo hi,S,py=>match py with | .Subscript l (.Slice x y none _) _=>chkE Z a S l && (chkO Z lo S x && chkO Z hi S y) | _=>false
 | .tup es,S,py=>match py with | .Tuple ps _ _=>chkEs Z es S ps | _=>false
 | .frz f,S,py=>chkF Z f S py
 | .cell f,S,py=>chkF Z f S py
 | .call f es,S,py=>match py with
  | .Call (.Name x _) ps ks _=>((noKw ks && chkG S x) && (if S.hot then decide (Z.hnm f = some x) && (ps.all notStar && !ps.isEmpty) else decide (Z.fnm f = some x))) && (headOk ps && chkEs Z es S ps)
  | _=>false
 | .make c es,S,py=>match py with
  | .Call (.Name x _) (p :: ps) ks _=>(coldK S ks && (decide (Z.cnm c = some x) && chkG S x)) && ((p :: ps).all notStar && chkEs Z es S (p :: ps))
  | _=>false
 | .meth m a es,S,py=>match py with
  | .Call (.Attribute o nm apos) ps ks pos=>(coldK S ks && (decide (Z.anm m = nm) && abOk o)) && (((apos.endLine == pos.line) && (ps.all notStar && decide (ps.length < 30))) && (chkE Z a S o && chkEs Z es S ps))
  | _=>false
 | .b1 b a,S,py=>match py with | .Call (.Name x _) [p] ks _=>((if isConv b then noKw ks else coldK S ks) && (decide (b1nm b = x) && chkB Z S x)) && (notStar p && chkE Z a S p) | _=>false
 | .isi a t,S,py=>match py with
  | .Call (.Name x _) [p,.Name y _] ks _=>(noKw ks && (decide (("isinstance" : Str) = x) && chkB Z S x)) && ((decide ((tyNm t : Str) = y) && chkB Z S y) && (notStar p && chkE Z a S p))
  | _=>false
 | .index a b,S,py=>match py with
  | .Call (.Attribute o nm apos) [p] ks pos=>(noKw ks && (decide (("index" : Str) = nm) && abOk o)) && (((apos.endLine == pos.line) && notStar p) && (chkE Z a S o && chkE Z b S p))
  | _=>false
 | .ixd a b,S,py=>match py with
  | .Call (.Attribute o nm apos) [p] ks pos=>(noKw ks && (decide (("index" : Str) = nm) && abOk o)) && (((apos.endLine == pos.line) && notStar p) && (chkE Z a S o && chkE Z b S p))
  | _=>false
 | .ind neg a b,S,py=>match py with | .Compare l [o] [r] _=>(decide (o = inOp neg) && !(behindInMarks o r)) && (chkE Z a S l && chkE Z b S r) | _=>false
 | .isw a t,S,py=>match py with
  | .Call (.Name x _) [p,.Name y _] ks _=>(noKw ks && (decide (("isinstance" : Str) = x) && chkB Z S x)) && ((decide ((tyNm t : Str) = y) && chkB Z S y) && (notStar p && chkE Z a S p))
  | _=>false
 | .dsp ks vs,S,py=>match py with | .Dict keys vals _=>decide (keys.length ≤ 15) && chkD Z vs ks S keys vals | _=>false
 | .dgc a b,S,py=>match py with | .Subscript l r _=>ixOk r && (chkE Z a S l && chkE Z b S r) | _=>false
 | .dtg a b,S,py=>match py with | .Subscript l r _=>ixOk r && (chkE Z a S l && chkE Z b S r) | _=>false
/-- the parts of an f-string -/
def chkFs (Z : Zs) : Es → Sx → List Expr → Bool
 | .nil,_,py=>match py with | []=>true | _=>false
 | .cons a es,S,py=>match py with
  | .Constant (.str x) _ _ :: ps=>(match a with | .str y=>decide (x = y) | _=>false) && chkFs Z es S ps
  | .FormattedValue p n none _ :: ps=>decide (n = -1) && (chkE Z a S p && chkFs Z es S ps)
  | _=>false
 | .star _ _,_,_=>false
/-- the argument of pop -/
def chkP1 (Z : Zs) : Oe → Sx → List Expr → Bool
 | .none,_,py=>match py with | []=>true | _=>false
 | .some a,S,py=>match py with | [p]=>notStar p && chkE Z a S p | _=>false
/-- the entries of a dict -/
def chkD (Z : Zs) : Es → List Str → Sx → List (Option Expr) → List Expr → Bool
 | .nil,ks,_,keys,vals=>match ks,keys,vals with | [],[],[]=>true | _,_,_=>false
 | .cons a es,ks,S,keys,vals=>match ks,keys,vals with | k :: ks,some (.Constant (.str k') _ _) :: keys,v :: vals=>decide (k = k') && (chkE Z a S v && chkD Z es ks S keys vals) | _,_,_=>false
 | .star _ _,_,_,_,_=>false
def chkO (Z : Zs) : Oe → Sx → Option Expr → Bool
 | .none,_,py=>match py with | none=>true | _=>false
 | .some a,S,py=>match py with | some p=>chkE Z a S p | _=>false
def chkEs (Z : Zs) : Es → Sx → List Expr → Bool
 | .nil,_,py=>match py with | []=>true | _=>false
 | .cons a es,S,py=>match py with | p :: ps=>notStar p && (chkE Z a S p && chkEs Z es S ps) | _=>false
 | .star a es,S,py=>match py with | .Starred p _ :: ps=>chkE Z a S p && chkEs Z es S ps | _=>false
/-- the parts of and,or; the tests of a clause -/
def chkA (Z : Zs) : Es → Sx → List Expr → Bool
 | .nil,_,py=>match py with | []=>true | _=>false
 | .cons a es,S,py=>match py with | p :: ps=>chkT a (chkE Z a S p) && chkA Z es S ps | _=>false
 | .star _ _,_,_=>false
def chkF (Z : Zs) : Fe → Sx → Expr → Bool
 | .disp es,S,py=>match py with | .List ps _=>chkEs Z es S ps | _=>false
 | .of a,S,py=>match py with | .Call (.Name x _) [p] ks _=>(noKw ks && (decide (("list" : Str) = x) && chkB Z S x)) && (notStar p && chkE Z a S p) | _=>false
 | .sl a lo hi,S,py=>match py with | .Subscript l (.Slice x y none _) _=>chkE Z a S l && (chkO Z lo S x && chkO Z hi S y) | _=>false
 | .comp elt t it ifs,S,py=>match py with
  | .ListComp pe [⟨tg,iter,qs,k⟩] scope _=>(((!S.hot && decide (k = 0)) && notSet iter) && blkB S scope (tgN t)) && (chkIt Z it S tg iter && (chkTg t (S.inner scope) tg && ((decide (qs.length ≤ 1) && chkA Z ifs (S.inner scope) qs) && chkE Z elt (S.inner scope) pe)))
  | _=>false
 | .range (.range2 a b),S,py=>match py with
  | .Call (.Name x _) [.Call (.Name y _) [p,q] ks2 _] ks _=>((coldK S ks && noKw ks2) && ((decide (("list" : Str) = x) && chkB Z S x) && (decide (("range" : Str) = y) && chkB Z S y))) && ((notStar p && notStar q) && (chkE Z a S p && chkE Z b S q))
  | _=>false
 | .range _,_,_=>false
 | .add a b,S,py=>match py with | .BinOp l .Add r _=>chkE Z a S l && chkE Z b S r | _=>false
 | .comp2 elt t it t2 it2,S,py=>match py with
  | .ListComp pe [⟨tg,iter,[],k⟩,⟨tg2,iter2,[],k2⟩] scope _=>(((!S.hot && (decide (k = 0) && decide (k2 = 0))) && (notSet iter && notSet iter2)) && blkB S scope (tgN t ++ tgN t2)) && (chkIt Z it S tg iter && ((chkTg t (S.inner scope) tg && chkTg t2 (S.inner scope) tg2) && (chkIt Z it2 (S.inner scope) tg2 iter2 && chkE Z elt (S.inner scope) pe)))
  | _=>false
 | .compC elt t en a ifs,S,py=>match py with
  | .ListComp pe [⟨tg,iter,qs,k⟩] scope _=>(((!S.hot && decide (k = 0)) && notSet iter) && blkB S scope (tgN t)) && (chkIcF Z (fun p=>chkE Z a S p) en S tg iter && (chkTg t (S.inner scope) tg && ((decide (qs.length ≤ 1) && chkA Z ifs (S.inner scope) qs) && chkE Z elt (S.inner scope) pe)))
  | _=>false
 | .scr i,S,py=>match py with | .Call (.Name x _) [.Name y _] ks _=>noKw ks && (decide (("list" : Str) = x) && (chkB Z S x && chkV S i y)) | _=>false
def chkIt (Z : Zs) : It → Sx → Expr → Expr → Bool
 | .seq a,S,_,py=>chkE Z a S py
 | .range1 a,S,_,py=>match py with | .Call (.Name x _) [p] ks _=>(noKw ks && (decide (("range" : Str) = x) && chkB Z S x)) && (notStar p && chkE Z a S p) | _=>false
 | .range2 a b,S,_,py=>match py with | .Call (.Name x _) [p,q] ks _=>(noKw ks && (decide (("range" : Str) = x) && chkB Z S x)) && ((notStar p && notStar q) && (chkE Z a S p && chkE Z b S q)) | _=>false
 | .enum a,S,tg,py=>match py with | .Call (.Name x _) [p] ks _=>(noKw ks && (decide (("enumerate" : Str) = x) && chkB Z S x)) && ((isTup tg && notStar p) && chkE Z a S p) | _=>false
end
def chkIc (Z : Zs) (en : Bool) (a : E) (S : Sx) (tg py : Expr) : Bool:=chkIcF Z (fun p=>chkE Z a S p) en S tg py
/-- the callees,at a depth -/
structure Lv (Z : Zs) (T : Nat → Cfg) (B : Tb0) (P : Program) (w : World) (K : PySem.W.Frag) (mg : Str → Option Value) (base : Heap) (n : Nat) : Prop where
 fn : ∀ f x,Z.fnm f = some x → ∃ a,mg x = some (.ref a) ∧ DefOk B P w K mg base (2 * n) ((T n).call f) a
 me : MethOk B P w K mg base (2 * n) (T n)
 made : ∀ c x,Z.cnm c = some x → MakeOk B P w K mg base (2 * n) (T n) c x
 fl : FldOk B K (T n)
 bl : ∀ x,x ∈ Z.blt → mg x = none
 gi : ∀ x i,Z.gi.lookup x = some i → ∃ t,mg x = some (.int i t)
 an : B.fn = Z.anm
 kl : ScrOk B K
 isc : IscOk B K (T n)
 eqm : EqmOk B P w K mg base (2 * n) (T n)
 nem : NemOk B P w K mg base (2 * n) (T n)
 xm : XmOk B K (T n)
 xis : XisOk B K (T n)
 xn : ∀ c x,Z.xnm c = some x → mg x = some (.ref (B.ca c))
 rn : ∀ c x,Z.rnm c = some x → RaiAt K mg (B.ca c) x
 en : ∀ c x,Z.enm c = some x → RaeAt B P w K mg base c x
 xfo : XfOk B K (T n)
 xvo : XivOk B K (T n)
 hn : ∀ f x,Z.hnm f = some x → ∃ a,mg x = some (.ref a) ∧ DefH B P w K mg base (2 * n) ((T n).call f) a
structure XOk (Z : Zs) (T : Nat → Cfg) (B : Tb) (n : Nat) (S : Sx) (X : Cx) : Prop where
 N : X.N = S.N
 nd : S.N.Nodup
 nms : X.env.scope.names = S.nms
 kd : X.env.scope.kind = .function
 fn : S.top = true → ∀ x,X.fn x = true
 calm : S.hot = false → X.calm = true
 room : S.hot = false → Room (2 * n + 1) X.A
 hu1 : X.A.units + 65 < cLine
 kp : B.xk = S.kept
 lk : XLk B X
 hotx : S.hot = true → S.top = true → XHot B X
 hotc : S.hot = true → L2H.HotC X ∧ L2H.RoomH (2 * n + 1) X.A
 stk : S.top = true → X.stack = X.env :: X.outer ∧ X.env.frame = some X.env.locals
 pas : PassesOwn (model X.prog X.w) X.A X.env X.xe
 lv : Lv Z T B X.prog X.w X.K X.mg X.base n
section
variable {Z : Zs} {T : Nat → Cfg} {B : Tb} {n : Nat} {S : Sx} {X : Cx} {py pa pb pc : Expr}
theorem zZLD {x : Str} (h : nmOk x = true) : (x == ("__debug__" : Str)) = false ∧ (x == ("__classdict__" : Str)) = false:=by
 unfold nmOk at h
 simp only [Bool.and_eq_true,Bool.not_eq_true'] at h
 exact h
theorem zZOH {sc : Scope} {x : Str} (h : visB (sc.names.lookup x) = true) : Vis sc x:=by
 unfold Vis
 revert h
 cases sc.names.lookup x with
 | none=>intro h; cases h
 | some k=>cases k <;> intro h <;> first | exact .inl rfl | exact .inr (.inl rfl) | exact .inr (.inr rfl) | cases h
theorem XOk.hu (o : XOk Z T B n S X) : X.A.units + 64 < cLine:=by have:=o.hu1; omega
theorem XOk.var (o : XOk Z T B n S X) {i : Nat} {x : Str} (h : chkV S i x = true) : X.N[i]? = some x ∧ Vis X.env.scope x ∧ (x == ("__debug__" : Str)) = false ∧ (x == ("__classdict__" : Str)) = false:=by
 unfold chkV at h
 simp only [Bool.and_eq_true,decide_eq_true_eq] at h
 exact ⟨by rw [o.N]; exact h.1,zZOH (by rw [o.nms]; exact h.2.1),zZLD h.2.2⟩
theorem XOk.gl (o : XOk Z T B n S X) {x : Str} (h : chkG S x = true) : Gl X x ∧ (x == ("__debug__" : Str)) = false:=by
 unfold chkG at h
 simp only [Bool.and_eq_true,decide_eq_true_eq] at h
 refine ⟨?_,(zZLD h.2).1⟩
 show X.env.scope.names.lookup x = _
 rw [o.nms]
 exact h.1
theorem XOk.bl (o : XOk Z T B n S X) {x : Str} (h : chkB Z S x = true) : Gl X x ∧ X.mg x = none:=by
 unfold chkB at h
 simp only [Bool.and_eq_true] at h
 exact ⟨(o.gl h.1).1,o.lv.bl x (by simpa using h.2)⟩
theorem XOk.free (o : XOk Z T B n S X) {i : Nat} {x : Str} (h : chkL S i x = true) : i ∉ B.xk:=by
 unfold chkL at h
 simp only [Bool.and_eq_true] at h
 rw [o.kp]
 simpa using h.1.2
theorem XOk.loc (o : XOk Z T B n S X) {i : Nat} {x : Str} (h : chkL S i x = true) : X.N[i]? = some x ∧ (X.fn x = true ∨ X.env.scope.names.lookup x = some .local) ∧ L2.Loc X.env.scope x:=by
 unfold chkL at h
 simp only [Bool.and_eq_true,Bool.or_eq_true,decide_eq_true_eq] at h
 refine ⟨by rw [o.N]; exact h.1.1, ?_⟩
 rcases h.2 with e | ⟨e1,e2⟩
 ·have e : X.env.scope.names.lookup x = some .local:=by rw [o.nms]; exact e
  exact ⟨.inr e,.inl e⟩
 ·have e : X.env.scope.names.lookup x = some .cell:=by rw [o.nms]; exact e2
  exact ⟨.inl (o.fn e1 x),.inr e⟩
theorem XOk.rm (o : XOk Z T B n S X) (h : S.hot = false) : Room (2 * n) X.A:=(o.room h).mono (Nat.le_succ _)
theorem zZCr {o : Expr} {m : Str} {env : PySem.Env} {wh : Sem Value} (h : abOk o = true) : attributeBase o m env wh = wh:=by
 cases o with
 | Call f args ks pos =>
  cases args with
  | nil=>cases h
  | cons a as=>cases f <;> rfl
 | _=>rfl
theorem zZJs {b : Expr} (h : ixOk b = true) : PlainIx b:=by
 intro o i
 cases b <;> first | rfl | cases h
theorem yZL {e : Expr} {env : PySem.Env} (h : notSet e = true) : ∀ x,foldedSetIterable e env x = pure x:=by
 intro x
 cases e <;> first | rfl | cases h
theorem zZL0 {scope : Scope} {env : PySem.Env} {nms : List (Str × NameKind)} (h : env.scope.names = nms) (hk : env.scope.kind = .function) : (relabel scope env).names = relab nms scope.names:=by
 unfold relabel relab PySem.Env.kindOf
 rw [h,hk]
 have : (ScopeKind.function == ScopeKind.function) = true:=rfl
 simp only [this,Bool.and_true]
theorem XLk.mute : XLk B.mute X:=⟨takes0N,fun _ _ _ _ _ _ _ _ _ q=>q.elim⟩
theorem XOk.inner (o : XOk Z T B n S X) (hc : S.hot = false) {scope : Scope} {X' : Cx} (hk : scope.kind = .function) (h : Blk X scope X') : XOk Z T B.mute n (S.inner scope) X':=by
 obtain ⟨s,H,C,cl,fp,rfl⟩:=h
 exact ⟨o.N,o.nd,zZL0 o.nms o.kd,hk,(fun z=>Bool.noConfusion z),o.calm,o.room,o.hu1,o.kp,XLk.mute,(fun z=>by rw [show (S.inner scope).hot = S.hot from rfl,hc] at z; cases z),(fun z=>by rw [show (S.inner scope).hot = S.hot from rfl,hc] at z; cases z),(fun z=>Bool.noConfusion z),PassesOwn.never,o.lv⟩
theorem yZ2 (o : XOk Z T B n S X) {scope : Scope} {ns : List Nat} (h : blkB S scope ns = true) : blkC X.N X.env.scope scope (ownOf X.N ns) = true ∧ scope.kind = .function:=by
 unfold blkB at h
 rw [o.N]
 refine ⟨?_, ?_⟩
 ·unfold blkC at h ⊢
  rw [o.nms]
  exact h
 ·unfold blkC at h
  simp only [Bool.and_eq_true] at h
  have:=h.1.1.1
  revert this
  cases scope.kind <;> intro h <;> first | rfl | cases h
def plainB (e : Expr) : Bool:=match e with | .UnaryOp .Not _ _=>false | .BoolOp _ _ _=>false | .IfExp _ _ _ _=>false | .Compare _ _ _ _=>false | _=>true
theorem plainT {e : Expr} (h : plainB e = true) (env : PySem.Env) (wh : Sem Value) :
  isTrue e env wh = (do let v ← wh; standAt e.pos; holding [v] (truthy v)):=by
 cases e with
 | UnaryOp op a p=>cases op <;> first | rfl | cases h
 | BoolOp _ _ _=>cases h
 | IfExp _ _ _ _=>cases h
 | Compare _ _ _ _=>cases h
 | _=>rfl
/-- as a value and as a test -/
def Both (B : Tb) (X : Cx) (e : E) (py : Expr) (f : Env → Wd → R D) : Prop:=EOk B X py f ∧ (e.isIfe = false → TOk B X py (tv f))
theorem Both.of {e : E} {f : Env → Wd → R D} (h : EOk B X py f) (hp : plainB py = true) : Both B X e py f :=
 ⟨h,fun _=>zZK4 h fun wh=>plainT hp X.env wh⟩
theorem yZA {a : E} {g : Cfg} (o : XOk Z T B n S X) (hc : chkE Z a S py = true) (h : EOk B X py (evE g a)) : SOk B X py (srcOf a (evE g a)):=by
 cases a with
 | var i =>
  unfold chkE at hc
  split at hc
  ·obtain ⟨h1,h2,h3,h4⟩:=o.var hc
   exact zZNN h1 h2 h3 h4 g
  ·cases hc
 | _=>exact zZOL h
theorem zZN5 {a : E} {g : Cfg} (o : XOk Z T B n S X) (hc : chkE Z a S py = true) (h : EOk B X py (evE g a)) : ObOk B X py (objOf a (evE g a)):=by
 cases a with
 | var i =>
  unfold chkE at hc
  split at hc
  ·obtain ⟨h1,h2,h3,h4⟩:=o.var hc
   exact zZL7 h1 h2 h3 h4 g
  ·cases hc
 | _=>exact zZNx h
theorem zZPJ {a : E} {g : Cfg} (o : XOk Z T B n S X) (hc : chkE Z a S py = true) (h : EOk B X py (evE g a)) : DkOk B X py (dkOf a (evE g a)):=by
 by_cases hv : ∃ i,a = .var i
 ·obtain ⟨i,rfl⟩:=hv
  unfold chkE at hc
  split at hc
  ·obtain ⟨h1,h2,h3,h4⟩:=o.var hc
   exact zZO0 h1 h2 h3 h4 g
  ·cases hc
 ·exact zZPA (fun i e=>hv ⟨i,e⟩) h
theorem zZMj {t : Tg} (h : chkTg t S py = true) : notStar py = true:=by
 cases t <;> unfold chkTg at h <;> split at h <;> first | rfl | cases h
theorem zZJF : ∀ (ts : Tgs) (S : Sx) (ps : List Expr) (ds : List D) (e e' : Env),chkTgs ts S ps = true → tgsD ts ds e = some e' → ds.length = ps.length
 | .nil,S,[],[],_,_,_,_=>rfl
 | .nil,S,[],d :: ds,_,_,_,h=>by simp [tgsD] at h
 | .nil,S,p :: ps,_,_,_,h,_=>by simp [chkTgs] at h
 | .cons t ts,S,[],_,_,_,h,_=>by simp [chkTgs] at h
 | .cons t ts,S,p :: ps,[],_,_,_,h=>by simp [tgsD] at h
 | .cons t ts,S,p :: ps,d :: ds,e,e',h,q=>by
  simp only [chkTgs,Bool.and_eq_true] at h
  simp only [tgsD,Option.bind_eq_some_iff] at q
  obtain ⟨e1,_,q⟩:=q
  simp [zZJF ts S ps ds e1 e' h.2 q]
mutual
theorem zZMm : ∀ (t : Tg) (S : Sx) (py : Expr),chkTg t S py = true → ∀ i ∈ tgN t,i ∉ S.kept
 | .nm i,S,py,h=>by
  unfold chkTg at h
  split at h
  ·unfold chkL at h
   simp only [Bool.and_eq_true] at h
   intro j hj
   simp only [tgN,List.mem_singleton] at hj
   subst hj
   simpa using h.1.2
  ·cases h
 | .tup ts,S,py,h=>by
  unfold chkTg at h
  split at h
  ·simp only [Bool.and_eq_true] at h
   exact zZKL ts S _ h.2
  ·cases h
theorem zZKL : ∀ (t : Tgs) (S : Sx) (py : List Expr),chkTgs t S py = true → ∀ i ∈ tgsN t,i ∉ S.kept
 | .nil,S,py,h=>fun i hi=>by simp [tgsN] at hi
 | .cons t ts,S,py,h=>by
  unfold chkTgs at h
  split at h
  ·simp only [Bool.and_eq_true] at h
   intro i hi
   simp only [tgsN,List.mem_append] at hi
   rcases hi with hi | hi
   ·exact zZMm t S _ h.1 i hi
   ·exact zZKL ts S _ h.2 i hi
  ·cases h
end
theorem yZJ (o : XOk Z T B n S X) {t : Tg} {S' : Sx} {py : Expr} (e : S'.kept = S.kept) (h : chkTg t S' py = true) : ∀ i ∈ tgN t,i ∉ B.xk:=by
 rw [o.kp,← e]
 exact zZMm t S' py h
mutual
theorem yZO : ∀ (t : Tg) (S : Sx) (X : Cx) (py : Expr),XOk Z T B n S X → chkTg t S py = true → GOk B X py (tgD t) (tgN t)
 | .nm i,S,X,py,o,h=>by
  unfold chkTg at h
  split at h
  ·obtain ⟨h1,h2,h3⟩:=o.loc h
   exact zZO3 (o.free h) (by rw [o.N]; exact o.nd) h1 h3 h2
  ·cases h
 | .tup ts,S,X,py,o,h=>by
  unfold chkTg at h
  split at h
  ·rename_i es k pos
   simp only [Bool.and_eq_true,Bool.not_eq_true'] at h
   have q:=zZM0 (k:=k) (pos:=pos) (o.calm h.1.1) (fun ds e e' z=>zZJF ts S es ds e e' h.2 z) h.1.2 (zZK9 ts S X es o h.2)
   have e1 : tgD (.tup ts) = fun d e=>match d with | .tup xs=>tgsD ts xs e | .tupz xs=>tgsD ts xs e | _=>none:=by
    funext d e
    cases d <;> rfl
   rw [e1]
   exact q
  ·cases h
theorem zZK9 : ∀ (t : Tgs) (S : Sx) (X : Cx) (py : List Expr),XOk Z T B n S X → chkTgs t S py = true → GsOk B X py (tgsD t) (tgsN t)
 | .nil,S,X,py,o,h=>by
  unfold chkTgs at h
  split at h
  ·have e1 : tgsD .nil = fun ds e=>match ds with | []=>some e | _=>none:=by
    funext ds e
    cases ds <;> rfl
   rw [e1]
   exact zZLd
  ·cases h
 | .cons t ts,S,X,py,o,h=>by
  unfold chkTgs at h
  split at h
  ·rename_i p ps
   simp only [Bool.and_eq_true] at h
   have e1 : tgsD (.cons t ts) = fun ds e=>match ds with | x :: xs=>(tgD t x e).bind fun e=>tgsD ts xs e | []=>none:=by
    funext ds e
    cases ds <;> rfl
   rw [e1]
   exact zZKy (zZMj h.1) (yZO t S X p o h.1) (zZK9 ts S X ps o h.2)
  ·cases h
end
end
end DL
set_option maxRecDepth 100000
set_option maxHeartbeats 8000000
namespace DL
open PySem PySem.Spec PyProof.Rows
open L2 hiding St
section
variable {Z : Zs} {T : Nat → Cfg} {n : Nat}
theorem zZt {ks : List Keyword} (h : noKw ks = true) : ks = []:=by
 cases ks <;> first | rfl | cases h
theorem zZKb {es : Es} {S : Sx} (h : chkEs Z es S [] = true) : es = .nil:=by
 cases es <;> simp [chkEs] at h
 rfl
theorem zZNn {g : Cfg} {a : E} : evTs g (.cons a .nil) = fun e W=>(tv (evE g a) e W).bind fun k W=>.ok (.bl k) W:=by
 funext e W
 show ((evE g a e W).bind fun x W=>(opt (truD x) W).bind fun k W=>R.ok (D.bl k) W) = _
 unfold tv
 rw [R.bind_assoc]
theorem zZPF {B : Tb} {X : Cx} {x : Str} {i : Int} (h : ∃ t,X.mg x = some (.int i t)) (hg : Gl X x) (hd : (x == ("__debug__" : Str)) = false) {pos : Pos} : EOk B X (.Name x pos) (fun _ W=>.ok (.int i) W):=by
 obtain ⟨t,h⟩:=h
 exact zZFo (v:=.int i) (pe_glob (v:=.int i) hg h ⟨t,rfl⟩ hd) fun _ _=>.int i
theorem zZFg {en : Bool} {a : E} {B : Tb} {S : Sx} {X : Cx} {tg py : Expr} (o : XOk Z T B n S X) (k : ∀ py,chkE Z a S py = true → EOk B X py (evE (T n) a)) (h : chkIc Z en a S tg py = true) : ItcOk B X tg py en (evE (T n) a):=by
 unfold chkIc chkIcF at h
 split at h
 ·rename_i he
  subst he
  split at h
  ·simp only [Bool.and_eq_true,decide_eq_true_eq] at h
   obtain ⟨⟨h1,h2,h3⟩,⟨h4,h5⟩,h6⟩:=h
   cases zZt h1
   subst h2
   obtain ⟨g1,g2⟩:=o.bl h3
   cases tg <;> first | cases h4 | skip
   exact zZLt g1 g2 h5 (k _ h6)
  ·cases h
 ·rename_i he
  have : en = false:=by simpa using he
  subst this
  exact zZNJ (k _ h)
mutual
theorem zZC : ∀ (a : E) (B : Tb) (S : Sx) (X : Cx) (py : Expr),XOk Z T B n S X → chkE Z a S py = true → Both B X a py (evE (T n) a)
 | .non,B,S,X,py,o,h=>by
  unfold chkE at h
  split at h
  ·exact .of zZNF rfl
  ·cases h
 | .bl b,B,S,X,py,o,h=>by
  unfold chkE at h
  split at h
  ·have:=of_decide_eq_true h
   subst this
   exact .of zZOn rfl
  ·cases h
 | .int i,B,S,X,py,o,h=>by
  unfold chkE at h
  split at h
  ·have:=of_decide_eq_true h
   subst this
   exact .of zZNE rfl
  ·simp only [Bool.and_eq_true,decide_eq_true_eq] at h
   obtain ⟨h1,h2⟩:=o.gl h.1
   exact .of (zZPF (o.lv.gi _ _ h.2) h1 h2) rfl
  ·cases h
 | .str s,B,S,X,py,o,h=>by
  unfold chkE at h
  split at h
  ·have:=of_decide_eq_true h
   subst this
   exact .of zZN1 rfl
  ·cases h
 | .var i,B,S,X,py,o,h=>by
  unfold chkE at h
  split at h
  ·obtain ⟨h1,h2,h3,h4⟩:=o.var h
   exact .of (zZNL h1 h2 h3 h4) rfl
  ·cases h
 | .bin op a b,B,S,X,py,o,h=>by
  unfold chkE at h
  split at h
  ·simp only [Bool.and_eq_true,decide_eq_true_eq] at h
   obtain ⟨rfl,h1,h2⟩:=h
   exact .of (zZN6 op (zZC a _ S X _ o h1).1 (zZC b _ S X _ o h2).1) rfl
  ·cases h
 | .cmp op a b,B,S,X,py,o,h=>by
  unfold chkE at h
  split at h
  ·simp only [Bool.and_eq_true,decide_eq_true_eq,Bool.not_eq_true'] at h
   obtain ⟨⟨rfl,hm⟩,h1,h2⟩:=h
   have ka:=(zZC a _ S X _ o h1).1
   have kb:=(zZC b _ S X _ o h2).1
   have sb:=yZA o h2 kb
   cases op with
   | inn=>exact ⟨zZOt hm ka sb,fun _=>zZJE op_in_seq hm ka sb⟩
   | notin=>exact ⟨zZKJ hm ka sb,fun _=>zZJE op_notIn_seq hm ka sb⟩
   | eq=>exact ⟨xZI .eq (by simp) (by simp) o.hu ka kb,fun _=>xZH .eq (by simp) (by simp) o.hu ka kb⟩
   | ne=>exact ⟨xZI .ne (by simp) (by simp) o.hu ka kb,fun _=>xZH .ne (by simp) (by simp) o.hu ka kb⟩
   | lt=>exact ⟨xZI .lt (by simp) (by simp) o.hu ka kb,fun _=>xZH .lt (by simp) (by simp) o.hu ka kb⟩
   | le=>exact ⟨xZI .le (by simp) (by simp) o.hu ka kb,fun _=>xZH .le (by simp) (by simp) o.hu ka kb⟩
   | gt=>exact ⟨xZI .gt (by simp) (by simp) o.hu ka kb,fun _=>xZH .gt (by simp) (by simp) o.hu ka kb⟩
   | ge=>exact ⟨xZI .ge (by simp) (by simp) o.hu ka kb,fun _=>xZH .ge (by simp) (by simp) o.hu ka kb⟩
   | isN=>exact ⟨xZI .isN (by simp) (by simp) o.hu ka kb,fun _=>xZH .isN (by simp) (by simp) o.hu ka kb⟩
   | notN=>exact ⟨xZI .notN (by simp) (by simp) o.hu ka kb,fun _=>xZH .notN (by simp) (by simp) o.hu ka kb⟩
  ·cases h
 | .chain o1 o2 a b c,B,S,X,py,o,h=>by
  unfold chkE at h
  split at h
  ·simp only [Bool.and_eq_true,decide_eq_true_eq] at h
   obtain ⟨⟨rfl,rfl⟩,⟨g1,g2,g3,g4⟩,h1,h2,h3⟩:=h
   have ka:=(zZC a _ S X _ o h1).1
   have kb:=(zZC b _ S X _ o h2).1
   have kc:=(zZC c _ S X _ o h3).1
   have n1 : o1 ≠ .inn:=by rintro rfl; exact g1 rfl
   have n2 : o1 ≠ .notin:=by rintro rfl; exact g2 rfl
   have n3 : o2 ≠ .inn:=by rintro rfl; exact g3 rfl
   have n4 : o2 ≠ .notin:=by rintro rfl; exact g4 rfl
   exact ⟨zZKp n1 n2 n3 n4 o.hu ka kb kc,fun _=>zZLJ n1 n2 n3 n4 o.hu ka kb kc⟩
  ·cases h
 | .and es,B,S,X,py,o,h=>by
  unfold chkE at h
  split at h
  ·simp only [Bool.and_eq_true,Bool.not_eq_true'] at h
   obtain ⟨k1,k2⟩:=a_ok es _ S X _ _ o h.1 h.2
   exact ⟨k1.1,fun _=>TOk.ofW k1.2⟩
  ·cases h
 | .or es,B,S,X,py,o,h=>by
  unfold chkE at h
  split at h
  ·simp only [Bool.and_eq_true,Bool.not_eq_true'] at h
   obtain ⟨k1,k2⟩:=a_ok es _ S X _ _ o h.1 h.2
   exact ⟨k2.1,fun _=>TOk.ofW k2.2⟩
  ·cases h
 | .not a,B,S,X,py,o,h=>by
  unfold chkE at h
  split at h
  ·simp only [chkT,Bool.and_eq_true,Bool.not_eq_true'] at h
   obtain ⟨k1,k2⟩:=zZC a _ S X _ o h.2
   exact ⟨zZLs k1,fun _=>zZNe (k2 h.1)⟩
  ·cases h
 | .fld f a,B,S,X,py,o,h=>by
  unfold chkE at h
  split at h
  ·simp only [Bool.and_eq_true,decide_eq_true_eq] at h
   obtain ⟨⟨h1,h2⟩,h3⟩:=h
   exact .of (zZNZ o.lv.fl (by rw [o.lv.an]; exact h1) (zZCr h2) (zZN5 o h3 (zZC a _ S X _ o h3).1)) rfl
  ·cases h
 | .idx a b,B,S,X,py,o,h=>by
  unfold chkE at h
  split at h
  ·simp only [Bool.and_eq_true] at h
   exact .of (zZNV (zZJs h.1) (yZA o h.2.1 (zZC a _ S X _ o h.2.1).1) (zZC b _ S X _ o h.2.2).1) rfl
  ·cases h
 | .sl a lo hi,B,S,X,py,o,h=>by
  unfold chkE at h
  split at h
  ·simp only [Bool.and_eq_true] at h
   exact .of (zZOI (zZC a _ S X _ o h.1).1 (o_ok lo _ S X _ o h.2.1) (o_ok hi _ S X _ o h.2.2)) rfl
  ·cases h
 | .tup es,B,S,X,py,o,h=>by
  unfold chkE at h
  split at h
  ·exact .of (zZMr (zZBQ es _ S X _ o h)) rfl
  ·cases h
 | .frz f,B,S,X,py,o,h=>by
  unfold chkE at h
  obtain ⟨k,p⟩:=f_ok f _ S X py o h
  exact .of (zZNU k) p
 | .cell f,B,S,X,py,o,h=>by
  unfold chkE at h
  obtain ⟨k,p⟩:=f_ok f _ S X py o h
  exact .of (zZL4 k) p
 | .call f es,B,S,X,py,o,h=>by
  unfold chkE at h
  split at h
  ·rename_i x p1 ps ks pos
   simp only [Bool.and_eq_true,decide_eq_true_eq] at h
   obtain ⟨⟨⟨h1,h3⟩,h2⟩,h4,h5⟩:=h
   cases zZt h1
   obtain ⟨g1,g2⟩:=o.gl h3
   split at h2
   ·rename_i hh
    simp only [Bool.and_eq_true,decide_eq_true_eq,Bool.not_eq_true'] at h2
    obtain ⟨h2,h6,h7⟩:=h2
    obtain ⟨a,hm,Fn⟩:=o.lv.hn f x h2
    obtain ⟨c1,c2⟩:=o.hotc hh
    cases ps with
    | nil=>simp at h7
    | cons p ps=>exact .of (zZKE Fn o.lk (c2.mono (Nat.le_succ _)) c1 g1 hm g2 h6 (zZBQ es _ S X _ o h5)) rfl
   ·rename_i hh
    have hc : S.hot = false:=by simpa using hh
    have h2:=of_decide_eq_true h2
    obtain ⟨a,hm,Fn⟩:=o.lv.fn f x h2
    cases ps with
    | nil =>
     cases zZKb h5
     exact .of (zZKS Fn o.lk (o.rm hc) g1 hm g2) rfl
    | cons p ps=>exact .of (zZMA Fn o.lk (o.rm hc) g1 hm g2 h4 (zZBQ es _ S X _ o h5)) rfl
  ·cases h
 | .make c es,B,S,X,py,o,h=>by
  unfold chkE at h
  split at h
  ·rename_i x p1 p ps ks pos
   simp only [Bool.and_eq_true,decide_eq_true_eq] at h
   obtain ⟨⟨h1,h2,h3⟩,h4,h5⟩:=h
   cases zZt (ck2 h1)
   obtain ⟨g1,g2⟩:=o.gl h3
   exact .of (zZMT (o.lv.made c x h2) o.lk (o.room (ck1 h1)) g1 g2 (by simpa using h4) (zZBQ es _ S X _ o h5)) rfl
  ·cases h
 | .meth m a es,B,S,X,py,o,h=>by
  unfold chkE at h
  split at h
  ·rename_i ob nm apos ps ks pos
   simp only [Bool.and_eq_true,decide_eq_true_eq] at h
   obtain ⟨⟨h1,h2,h3⟩,⟨h4,h5,h6⟩,h7,h8⟩:=h
   cases zZt (ck2 h1)
   cases ps with
   | nil =>
    cases zZKb h8
    exact .of (zZKo o.lk o.lv.me (o.rm (ck1 h1)) (by rw [o.lv.an]; exact h2) (zZCr h3) h4 (zZC a _ S X _ o h7).1) rfl
   | cons p ps=>exact .of (zZMV o.lk o.lv.me (o.rm (ck1 h1)) (by rw [o.lv.an]; exact h2) (zZCr h3) h4 h5 h6 (zZC a _ S X _ o h7).1 (zZBQ es _ S X _ o h8)) rfl
  ·cases h
 | .b1 b a,B,S,X,py,o,h=>by
  unfold chkE at h
  split at h
  ·rename_i x p1 p ks pos
   simp only [Bool.and_eq_true,decide_eq_true_eq] at h
   obtain ⟨⟨h1,h2,h3⟩,h4,h5⟩:=h
   have hk : noKw ks = true:=by
    split at h1
    ·exact h1
    ·exact ck2 h1
   cases zZt hk
   subst h2
   obtain ⟨g1,g2⟩:=o.bl h3
   have ka:=(zZC a _ S X _ o h5).1
   have sa:=yZA o h5 ka
   cases b with
   | int=>exact .of (zZHo .int rfl g1 g2 h4 ka) rfl
   | str=>exact .of (zZHo .str rfl g1 g2 h4 ka) rfl
   | tuple=>exact .of (xZr .tuple rfl o.hu (o.calm (ck1 h1)) g1 g2 h4 sa) rfl
   | len=>exact .of (xZr .len rfl o.hu (o.calm (ck1 h1)) g1 g2 h4 sa) rfl
   | sum=>exact .of (xZr .sum rfl o.hu (o.calm (ck1 h1)) g1 g2 h4 sa) rfl
   | any=>exact .of (xZr .any rfl o.hu (o.calm (ck1 h1)) g1 g2 h4 sa) rfl
   | all=>exact .of (xZr .all rfl o.hu (o.calm (ck1 h1)) g1 g2 h4 sa) rfl
   | max=>exact .of (xZr .max rfl o.hu (o.calm (ck1 h1)) g1 g2 h4 sa) rfl
   | min=>exact .of (xZr .min rfl o.hu (o.calm (ck1 h1)) g1 g2 h4 sa) rfl
  ·cases h
 | .isi a t,B,S,X,py,o,h=>by
  unfold chkE at h
  split at h
  ·rename_i x p1 p y p2 ks pos
   simp only [Bool.and_eq_true,decide_eq_true_eq] at h
   obtain ⟨⟨h1,h2,h3⟩,⟨h4,h5⟩,h6,h7⟩:=h
   cases zZt h1
   subst h2
   subst h4
   obtain ⟨g1,g2⟩:=o.bl h3
   obtain ⟨g3,g4⟩:=o.bl h5
   exact .of (zZNm t g1 g2 g3 g4 h6 (zZC a _ S X _ o h7).1) rfl
  ·cases h
 | .index a b,B,S,X,py,o,h=>by
  unfold chkE at h
  split at h
  ·simp only [Bool.and_eq_true,decide_eq_true_eq] at h
   obtain ⟨⟨h1,h2,h3⟩,⟨h4,h5⟩,h6,h7⟩:=h
   cases zZt h1
   subst h2
   exact .of (zZLI (zZCr h3) h4 h5 (yZA o h6 (zZC a _ S X _ o h6).1) (zZC b _ S X _ o h7).1) rfl
  ·cases h
 | .ixd a b,B,S,X,py,o,h=>by
  unfold chkE at h
  split at h
  ·simp only [Bool.and_eq_true,decide_eq_true_eq] at h
   obtain ⟨⟨h1,h2,h3⟩,⟨h4,h5⟩,h6,h7⟩:=h
   cases zZt h1
   subst h2
   exact .of (zZNw o.hu1 (zZCr h3) h4 h5 (yZA o h6 (zZC a _ S X _ o h6).1) (zZC b _ S X _ o h7).1) rfl
  ·cases h
 | .ind neg a b,B,S,X,py,o,h=>by
  unfold chkE at h
  split at h
  ·simp only [Bool.and_eq_true,decide_eq_true_eq,Bool.not_eq_true'] at h
   obtain ⟨⟨rfl,hm⟩,h1,h2⟩:=h
   have ka:=(zZC a _ S X _ o h1).1
   have sb:=yZA o h2 (zZC b _ S X _ o h2).1
   exact ⟨zZNv neg o.hu1 hm ka sb,fun _=>zZNG neg o.hu1 hm ka sb⟩
  ·cases h
 | .isw a t,B,S,X,py,o,h=>by
  unfold chkE at h
  split at h
  ·rename_i x p1 p y p2 ks pos
   simp only [Bool.and_eq_true,decide_eq_true_eq] at h
   obtain ⟨⟨h1,h2,h3⟩,⟨h4,h5⟩,h6,h7⟩:=h
   cases zZt h1
   subst h2
   subst h4
   obtain ⟨g1,g2⟩:=o.bl h3
   obtain ⟨g3,g4⟩:=o.bl h5
   exact .of (zZNO t g1 g2 g3 g4 h6 (zZC a _ S X _ o h7).1) rfl
  ·cases h
 | .dsp ks vs,B,S,X,py,o,h=>by
  unfold chkE at h
  split at h
  ·rename_i keys vals pos
   simp only [Bool.and_eq_true,decide_eq_true_eq] at h
   obtain ⟨k1,k2,k3,k4⟩:=d_ok vs ks B S X keys vals pos o h.2
   exact .of (zZNh k1 k2 h.1 k3 k4) rfl
  ·cases h
 | .dgc a b,B,S,X,py,o,h=>by
  unfold chkE at h
  split at h
  ·simp only [Bool.and_eq_true] at h
   exact .of (zZN3 (by have:=o.hu; omega) (zZJs h.1) (zZC a _ S X _ o h.2.1).1 (zZC b _ S X _ o h.2.2).1) rfl
  ·cases h
 | .dtg a b,B,S,X,py,o,h=>by
  unfold chkE at h
  split at h
  ·simp only [Bool.and_eq_true] at h
   exact .of (zZNH (by have:=o.hu; omega) (zZJs h.1) (zZPJ o h.2.1 (zZC a _ S X _ o h.2.1).1) (zZC b _ S X _ o h.2.2).1) rfl
  ·cases h
theorem d_ok : ∀ (es : Es) (ks : List Str) (B : Tb) (S : Sx) (X : Cx) (keys : List (Option Expr)) (vals : List Expr) (pos : Pos),XOk Z T B n S X → chkD Z es ks S keys vals = true →
  keys.all (·.isSome) = true ∧ keys.length = vals.length ∧ DOk B X pos keys vals ks (evEs (T n) es) ∧ (keys = [] → vals = [] ∧ ks = [] ∧ ∀ e W,evEs (T n) es e W = .ok [] W)
 | .nil,ks,B,S,X,keys,vals,pos,o,h=>by
  unfold chkD at h
  split at h
  ·exact ⟨rfl,rfl,zZNj,fun _=>⟨rfl,rfl,fun _ _=>rfl⟩⟩
  ·cases h
 | .cons a es,ks,B,S,X,keys,vals,pos,o,h=>by
  unfold chkD at h
  split at h
  ·simp only [Bool.and_eq_true,decide_eq_true_eq] at h
   obtain ⟨rfl,h1,h2⟩:=h
   obtain ⟨k1,k2,k3,_⟩:=d_ok es _ B S X _ _ pos o h2
   exact ⟨by simpa using k1,by simp [k2],zZMM (zZC a _ S X _ o h1).1 k3,fun z=>by cases z⟩
  ·cases h
 | .star _ _,ks,B,S,X,keys,vals,pos,o,h=>by simp [chkD] at h
theorem o_ok : ∀ (a : Oe) (B : Tb) (S : Sx) (X : Cx) (py : Option Expr),XOk Z T B n S X → chkO Z a S py = true → OOk B X py (evO (T n) a)
 | .none,B,S,X,py,o,h=>by
  unfold chkO at h
  split at h
  ·exact zZL6
  ·cases h
 | .some a,B,S,X,py,o,h=>by
  unfold chkO at h
  split at h
  ·exact zZLc (zZC a _ S X _ o h).1
  ·cases h
theorem zZBQ : ∀ (es : Es) (B : Tb) (S : Sx) (X : Cx) (py : List Expr),XOk Z T B n S X → chkEs Z es S py = true → AOk B X py (evEs (T n) es)
 | .nil,B,S,X,py,o,h=>by
  unfold chkEs at h
  split at h
  ·exact zZNa
  ·cases h
 | .cons a es,B,S,X,py,o,h=>by
  unfold chkEs at h
  split at h
  ·simp only [Bool.and_eq_true] at h
   exact zZML h.1 (zZC a _ S X _ o h.2.1).1 (zZBQ es _ S X _ o h.2.2)
  ·cases h
 | .star a es,B,S,X,py,o,h=>by
  unfold chkEs at h
  split at h
  ·simp only [Bool.and_eq_true] at h
   exact zZLg (zZC a _ S X _ o h.1).1 (zZBQ es _ S X _ o h.2)
  ·cases h
theorem a_ok : ∀ (es : Es) (B : Tb) (S : Sx) (X : Cx) (ps : List Expr) (pos : Pos),XOk Z T B n S X → es.isNil = false → chkA Z es S ps = true →
  (EOk B X (.BoolOp .And ps pos) (evAnd (T n) es) ∧ WOk B X (.BoolOp .And ps pos) (tv (evAnd (T n) es))) ∧ (EOk B X (.BoolOp .Or ps pos) (evOr (T n) es) ∧ WOk B X (.BoolOp .Or ps pos) (tv (evOr (T n) es)))
 | .nil,B,S,X,ps,pos,o,h,_=>by cases h
 | .star _ _,B,S,X,ps,pos,o,_,h=>by simp [chkA] at h
 | .cons a .nil,B,S,X,ps,pos,o,_,h=>by
  unfold chkA at h
  split at h
  ·rename_i p ps
   simp only [chkT,Bool.and_eq_true,Bool.not_eq_true'] at h
   obtain ⟨⟨h1,h2⟩,h3⟩:=h
   unfold chkA at h3
   split at h3
   ·obtain ⟨k1,k2⟩:=zZC a _ S X p o h2
    exact ⟨⟨zZJQ k1,zZLm (k2 h1)⟩,⟨zZJQ k1,zZM7 (k2 h1)⟩⟩
   ·cases h3
  ·cases h
 | .cons a (.star b es),B,S,X,ps,pos,o,_,h=>by
  unfold chkA at h
  split at h
  ·simp [chkA] at h
  ·cases h
 | .cons a (.cons b es),B,S,X,ps,pos,o,_,h=>by
  unfold chkA at h
  split at h
  ·rename_i p ps
   simp only [chkT,Bool.and_eq_true,Bool.not_eq_true'] at h
   obtain ⟨⟨h1,h2⟩,h3⟩:=h
   obtain ⟨k1,k2⟩:=zZC a _ S X p o h2
   have hps : ∃ q qs,ps = q :: qs:=by
    cases ps with
    | nil=>simp [chkA] at h3
    | cons q qs=>exact ⟨q,qs,rfl⟩
   obtain ⟨q,qs,rfl⟩:=hps
   obtain ⟨⟨j1,j2⟩,⟨j3,j4⟩⟩:=a_ok (.cons b es) _ S X (q :: qs) pos o rfl h3
   exact ⟨⟨zZN0 k1 j1,zZNT (k2 h1) j2⟩,⟨zZOM k1 j3,zZOu (k2 h1) j4⟩⟩
  ·cases h
/-- the tests of a clause -/
theorem q_ok : ∀ (es : Es) (S : Sx) (ps : List Expr),ps.length ≤ 1 → chkA Z es S ps = true →
  ∃ tst,evTs (T n) es = (fun e W=>(tst e W).bind fun k W=>R.ok (D.bl k) W) ∧ ∀ (B : Tb) (X : Cx),XOk Z T B n S X → QOk B X ps tst
 | .nil,S,ps,_,h=>by
  unfold chkA at h
  split at h
  ·exact ⟨fun _ W=>.ok true W,rfl,fun B X o=>zZCH⟩
  ·cases h
 | .star _ _,S,ps,_,h=>by simp [chkA] at h
 | .cons a es,S,ps,hl,h=>by
  unfold chkA at h
  split at h
  ·rename_i p ps
   simp only [chkT,Bool.and_eq_true,Bool.not_eq_true'] at h
   obtain ⟨⟨h1,h2⟩,h3⟩:=h
   cases ps with
   | cons q qs=>simp at hl
   | nil =>
    cases es with
    | nil=>exact ⟨tv (evE (T n) a),zZNn,fun B X o=>zZMp ((zZC a _ S X p o h2).2 h1)⟩
    | cons _ _=>simp [chkA] at h3
    | star _ _=>simp [chkA] at h3
  ·cases h
theorem f_ok : ∀ (f : Fe) (B : Tb) (S : Sx) (X : Cx) (py : Expr),XOk Z T B n S X → chkF Z f S py = true → FOk B X py (evF (T n) f) ∧ plainB py = true
 | .disp es,B,S,X,py,o,h=>by
  unfold chkF at h
  split at h
  ·exact ⟨zZLZ (zZBQ es _ S X _ o h),rfl⟩
  ·cases h
 | .of a,B,S,X,py,o,h=>by
  unfold chkF at h
  split at h
  ·simp only [Bool.and_eq_true,decide_eq_true_eq] at h
   obtain ⟨⟨h1,h2,h3⟩,h4,h5⟩:=h
   cases zZt h1
   subst h2
   obtain ⟨g1,g2⟩:=o.bl h3
   exact ⟨zZN9 g1 g2 h4 (yZA o h5 (zZC a _ S X _ o h5).1),rfl⟩
  ·cases h
 | .sl a lo hi,B,S,X,py,o,h=>by
  unfold chkF at h
  split at h
  ·simp only [Bool.and_eq_true] at h
   exact ⟨zZN7 (yZA o h.1 (zZC a _ S X _ o h.1).1) (o_ok lo _ S X _ o h.2.1) (o_ok hi _ S X _ o h.2.2),rfl⟩
  ·cases h
 | .comp elt t it ifs,B,S,X,py,o,h=>by
  unfold chkF at h
  split at h
  ·rename_i pe tg iter qs k scope pos
   simp only [Bool.and_eq_true,decide_eq_true_eq,Bool.not_eq_true'] at h
   obtain ⟨⟨⟨⟨hc,rfl⟩,h1⟩,h2⟩,h3,h4,⟨h5,h6⟩,h7⟩:=h
   obtain ⟨b1,b2⟩:=yZ2 o h2
   obtain ⟨tst,e1,hq⟩:=q_ok ifs (S.inner scope) qs h5 h6
   refine ⟨?_,rfl⟩
   have z:=zZLy (pos:=pos) (elt:=evE (T n) elt) (tst:=tst) (tgf:=tgD t) (ns:=tgN t) (yZJ o (S':=S.inner scope) rfl h4) (o.calm hc) (by rw [o.N]; exact o.nd) b1 (yZL h1) (zZAN it _ S X tg iter o h3)
    (fun X' b=>yZO t _ X' tg (o.inner hc b2 b) h4) (fun X' b=>hq _ X' (o.inner hc b2 b)) (fun X' b=>(zZC elt _ _ X' pe (o.inner hc b2 b) h7).1)
   have e2 : evF (T n) (.comp elt t it ifs) = compF (evE (T n) elt) tst (tgD t) (tgN t) (evIt (T n) it):=by
    unfold compF
    rw [← e1]
    rfl
   rw [e2]
   exact z
  ·cases h
 | .comp2 elt t it t2 it2,B,S,X,py,o,h=>by
  unfold chkF at h
  split at h
  ·rename_i pe tg iter k tg2 iter2 k2 scope pos
   simp only [Bool.and_eq_true,decide_eq_true_eq,Bool.not_eq_true'] at h
   obtain ⟨⟨⟨⟨hc,rfl,rfl⟩,h1,h1'⟩,h2⟩,h3,⟨h4,h4'⟩,h5,h7⟩:=h
   obtain ⟨b1,b2⟩:=yZ2 o h2
   refine ⟨?_,rfl⟩
   exact zZLL (pos:=pos) (elt:=evE (T n) elt) (tgf:=tgD t) (tgf2:=tgD t2) (ns:=tgN t) (ns2:=tgN t2) (zZEn t) (fun i hi=>(List.mem_append.mp hi).elim (yZJ o (S':=S.inner scope) rfl h4 i) (yZJ o (S':=S.inner scope) rfl h4' i)) (o.calm hc) (by rw [o.N]; exact o.nd) b1 (yZL h1) (fun env=>yZL h1') (zZAN it _ S X tg iter o h3)
    (fun X' b=>yZO t _ X' tg (o.inner hc b2 b) h4) (fun X' b=>zZAN it2 _ _ X' tg2 iter2 (o.inner hc b2 b) h5) (fun X' b=>yZO t2 _ X' tg2 (o.inner hc b2 b) h4') (fun X' b=>(zZC elt _ _ X' pe (o.inner hc b2 b) h7).1)
  ·cases h
 | .add a b,B,S,X,py,o,h=>by
  unfold chkF at h
  split at h
  ·simp only [Bool.and_eq_true] at h
   exact ⟨zZM6 (yZA o h.1 (zZC a _ S X _ o h.1).1) (yZA o h.2 (zZC b _ S X _ o h.2).1),rfl⟩
  ·cases h
 | .range (.range2 a b),B,S,X,py,o,h=>by
  unfold chkF at h
  split at h
  ·simp only [Bool.and_eq_true,decide_eq_true_eq] at h
   obtain ⟨⟨⟨k1,k2⟩,⟨rfl,h2⟩,rfl,h4⟩,⟨h5,h6⟩,h7,h8⟩:=h
   cases zZt (ck2 k1)
   cases zZt k2
   obtain ⟨g1,g2⟩:=o.bl h2
   obtain ⟨g3,g4⟩:=o.bl h4
   exact ⟨zZMx (o.calm (ck1 k1)) g1 g2 g3 g4 h5 h6 (zZC a _ S X _ o h7).1 (zZC b _ S X _ o h8).1,rfl⟩
  ·cases h
 | .range (.seq _),B,S,X,py,o,h=>by unfold chkF at h; cases h
 | .range (.range1 _),B,S,X,py,o,h=>by unfold chkF at h; cases h
 | .range (.enum _),B,S,X,py,o,h=>by unfold chkF at h; cases h
 | .compC elt t en a ifs,B,S,X,py,o,h=>by
  unfold chkF at h
  split at h
  ·rename_i pe tg iter qs k scope pos
   simp only [Bool.and_eq_true,decide_eq_true_eq,Bool.not_eq_true'] at h
   obtain ⟨⟨⟨⟨hc,rfl⟩,h1⟩,h2⟩,h3,h4,⟨h5,h6⟩,h7⟩:=h
   obtain ⟨b1,b2⟩:=yZ2 o h2
   obtain ⟨tst,e1,hq⟩:=q_ok ifs (S.inner scope) qs h5 h6
   refine ⟨?_,rfl⟩
   have z:=zZLT (g:=T n) (pos:=pos) (elt:=evE (T n) elt) (tst:=tst) (tgf:=tgD t) (ns:=tgN t) (yZJ o (S':=S.inner scope) rfl h4) (o.calm hc) (by rw [o.N]; exact o.nd) b1 (yZL h1) (zZFg o (fun py h=>(zZC a _ S X py o h).1) h3)
    (fun X' b=>yZO t _ X' tg (o.inner hc b2 b) h4) (fun X' b=>hq _ X' (o.inner hc b2 b)) (fun X' b=>(zZC elt _ _ X' pe (o.inner hc b2 b) h7).1)
   have e2 : evF (T n) (.compC elt t en a ifs) = compCF (T n) en (evE (T n) elt) tst (tgD t) (tgN t) (evE (T n) a):=by
    unfold compCF
    rw [← e1]
    rfl
   rw [e2]
   exact z
  ·cases h
 | .scr i,B,S,X,py,o,h=>by
  unfold chkF at h
  split at h
  ·simp only [Bool.and_eq_true,decide_eq_true_eq] at h
   obtain ⟨h1,h2,h3,h4⟩:=h
   cases zZt h1
   subst h2
   obtain ⟨g1,g2⟩:=o.bl h3
   obtain ⟨v1,v2,v3,v4⟩:=o.var h4
   exact ⟨zZND o.lv.kl g1 g2 v1 v2 v3 v4,rfl⟩
  ·cases h
theorem zZMd : ∀ (es : Es) (B : Tb) (S : Sx) (X : Cx) (ps : List Expr),XOk Z T B n S X → chkFs Z es S ps = true → FpOk B X ps (evEs (T n) es)
 | .nil,B,S,X,ps,o,h=>by
  unfold chkFs at h
  split at h
  ·exact .nil
  ·cases h
 | .cons a es,B,S,X,ps,o,h=>by
  unfold chkFs at h
  split at h
  ·simp only [Bool.and_eq_true] at h
   obtain ⟨h1,h2⟩:=h
   split at h1
   ·have h1:=of_decide_eq_true h1
    subst h1
    exact .lit (zZMd es B S X _ o h2)
   ·cases h1
  ·simp only [Bool.and_eq_true,decide_eq_true_eq] at h
   obtain ⟨rfl,h1,h2⟩:=h
   exact .fld (zZC a B S X _ o h1).1 (zZMd es B S X _ o h2)
  ·cases h
 | .star a es,B,S,X,ps,o,h=>by unfold chkFs at h; cases h
theorem zZAN : ∀ (it : It) (B : Tb) (S : Sx) (X : Cx) (tg py : Expr),XOk Z T B n S X → chkIt Z it S tg py = true → ItOk B X tg py (evIt (T n) it)
 | .seq a,B,S,X,tg,py,o,h=>by
  unfold chkIt at h
  exact zZMH (yZA o h (zZC a _ S X _ o h).1)
 | .range1 a,B,S,X,tg,py,o,h=>by
  unfold chkIt at h
  split at h
  ·simp only [Bool.and_eq_true,decide_eq_true_eq] at h
   obtain ⟨⟨h1,h2,h3⟩,h4,h5⟩:=h
   cases zZt h1
   subst h2
   obtain ⟨g1,g2⟩:=o.bl h3
   exact zZIg g1 g2 h4 (zZC a _ S X _ o h5).1
  ·cases h
 | .range2 a b,B,S,X,tg,py,o,h=>by
  unfold chkIt at h
  split at h
  ·simp only [Bool.and_eq_true,decide_eq_true_eq] at h
   obtain ⟨⟨h1,h2,h3⟩,⟨h4,h5⟩,h6,h7⟩:=h
   cases zZt h1
   subst h2
   obtain ⟨g1,g2⟩:=o.bl h3
   exact zZIk g1 g2 h4 h5 (zZC a _ S X _ o h6).1 (zZC b _ S X _ o h7).1
  ·cases h
 | .enum a,B,S,X,tg,py,o,h=>by
  unfold chkIt at h
  split at h
  ·simp only [Bool.and_eq_true,decide_eq_true_eq] at h
   obtain ⟨⟨h1,h2,h3⟩,⟨h4,h5⟩,h6⟩:=h
   cases zZt h1
   subst h2
   obtain ⟨g1,g2⟩:=o.bl h3
   cases tg <;> first | exact zZLM g1 g2 h5 (yZA o h6 (zZC a _ S X _ o h6).1) | cases h4
  ·cases h
end
end
end DL
set_option maxRecDepth 100000
set_option maxHeartbeats 8000000
namespace DL
open PySem PySem.Spec PyProof.Rows
open L2 hiding St
/-- a comprehension that is stored on its own line (the name is swapped in) -/
def swapB (S : Sx) (v : Expr) (x : Str) (p : Pos) : Bool:=match v with
 | .ListComp _ _ s vp=>(S.nms.lookup x == some .local) && ((p.line == vp.line) && !(s.names.any fun (n,k)=>n == x && (k == .local || k == .cell)))
 | _=>false
def isLc : Expr → Bool
 | .ListComp _ _ _ _=>true | _=>false
def notName : Expr → Bool
 | .Name _ _=>false | _=>true
def Fe.isC2 : Fe → Bool
 | .comp2 _ _ _ _ _=>true
 | _=>false
/-- name = e,e no new list that is stored in a swap -/
def chkSet (Z : Zs) (S : Sx) (i : Nat) (e : E) (tg v : Expr) : Bool:=match tg with
 | .Name x p=>chkL S i x && (chkE Z e S v && (notComp v || (isLc v && (if swapB S v x p then (match e with | .frz (.comp _ _ _ _)=>true | .frz (.compC _ _ _ _ _)=>true | .cell (.comp _ _ _ _)=>true | .cell (.compC _ _ _ _ _)=>true | .frz g=>g.isC2 | _=>false) else true))))
 | _=>false
def chkSetO (Z : Zs) (S : Sx) (i : Nat) (f : Fe) (tg v : Expr) : Bool:=match tg with
 | .Name x p=>chkL S i x && (chkF Z f S v && (notComp v || (isLc v && (if swapB S v x p then (match f with | .comp _ _ _ _=>true | .compC _ _ _ _ _=>true | g=>g.isC2) else true))))
 | _=>false
/-- some name is no plain local: no swap of the stores -/
def swN (S : Sx) (tg : Expr) : Bool:=match tg with
 | .Tuple es _ _=>es.any fun e=>match e with | .Name x _ => !(S.nms.lookup x == some .local) | _=>true
 | _=>false
mutual
def chkSs (Z : Zs) : S → Sx → List Stmt → Bool
 | .skip,_,py=>match py with | []=>true | _=>false
 | .seq (.freeze _) b,S,py=>chkSs Z b S py
 | .seq a b,S,py=>match py with | p :: ps=>chkP Z a S p && chkSs Z b S ps | _=>false
 | _,_,_=>false
def chkP (Z : Zs) : S → Sx → Stmt → Bool
 | .asg (.nm i) e,S,py=>match py with | .Assign [tg] v _=>chkSet Z S i e tg v | _=>false
 | .asg (.tup ts) e,S,py=>match py with | .Assign [tg] v _=>((notTup v || swN S tg) && notName tg) && (chkTg (.tup ts) S tg && chkE Z e S v) | _=>false
 | .asgO i f,S,py=>match py with | .Assign [tg] v _=>chkSetO Z S i f tg v | _=>false
 | .fld f a e,S,py=>match py with
  | .Assign [.Attribute (.Name x _) nm _] v _=>(match a with | .var i=>chkV S i x && (decide (Z.anm f = nm) && chkE Z e S v) | _=>false)
  | _=>false
 | .idx a b e,S,py=>match py with |   .Assign [.Subscript l r _] v _=>(true && ixOk r) && (chkE Z e S v && (chkE Z a S l && chkE Z b S r)) | _=>false
 | .aug i op e,S,py=>match py with | .AugAssign (.Name x _) o v _=>(chkL S i x && (decide (o = pyOp op) && (match op with | .add=>true | .sub=>true | _=>false))) && chkE Z e S v | _=>false
 | .append a e,S,py=>match py with
  | .Expr (.Call (.Attribute l nm apos) [p] ks p2) _=>(noKw ks && (decide (("append" : Str) = nm) && abOk l)) && (((apos.endLine == p2.line) && notStar p) && (chkE Z a S l && chkE Z e S p))
  | _=>false
 | .extend a e,S,py=>match py with
  | .Expr (.Call (.Attribute l nm apos) [p] ks p2) _=>(noKw ks && (decide (("extend" : Str) = nm) && abOk l)) && (((apos.endLine == p2.line) && notStar p) && (chkE Z a S l && chkE Z e S p))
  | _=>false
 | .expr e,S,py=>match py with | .Expr v _=>notComp v && chkE Z e S v | _=>false
 | .ret e,S,py=>match py with | .Return (some v) _=>chkE Z e S v | _=>false
 | .ite c a b,S,py=>match py with | .If t sts sts2 _=>(chkT c (chkE Z c S t)) && (chkSs Z a S sts && chkSs Z b S sts2) | _=>false
 | .forS t it b,S,py=>match py with | .For tg iter sts [] _=>(!S.hot && notSet iter) && (chkIt Z it S tg iter && (chkTg t S tg && chkSs Z b S sts)) | _=>false
 | .whil _ c b,S,py=>match py with | .While t sts [] _=>chkT c (chkE Z c S t) && chkSs Z b S sts | _=>false
 | .dput a b e,S,py=>match py with | .Assign [.Subscript l r _] v _=>chkE Z e S v && (chkE Z a S l && chkE Z b S r) | _=>false
 | .forC t en a b,S,py=>match py with | .For tg iter sts [] _=>(!S.hot && notSet iter) && (chkIc Z en a S tg iter && (chkTg t S tg && chkSs Z b S sts)) | _=>false
 | .asgE i,S,py=>match py with | .Assign [.Name x _] (.Dict [] [] _) _=>chkL S i x | _=>false
 | .putD i k e,S,py=>match py with | .Assign [.Subscript (.Name x _) r _] v _=>chkV S i x && (chkE Z k S r && chkE Z e S v) | _=>false
 | .pass,_,py=>match py with | .Pass _=>true | _=>false
 | .never,_,_=>true
 | .skip,_,_=>false
 | .seq _ _,_,_=>false
 | .freeze _,_,_=>false
end
section
variable {Z : Zs} {T : Nat → Cfg} {B : Tb} {n : Nat} {S : Sx} {X : Cx}
theorem zZI3 (o : XOk Z T B n S X) {v : Expr} {x : Str} {p : Pos} {l : Nat} (h : isLc v = true) : swapsWith v (some (.Name x p)) l X.env = pure (swapB S v x p):=by
 cases v <;> first | cases h | skip
 unfold swapsWith swapB
 have h1 : X.env.blockKind = .function:=by
  unfold PySem.Env.blockKind
  rw [o.kd]
  rfl
 have h2 : X.env.kindOf x = S.nms.lookup x:=by
  show X.env.scope.names.lookup x = _
  rw [o.nms]
 simp only [h1,h2]
 have e : (ScopeKind.function == ScopeKind.function) = true:=rfl
 rw [e,Bool.true_and,Bool.and_assoc]
 rfl
theorem zZMe {A C : Type} {f : A → Option C} : ∀ {l : List A},(l.any fun a=>(f a).isNone) = true → (l.filterMap f).length < l.length
 | [],h=>by simp at h
 | a :: l,h=>by
  rw [List.filterMap_cons]
  cases q : f a with
  | none=>simp only [List.length_cons]; exact Nat.lt_succ_of_le (List.length_filterMap_le f l)
  | some c =>
   simp only [List.any_cons,q,Option.isNone_some,Bool.false_or] at h
   simp only [List.length_cons]
   exact Nat.succ_lt_succ (zZMe h)
theorem zZOm (o : XOk Z T B n S X) {tg v : Expr} (h : swN S tg = true) : swappedStores [tg] v X.env = pure none:=by
 unfold swN at h
 split at h
 ·rename_i es kk pos
  cases v <;> first
   | rfl
   | skip
  rename_i vs k2 p2
  unfold swappedStores
  simp only []
  split
  ·rfl
  ·split
   ·rfl
   ·generalize hl : ((es.head?).map (·.pos.line)).getD 0 = line
    have hn : ((es.filterMap fun | .Name id pos=>if X.env.kindOf id == some .local && pos.line == line then some id else none | _=>none).length != es.length) = true:=by
     have hlt:=zZMe (l:=es) (f:=fun | .Name id pos=>if X.env.kindOf id == some .local && pos.line == line then some id else none | _=>none) (by
      rw [List.any_eq_true] at h ⊢
      obtain ⟨e,he,hh⟩:=h
      refine ⟨e,he, ?_⟩
      cases e with
      | Name x q =>
       have hk : X.env.kindOf x = S.nms.lookup x:=by
        show X.env.scope.names.lookup x = _
        rw [o.nms]
       simp only [Bool.not_eq_true'] at hh
       simp [hk,hh]
      | _=>rfl)
     simp only [bne_iff_ne,ne_eq]
     exact Nat.ne_of_lt hlt
    refine (if_pos (Bool.or_eq_true _ _ ▸ Or.inl hn)).trans ?_
    rfl
 ·cases h
theorem zZKM {i : Nat} {x : Str} {p : Pos} {v : Expr} {pos : Pos} (o : XOk Z T B n S X) (h1 : chkL S i x = true) (hN : X.N.Nodup) (l1 : X.N[i]? = some x) (l2 : X.env.scope.names.lookup x = some .local) (sw : swapsWith v (some (.Name x p)) pos.line X.env = pure true) : ∀ (f : Fe),f.isC2 = true → chkF Z f S v = true → ∃ t : TE,PS X (.Assign [.Name x p] v pos) (tAsg t (gName i)) ∧ ∀ (e : Env) (W : Wd) (sg : L2.St) (H F : Hp) (eta : List Addr) (Q : VK),Stt B e W sg H F eta →
  (evF (T n) f e W).wp B.xq (fun ds W' => ∀ (a : Addr) (vs : List V) (H' F' : Hp) (eta' : List Addr),OkH B F' eta' W' H' → Ext F eta H F' eta' H' → H a = none → H' a = some (.lst vs) → F' a = none → a ∉ eta' → RepL B F' eta' ds vs → Q (.ref a) H') → t sg H Q
 | .comp2 elt t it t2 it2,_,h2=>by
  unfold chkF at h2
  split at h2
  ·rename_i pe tg iter k tg2 iter2 k2 scope pos2
   simp only [Bool.and_eq_true,decide_eq_true_eq,Bool.not_eq_true'] at h2
   obtain ⟨⟨⟨⟨hc,rfl,rfl⟩,c1,c1'⟩,c2⟩,c3,⟨c4,c4'⟩,c5,c7⟩:=h2
   obtain ⟨b1,b2⟩:=yZ2 o c2
   exact zZKu (i:=i) (y:=x) (py:=p) (spos:=pos) (pos:=pos2) (elt:=evE (T n) elt) (tgf:=tgD t) (tgf2:=tgD t2) (ns:=tgN t) (ns2:=tgN t2) (zZEn t) (fun i hi=>(List.mem_append.mp hi).elim (yZJ o (S':=S.inner scope) rfl c4 i) (yZJ o (S':=S.inner scope) rfl c4' i)) (o.calm hc) hN l1 l2 sw b1 (yZL c1) (fun env=>yZL c1') (zZAN it _ S X tg iter o c3)
    (fun X' b=>yZO t _ X' tg (o.inner hc b2 b) c4) (fun X' b=>zZAN it2 _ _ X' tg2 iter2 (o.inner hc b2 b) c5) (fun X' b=>yZO t2 _ X' tg2 (o.inner hc b2 b) c4') (fun X' b=>(zZC elt _ _ X' pe (o.inner hc b2 b) c7).1)
  ·cases h2
 | .disp _,h,_=>by cases h
 | .of _,h,_=>by cases h
 | .sl _ _ _,h,_=>by cases h
 | .comp _ _ _ _,h,_=>by cases h
 | .range _,h,_=>by cases h
 | .scr _,h,_=>by cases h
 | .add _ _,h,_=>by cases h
 | .compC _ _ _ _ _,h,_=>by cases h
theorem zZNB {i : Nat} {e : E} {tg v : Expr} {pos : Pos} (o : XOk Z T B n S X) (h : chkSet Z S i e tg v = true) : POk B X (.Assign [tg] v pos) (exS (T n) (.asg (.nm i) e)):=by
 unfold chkSet at h
 split at h
 ·rename_i x p
  simp only [Bool.and_eq_true] at h
  obtain ⟨h1,h2,h3⟩:=h
  obtain ⟨l1,l2,l3⟩:=o.loc h1
  have ke:=(zZC e _ S X v o h2).1
  have hN : X.N.Nodup:=by rw [o.N]; exact o.nd
  rw [Bool.or_eq_true] at h3
  rcases h3 with h3 | h3
  ·exact zZI7 (o.free h1) hN l1 l3 l2 (yZy h3 _ _ _) ke
  ·simp only [Bool.and_eq_true] at h3
   obtain ⟨h3,h4⟩:=h3
   have sw:=fun l=>zZI3 (p:=p) (l:=l) o (x:=x) h3
   cases hs : swapB S v x p with
   | false=>exact zZI7 (o.free h1) hN l1 l3 l2 (by rw [sw,hs]) ke
   | true =>
    have l2 : X.env.scope.names.lookup x = some .local:=by
     rw [o.nms]
     cases v <;> first | cases h3 | skip
     simp only [swapB,Bool.and_eq_true] at hs
     exact eq_of_beq hs.1
    rw [hs,if_pos rfl] at h4
    split at h4
    ·rename_i elt t it ifs
     unfold chkE chkF at h2
     split at h2
     ·rename_i pe tg iter qs k scope pos2
      simp only [Bool.and_eq_true,decide_eq_true_eq,Bool.not_eq_true'] at h2
      obtain ⟨⟨⟨⟨hc,rfl⟩,c1⟩,c2⟩,c3,c4,⟨c5,c6⟩,c7⟩:=h2
      obtain ⟨b1,b2⟩:=yZ2 o c2
      obtain ⟨tst,e1,hq⟩:=q_ok (n:=n) (T:=T) ifs (S.inner scope) qs c5 c6
      obtain ⟨te,z1,z2⟩:=zZEs (i:=i) (y:=x) (py:=p) (spos:=pos) (pos:=pos2) (elt:=evE (T n) elt) (tst:=tst) (tgf:=tgD t) (ns:=tgN t) (yZJ o (S':=S.inner scope) rfl c4) (o.calm hc) hN l1 l2 (by rw [sw,hs]) b1 (yZL c1) (zZAN it _ S X tg iter o c3)
       (fun X' b=>yZO t _ X' tg (o.inner hc b2 b) c4) (fun X' b=>hq _ X' (o.inner hc b2 b)) (fun X' b=>(zZC elt _ _ X' pe (o.inner hc b2 b) c7).1)
      have e2 : evF (T n) (.comp elt t it ifs) = compF (evE (T n) elt) tst (tgD t) (tgN t) (evIt (T n) it):=by
       unfold compF
       rw [← e1]
       rfl
      have z:=zZBW (o.free h1) z1 z2
      rw [← e2] at z
      exact z
     ·cases h2
    ·rename_i elt t en a ifs
     unfold chkE chkF at h2
     split at h2
     ·rename_i pe tg iter qs k scope pos2
      simp only [Bool.and_eq_true,decide_eq_true_eq,Bool.not_eq_true'] at h2
      obtain ⟨⟨⟨⟨hc,rfl⟩,c1⟩,c2⟩,c3,c4,⟨c5,c6⟩,c7⟩:=h2
      obtain ⟨b1,b2⟩:=yZ2 o c2
      obtain ⟨tst,e1,hq⟩:=q_ok (n:=n) (T:=T) ifs (S.inner scope) qs c5 c6
      obtain ⟨te,z1,z2⟩:=zZDQ (g:=T n) (i:=i) (y:=x) (py:=p) (spos:=pos) (pos:=pos2) (elt:=evE (T n) elt) (tst:=tst) (tgf:=tgD t) (ns:=tgN t) (yZJ o (S':=S.inner scope) rfl c4) (o.calm hc) hN l1 l2 (by rw [sw,hs]) b1 (yZL c1) (zZFg o (fun py h=>(zZC a _ S X py o h).1) c3)
       (fun X' b=>yZO t _ X' tg (o.inner hc b2 b) c4) (fun X' b=>hq _ X' (o.inner hc b2 b)) (fun X' b=>(zZC elt _ _ X' pe (o.inner hc b2 b) c7).1)
      have e2 : evF (T n) (.compC elt t en a ifs) = compCF (T n) en (evE (T n) elt) tst (tgD t) (tgN t) (evE (T n) a):=by
       unfold compCF
       rw [← e1]
       rfl
      have z:=zZBW (o.free h1) z1 z2
      rw [← e2] at z
      exact z
     ·cases h2
    ·rename_i elt t it ifs
     unfold chkE chkF at h2
     split at h2
     ·rename_i pe tg iter qs k scope pos2
      simp only [Bool.and_eq_true,decide_eq_true_eq,Bool.not_eq_true'] at h2
      obtain ⟨⟨⟨⟨hc,rfl⟩,c1⟩,c2⟩,c3,c4,⟨c5,c6⟩,c7⟩:=h2
      obtain ⟨b1,b2⟩:=yZ2 o c2
      obtain ⟨tst,e1,hq⟩:=q_ok (n:=n) (T:=T) ifs (S.inner scope) qs c5 c6
      obtain ⟨te,z1,z2⟩:=zZEs (i:=i) (y:=x) (py:=p) (spos:=pos) (pos:=pos2) (elt:=evE (T n) elt) (tst:=tst) (tgf:=tgD t) (ns:=tgN t) (yZJ o (S':=S.inner scope) rfl c4) (o.calm hc) hN l1 l2 (by rw [sw,hs]) b1 (yZL c1) (zZAN it _ S X tg iter o c3)
       (fun X' b=>yZO t _ X' tg (o.inner hc b2 b) c4) (fun X' b=>hq _ X' (o.inner hc b2 b)) (fun X' b=>(zZC elt _ _ X' pe (o.inner hc b2 b) c7).1)
      have e2 : evF (T n) (.comp elt t it ifs) = compF (evE (T n) elt) tst (tgD t) (tgN t) (evIt (T n) it):=by
       unfold compF
       rw [← e1]
       rfl
      have z:=zZEO (o.free h1) z1 z2
      rw [← e2] at z
      exact z
     ·cases h2
    ·rename_i elt t en a ifs
     unfold chkE chkF at h2
     split at h2
     ·rename_i pe tg iter qs k scope pos2
      simp only [Bool.and_eq_true,decide_eq_true_eq,Bool.not_eq_true'] at h2
      obtain ⟨⟨⟨⟨hc,rfl⟩,c1⟩,c2⟩,c3,c4,⟨c5,c6⟩,c7⟩:=h2
      obtain ⟨b1,b2⟩:=yZ2 o c2
      obtain ⟨tst,e1,hq⟩:=q_ok (n:=n) (T:=T) ifs (S.inner scope) qs c5 c6
      obtain ⟨te,z1,z2⟩:=zZDQ (g:=T n) (i:=i) (y:=x) (py:=p) (spos:=pos) (pos:=pos2) (elt:=evE (T n) elt) (tst:=tst) (tgf:=tgD t) (ns:=tgN t) (yZJ o (S':=S.inner scope) rfl c4) (o.calm hc) hN l1 l2 (by rw [sw,hs]) b1 (yZL c1) (zZFg o (fun py h=>(zZC a _ S X py o h).1) c3)
       (fun X' b=>yZO t _ X' tg (o.inner hc b2 b) c4) (fun X' b=>hq _ X' (o.inner hc b2 b)) (fun X' b=>(zZC elt _ _ X' pe (o.inner hc b2 b) c7).1)
      have e2 : evF (T n) (.compC elt t en a ifs) = compCF (T n) en (evE (T n) elt) tst (tgD t) (tgN t) (evE (T n) a):=by
       unfold compCF
       rw [← e1]
       rfl
      have z:=zZEO (o.free h1) z1 z2
      rw [← e2] at z
      exact z
     ·cases h2
    ·rename_i g _ _
     obtain ⟨te,z1,z2⟩:=zZKM o h1 hN l1 l2 (by rw [sw,hs]) g h4 (by unfold chkE at h2; exact h2)
     exact zZBW (o.free h1) z1 z2
    ·cases h4
 ·cases h
theorem zZNR {i : Nat} {f : Fe} {tg v : Expr} {pos : Pos} (o : XOk Z T B n S X) (h : chkSetO Z S i f tg v = true) : POk B X (.Assign [tg] v pos) (exS (T n) (.asgO i f)):=by
 unfold chkSetO at h
 split at h
 ·rename_i x p
  simp only [Bool.and_eq_true] at h
  obtain ⟨h1,h2,h3⟩:=h
  obtain ⟨l1,l2,l3⟩:=o.loc h1
  have ke:=(f_ok f _ S X v o h2).1
  have hN : X.N.Nodup:=by rw [o.N]; exact o.nd
  rw [Bool.or_eq_true] at h3
  rcases h3 with h3 | h3
  ·exact zZIC (o.free h1) hN l1 l3 l2 (yZy h3 _ _ _) ke
  ·simp only [Bool.and_eq_true] at h3
   obtain ⟨h3,h4⟩:=h3
   have sw:=fun l=>zZI3 (p:=p) (l:=l) o (x:=x) h3
   cases hs : swapB S v x p with
   | false=>exact zZIC (o.free h1) hN l1 l3 l2 (by rw [sw,hs]) ke
   | true =>
    have l2 : X.env.scope.names.lookup x = some .local:=by
     rw [o.nms]
     cases v <;> first | cases h3 | skip
     simp only [swapB,Bool.and_eq_true] at hs
     exact eq_of_beq hs.1
    rw [hs,if_pos rfl] at h4
    split at h4
    ·rename_i elt t it ifs
     unfold chkF at h2
     split at h2
     ·rename_i pe tg iter qs k scope pos2
      simp only [Bool.and_eq_true,decide_eq_true_eq,Bool.not_eq_true'] at h2
      obtain ⟨⟨⟨⟨hc,rfl⟩,c1⟩,c2⟩,c3,c4,⟨c5,c6⟩,c7⟩:=h2
      obtain ⟨b1,b2⟩:=yZ2 o c2
      obtain ⟨tst,e1,hq⟩:=q_ok (n:=n) (T:=T) ifs (S.inner scope) qs c5 c6
      obtain ⟨te,z1,z2⟩:=zZEs (i:=i) (y:=x) (py:=p) (spos:=pos) (pos:=pos2) (elt:=evE (T n) elt) (tst:=tst) (tgf:=tgD t) (ns:=tgN t) (yZJ o (S':=S.inner scope) rfl c4) (o.calm hc) hN l1 l2 (by rw [sw,hs]) b1 (yZL c1) (zZAN it _ S X tg iter o c3)
       (fun X' b=>yZO t _ X' tg (o.inner hc b2 b) c4) (fun X' b=>hq _ X' (o.inner hc b2 b)) (fun X' b=>(zZC elt _ _ X' pe (o.inner hc b2 b) c7).1)
      have e2 : evF (T n) (.comp elt t it ifs) = compF (evE (T n) elt) tst (tgD t) (tgN t) (evIt (T n) it):=by
       unfold compF
       rw [← e1]
       rfl
      have z:=xZx (o.free h1) z1 z2
      rw [← e2] at z
      exact z
     ·cases h2
    ·rename_i elt t en a ifs
     unfold chkF at h2
     split at h2
     ·rename_i pe tg iter qs k scope pos2
      simp only [Bool.and_eq_true,decide_eq_true_eq,Bool.not_eq_true'] at h2
      obtain ⟨⟨⟨⟨hc,rfl⟩,c1⟩,c2⟩,c3,c4,⟨c5,c6⟩,c7⟩:=h2
      obtain ⟨b1,b2⟩:=yZ2 o c2
      obtain ⟨tst,e1,hq⟩:=q_ok (n:=n) (T:=T) ifs (S.inner scope) qs c5 c6
      obtain ⟨te,z1,z2⟩:=zZDQ (g:=T n) (i:=i) (y:=x) (py:=p) (spos:=pos) (pos:=pos2) (elt:=evE (T n) elt) (tst:=tst) (tgf:=tgD t) (ns:=tgN t) (yZJ o (S':=S.inner scope) rfl c4) (o.calm hc) hN l1 l2 (by rw [sw,hs]) b1 (yZL c1) (zZFg o (fun py h=>(zZC a _ S X py o h).1) c3)
       (fun X' b=>yZO t _ X' tg (o.inner hc b2 b) c4) (fun X' b=>hq _ X' (o.inner hc b2 b)) (fun X' b=>(zZC elt _ _ X' pe (o.inner hc b2 b) c7).1)
      have e2 : evF (T n) (.compC elt t en a ifs) = compCF (T n) en (evE (T n) elt) tst (tgD t) (tgN t) (evE (T n) a):=by
       unfold compCF
       rw [← e1]
       rfl
      have z:=xZx (o.free h1) z1 z2
      rw [← e2] at z
      exact z
     ·cases h2
    ·obtain ⟨te,z1,z2⟩:=zZKM o h1 hN l1 l2 (by rw [sw,hs]) _ h4 h2
     exact xZx (o.free h1) z1 z2
 ·cases h
theorem zZO4 {a b : DL.S} {S : Sx} {py : List Stmt} (hf : ¬ ∃ i,a = .freeze i) (h : chkSs Z (.seq a b) S py = true) : ∃ p ps,py = p :: ps ∧ chkP Z a S p = true ∧ chkSs Z b S ps = true:=by
 cases a <;> first | exact absurd ⟨_,rfl⟩ hf | skip
 all_goals
  unfold chkSs at h
  split at h
  ·simp only [Bool.and_eq_true] at h
   exact ⟨_,_,rfl,h⟩
  ·cases h
mutual
theorem xZV : ∀ (s : DL.S) (B : Tb) (S : Sx) (X : Cx) (py : List Stmt),XOk Z T B n S X → chkSs Z s S py = true → BOk B X py (exS (T n) s)
 | .skip,B,S,X,py,o,h=>by
  unfold chkSs at h
  split at h
  ·exact zZMz
  ·cases h
 | .seq a b,B,S,X,py,o,h=>by
  by_cases hf : ∃ i,a = .freeze i
  ·obtain ⟨i,rfl⟩:=hf
   unfold chkSs at h
   exact zZJt i (xZV b _ S X py o h)
  ·obtain ⟨p,ps,rfl,h3,h4⟩:=zZO4 hf h
   exact zZLi (p_ok a _ S X _ o h3) (xZV b _ S X _ o h4)
 | .freeze _,_,_,_,_,_,h=>by simp [chkSs] at h
 | .asg _ _,_,_,_,_,_,h=>by simp [chkSs] at h
 | .asgO _ _,_,_,_,_,_,h=>by simp [chkSs] at h
 | .fld _ _ _,_,_,_,_,_,h=>by simp [chkSs] at h
 | .idx _ _ _,_,_,_,_,_,h=>by simp [chkSs] at h
 | .aug _ _ _,_,_,_,_,_,h=>by simp [chkSs] at h
 | .append _ _,_,_,_,_,_,h=>by simp [chkSs] at h
 | .extend _ _,_,_,_,_,_,h=>by simp [chkSs] at h
 | .expr _,_,_,_,_,_,h=>by simp [chkSs] at h
 | .ret _,_,_,_,_,_,h=>by simp [chkSs] at h
 | .ite _ _ _,_,_,_,_,_,h=>by simp [chkSs] at h
 | .forS _ _ _,_,_,_,_,_,h=>by simp [chkSs] at h
 | .whil _ _ _,_,_,_,_,_,h=>by simp [chkSs] at h
 | .pass,_,_,_,_,_,h=>by simp [chkSs] at h
 | .never,_,_,_,_,_,h=>by simp [chkSs] at h
 | .dput _ _ _,_,_,_,_,_,h=>by simp [chkSs] at h
 | .forC _ _ _ _,_,_,_,_,_,h=>by simp [chkSs] at h
 | .asgE _,_,_,_,_,_,h=>by simp [chkSs] at h
 | .putD _ _ _,_,_,_,_,_,h=>by simp [chkSs] at h
theorem p_ok : ∀ (s : DL.S) (B : Tb) (S : Sx) (X : Cx) (py : Stmt),XOk Z T B n S X → chkP Z s S py = true → POk B X py (exS (T n) s)
 | .asg (.nm i) e,B,S,X,py,o,h=>by
  unfold chkP at h
  split at h
  ·exact zZNB o h
  ·cases h
 | .asg (.tup ts) e,B,S,X,py,o,h=>by
  unfold chkP at h
  split at h
  ·rename_i tg v pos
   simp only [Bool.and_eq_true] at h
   obtain ⟨⟨h1,h2⟩,h3,h4⟩:=h
   have hn : ∀ x p,tg ≠ .Name x p:=fun x p z=>by subst z; cases h2
   have ht:=zZMj h3
   have hw : swappedStores [tg] v X.env = pure none:=by
    rw [Bool.or_eq_true] at h1
    rcases h1 with h1 | h1
    ·exact zZHZ h1 _
    ·exact zZOm o h1
   refine zZLr hw (zZFF hn _ _) ?_ (zZC e _ S X v o h4).1 (yZO _ S X tg o h3)
   cases tg <;> first | rfl | cases ht
  ·cases h
 | .asgO i f,B,S,X,py,o,h=>by
  unfold chkP at h
  split at h
  ·exact zZNR o h
  ·cases h
 | .fld f a e,B,S,X,py,o,h=>by
  unfold chkP at h
  split at h
  ·split at h
   ·simp only [Bool.and_eq_true,decide_eq_true_eq] at h
    obtain ⟨h1,h2,h3⟩:=h
    obtain ⟨v1,v2,v3,v4⟩:=o.var h1
    exact zZMq o.lv.fl v1 v2 v3 v4 (by rw [o.lv.an]; exact h2) (zZC e _ S X _ o h3).1
   ·cases h
  ·cases h
 | .idx a b e,B,S,X,py,o,h=>by
  unfold chkP at h
  split at h
  ·rename_i l r p v pos
   simp only [Bool.and_eq_true] at h
   obtain ⟨⟨h1,h2⟩,h3,h4,h5⟩:=h
   refine zZNs (fun w => ?_) (zZC e _ S X _ o h3).1 (yZA o h4 (zZC a _ S X _ o h4).1) (zZC b _ S X _ o h5).1
   cases r <;> first | rfl | cases h2
  ·cases h
 | .aug i op e,B,S,X,py,o,h=>by
  unfold chkP at h
  split at h
  ·simp only [Bool.and_eq_true,decide_eq_true_eq] at h
   obtain ⟨⟨h1,rfl,h2⟩,h3⟩:=h
   obtain ⟨l1,l2,l3⟩:=o.loc h1
   refine zZNd ?_ (o.free h1) (by rw [o.N]; exact o.nd) l1 l3 l2 (zZC e _ S X _ o h3).1
   cases op <;> first | exact .inl rfl | exact .inr rfl | cases h2
  ·cases h
 | .append a e,B,S,X,py,o,h=>by
  unfold chkP at h
  split at h
  ·simp only [Bool.and_eq_true,decide_eq_true_eq] at h
   obtain ⟨⟨h1,h2,h3⟩,⟨h4,h5⟩,h6,h7⟩:=h
   cases zZt h1
   subst h2
   exact zZJm (zZCr h3) h4 h5 (yZA o h6 (zZC a _ S X _ o h6).1) (zZC e _ S X _ o h7).1
  ·cases h
 | .extend a e,B,S,X,py,o,h=>by
  unfold chkP at h
  split at h
  ·simp only [Bool.and_eq_true,decide_eq_true_eq] at h
   obtain ⟨⟨h1,h2,h3⟩,⟨h4,h5⟩,h6,h7⟩:=h
   cases zZt h1
   subst h2
   exact zZJc (zZCr h3) h4 h5 (yZA o h6 (zZC a _ S X _ o h6).1) (yZA o h7 (zZC e _ S X _ o h7).1)
  ·cases h
 | .expr e,B,S,X,py,o,h=>by
  unfold chkP at h
  split at h
  ·simp only [Bool.and_eq_true] at h
   exact zZMb h.1 (zZC e _ S X _ o h.2).1
  ·cases h
 | .ret e,B,S,X,py,o,h=>by
  unfold chkP at h
  split at h
  ·exact zZMy (zZC e _ S X _ o h).1
  ·cases h
 | .ite c a b,B,S,X,py,o,h=>by
  unfold chkP at h
  split at h
  ·simp only [chkT,Bool.and_eq_true,Bool.not_eq_true'] at h
   obtain ⟨⟨h0,h1⟩,h2,h3⟩:=h
   exact zZNq ((zZC c _ S X _ o h1).2 h0) (xZV a _ S X _ o h2) (xZV b _ S X _ o h3)
  ·cases h
 | .forS t it b,B,S,X,py,o,h=>by
  unfold chkP at h
  split at h
  ·simp only [Bool.and_eq_true,Bool.not_eq_true'] at h
   obtain ⟨⟨hc,h1⟩,h2,h3,h4⟩:=h
   exact zZNu o.pas (o.calm hc) (yZL h1) (zZAN it _ S X _ _ o h2) (yZO t S X _ o h3) (xZV b _ S X _ o h4)
  ·cases h
 | .forC t en a b,B,S,X,py,o,h=>by
  unfold chkP at h
  split at h
  ·simp only [Bool.and_eq_true,Bool.not_eq_true'] at h
   obtain ⟨⟨hc,h1⟩,h2,h3,h4⟩:=h
   exact zZLY o.pas (o.calm hc) (yZL h1) (zZFg o (fun py h=>(zZC a _ S X py o h).1) h2) (yZO t S X _ o h3) (xZV b _ S X _ o h4)
  ·cases h
 | .dput a b e,B,S,X,py,o,h=>by
  unfold chkP at h
  split at h
  ·simp only [Bool.and_eq_true] at h
   exact zZLl (by have:=o.hu; omega) (zZC e _ S X _ o h.1).1 (zZC a _ S X _ o h.2.1).1 (zZC b _ S X _ o h.2.2).1
  ·cases h
 | .asgE i,B,S,X,py,o,h=>by
  unfold chkP at h
  split at h
  ·obtain ⟨l1,l2,l3⟩:=o.loc h
   exact zZLX (o.free h) (by rw [o.N]; exact o.nd) l1 l3 l2
  ·cases h
 | .putD i k e,B,S,X,py,o,h=>by
  unfold chkP at h
  split at h
  ·simp only [Bool.and_eq_true] at h
   obtain ⟨h1,h2,h3⟩:=h
   obtain ⟨v1,v2,v3,v4⟩:=o.var h1
   exact zZMN (by have:=o.hu; omega) v1 v2 v3 v4 (zZC k _ S X _ o h2).1 (zZC e _ S X _ o h3).1
  ·cases h
 | .whil k c b,B,S,X,py,o,h=>by
  unfold chkP at h
  split at h
  ·simp only [chkT,Bool.and_eq_true,Bool.not_eq_true'] at h
   obtain ⟨⟨h0,h1⟩,h2⟩:=h
   exact zZLO o.pas ((zZC c _ S X _ o h1).2 h0) (xZV b _ S X _ o h2)
  ·cases h
 | .pass,B,S,X,py,o,h=>by
  unfold chkP at h
  split at h
  ·exact zZMU
  ·cases h
 | .never,B,S,X,py,o,h=>zZKB
 | .skip,B,S,X,py,o,h=>by simp [chkP] at h
 | .seq _ _,B,S,X,py,o,h=>by simp [chkP] at h
 | .freeze _,B,S,X,py,o,h=>by simp [chkP] at h
end
end
end DL
set_option maxRecDepth 100000
set_option maxHeartbeats 8000000
namespace DL
open PySem PySem.Spec PyProof.Rows
open L2 hiding St
structure FnD where
 np : Nat
 nl : Nat
 body : S
structure Prog where
 fn : Nat → Option FnD
 ini : Nat → Option FnD
 meth : Nat → Nat → Option Nat
 cellc : Nat → Bool
 fld : Nat → Nat → Bool
 isc : Nat → Nat → Option Bool
 eqm : Nat → Nat → Option Nat
 xm : Nat → Nat → Option Bool
 xis : Nat → Nat → Option Bool
 xf : Nat → Option Nat
 xiv : Nat → Option Bool
 nem : Nat → Nat → Option Nat
def padE (n : Nat) (e : Env) : Env:=e ++ List.replicate (n - e.length) .no
def endR : Fl → Wd → R D
 | .rt d,W=>.ok d W
 | .nx _,W=>.ok .non W
 | _,_=>.st
def runF (g : Cfg) (F : FnD) (xs : List D) (W : Wd) : R D :=
 if xs.length = F.np then (exS g F.body (padE F.nl (xs.map .val)) W).bind endR else .st
def endI (c : Nat) : Fl → Wd → R (List (Nat × D))
 | .nx e,W=>(match e[0]? with | some (Slot.oi c' fs)=>if c' = c then .ok fs W else .st | _=>.st)
 | _,_=>.st
def runI (g : Cfg) (F : FnD) (c : Nat) (xs : List D) (W : Wd) : R (List (Nat × D)) :=
 if xs.length + 1 = F.np then (exS g F.body (padE F.nl (.oi c [] :: xs.map .val)) W).bind (endI c) else .st
noncomputable def cfgN (T : Prog) : Nat → Cfg
 | 0=>⟨fun _ _ _=>.st,fun _ _ _=>.st,T.meth,T.cellc,T.fld,T.isc,T.eqm,fun _ _=>Classical.propDecidable _,T.xm,T.xis,T.xf,T.xiv,T.nem⟩
 | n + 1=>⟨fun f xs W=>match T.fn f with | some F=>runF (cfgN T n) F xs W | none=>.st,fun c xs W=>match T.ini c with | some F=>runI (cfgN T n) F c xs W | none=>.st,T.meth,T.cellc,T.fld,T.isc,T.eqm,fun _ _=>Classical.propDecidable _,T.xm,T.xis,T.xf,T.xiv,T.nem⟩
theorem xZD (T : Prog) : ∀ n,(cfgN T n).meth = T.meth
 | 0=>rfl
 | _ + 1=>rfl
theorem zZk (T : Prog) : ∀ n,(cfgN T n).fld = T.fld
 | 0=>rfl
 | _ + 1=>rfl
theorem units65 {k : Nat} {A : Around} (r : Room k A) : A.units + 65 < cLine:=by have:=r.un; omega
section
variable {B : Tb0} {P : Program} {w : World} {K : PySem.W.Frag} {mg : Str → Option Value} {base : Heap} {Z : Zs} {T : Prog} {n : Nat}
theorem RepL.some_ : ∀ {xs : List D} {vs : List V} {F : Hp} {eta : List Addr} {i : Nat} {s : Slot},RepL B F eta xs vs → (xs.map Slot.val)[i]? = some s → ∃ d v,s = .val d ∧ (vs.map some)[i]? = some (some v) ∧ Rep B F eta d v
 | xs,vs,F,eta,i,s,r,h=>by
  rw [List.getElem?_map] at h
  cases q : xs[i]? with
  | none=>rw [q] at h; cases h
  | some d =>
   rw [q] at h
   cases h
   obtain ⟨v,h1,h2⟩:=r.get q
   exact ⟨d,v,rfl,by rw [List.getElem?_map,h1]; rfl,h2⟩
/-- the frame at a call -/
theorem zZEq {B1 : Tb} {xs : List D} {vs : List V} {F H : Hp} {eta : List Addr} {W : Wd} {N : List Str} {nl : Nat} {xo : Addr} (hB : B1.toTb0 = B) (hk : B1.xk = []) (hn : B1.xn = (L2.start N vs).length) (hx : Ext B1.xF B1.xeta B1.xH F eta H) (o : OkH B F eta W H) (r : RepL B F eta xs vs) (hl : nl = N.length) :
  Fr0 B1 xo F eta H (padE nl (xs.map .val)) W (L2.start N vs) H F eta:=by
 have hz : ∀ (i : Nat) (s : Slot),(padE nl (xs.map .val))[i]? = some s → s = .no ∨ (∃ d v,s = .val d ∧ (L2.start N vs)[i]? = some (some v) ∧ Rep B F eta d v):=fun i s h=>by
  unfold padE at h
  rw [List.getElem?_append] at h
  split at h
  ·rename_i hi
   rw [List.length_map] at hi
   obtain ⟨d,v,h1,h2,h3⟩:=r.some_ h
   refine .inr ⟨d,v,h1, ?_,h3⟩
   unfold L2.start
   rw [List.getElem?_append_left (by rw [List.length_map,← r.length]; exact hi)]
   exact h2
  ·rw [List.getElem?_replicate] at h
   split at h
   ·cases h; exact .inl rfl
   ·cases h
 subst hB
 refine ⟨⟨o, ?_,fun i s h => ?_,fun i j si sj a h1 h2 o1 _ _ _ => ?_,(fun i hi=>by rw [hk] at hi; cases hi),hn.symm,hx⟩,Ext.refl _ _ _,fun i z a h1 h2 h3 => ?_⟩
 ·unfold padE L2.start
  simp [hl,r.length]
 ·rcases hz i s h with rfl | ⟨d,v,rfl,h1,h2⟩
  ·trivial
  ·exact ⟨v,h1,h2⟩
 ·rcases hz i si h1 with rfl | ⟨d,v,rfl,_,_⟩ <;> cases o1
 ·rcases hz i z h1 with rfl | ⟨d,v,rfl,_,_⟩ <;> cases h2
/-- the frame at the making of an instance -/
theorem zZJ5 {B1 : Tb} {xs : List D} {us : List V} {F H0 : Hp} {eta : List Addr} {W : Wd} {N : List Str} {nl c : Nat} {x dx : Addr} (hB : B1.toTb0 = B) (hk : B1.xk = []) (hn : B1.xn = (L2.start N (.ref x :: us)).length) (hxF : B1.xF = F) (hxe : B1.xeta = eta) (hxH : B1.xH = H0) (o : OkH B F eta W H0) (r : RepL B F eta xs us) (hl : nl = N.length) (h1 : H0 x = none) (h2 : H0 dx = none) (hne : dx ≠ x) :
  Fr0 B1 x F eta H0 (padE nl (.oi c [] :: xs.map .val)) W (L2.start N (.ref x :: us)) (upd (upd H0 dx (.own x)) x (.ins (B.ca c) dx [])) F eta:=by
 have hx1 : (upd H0 dx (.own x)) x = none:=by rw [upd_ne hne.symm]; exact h1
 have o1 : OkH B F eta W (upd (upd H0 dx (.own x)) x (.ins (B.ca c) dx [])):=(o.new h2).new hx1
 have hz : ∀ (i : Nat) (s : Slot),(padE nl (.oi c [] :: xs.map .val))[i]? = some s → s = .no ∨ (i = 0 ∧ s = .oi c []) ∨ (∃ d v,s = .val d ∧ (L2.start N (.ref x :: us))[i]? = some (some v) ∧ Rep B F eta d v):=fun i s h=>by
  unfold padE at h
  rw [List.getElem?_append] at h
  split at h
  ·rename_i hi
   cases i with
   | zero=>simp at h; exact .inr (.inl ⟨rfl,h.symm⟩)
   | succ i =>
    simp only [List.getElem?_cons_succ] at h
    simp only [List.length_cons,List.length_map] at hi
    obtain ⟨d,v,h1,h2,h3⟩:=r.some_ h
    refine .inr (.inr ⟨d,v,h1, ?_,h3⟩)
    unfold L2.start
    rw [List.getElem?_append_left (by simp only [List.length_map,List.length_cons,← r.length]; omega)]
    simpa using h2
  ·rw [List.getElem?_replicate] at h
   split at h
   ·cases h; exact .inl rfl
   ·cases h
 have h00 : (L2.start N (.ref x :: us))[0]? = some (some (.ref x)):=by
  unfold L2.start
  simp
 subst hB
 have hE : Ext F eta H0 F eta (upd (upd H0 dx (.own x)) x (.ins (B1.ca c) dx [])):=Ext.trans o (o.new h2) (Ext.new h2) (Ext.new hx1)
 refine ⟨⟨o1, ?_,fun i s h => ?_,fun i j si sj a g1 g2 q1 q2 _ _ => ?_,(fun i hi=>by rw [hk] at hi; cases hi),hn.symm,by rw [hxF,hxe,hxH]; exact hE⟩,hE,fun i z a g1 g2 g3 => ?_⟩
 ·unfold padE L2.start
  simp [hl,r.length]
 ·rcases hz i s h with rfl | ⟨rfl,rfl⟩ | ⟨d,v,rfl,h1,h2⟩
  ·trivial
  ·exact ⟨x,dx,[],h00,upd_same,.nil,o.notF h1,o.notE h1⟩
  ·exact ⟨v,h1,h2⟩
 ·have k1 : i = 0:=by rcases hz i si g1 with rfl | ⟨rfl,_⟩ | ⟨d,v,rfl,_,_⟩ <;> first | rfl | cases q1
  have k2 : j = 0:=by rcases hz j sj g2 with rfl | ⟨rfl,_⟩ | ⟨d,v,rfl,_,_⟩ <;> first | rfl | cases q2
  rw [k1,k2]
 ·rcases hz i z g1 with rfl | ⟨rfl,rfl⟩ | ⟨d,v,rfl,_,_⟩
  ·cases g2
  ·rw [h00] at g3
   cases g3
   exact ⟨h1,(fun _=>rfl),by rw [hxH]; exact h1⟩
  ·cases g2
theorem Fun.okN {x qual : Str} {st : Stmt} {f : Addr} {fd : FuncData} {N ps : List Str} {k : Nat} {sp : Sp} (F : Fun K x qual st f fd) (S : FnScope N ps (defScope st)) (len : ∀ vs H Q E,sp vs H Q E → vs.length = ps.length)
  (hbody : ∀ (cdv : Value) (A : Around) (outer : List PySem.Env) (s : Shared) (H : Hp) (vs : List V) (Q : VK) (E : XK),Room k (A.deeper (envOfC qual (defScope st) s.heap.objs.size f cdv)) → sp vs H Q E →
   ∃ t,PSs (cxOf (L2N.CX P w) P w K mg base N qual (defScope st) f cdv A outer s H E) (defBody st) t ∧ t { nx:=fun _ H'=>Q .non H',rt:=Q } (L2.start N vs) H) : FnOk P w K mg base (L2N.CX P w) (k + 1) f fd ps sp:=by
 obtain ⟨oc,od,kV,doc,pm,an,cdv,ct,osl,rfl,lk,hcd⟩:=F.ex
 exact fn_of lk hcd S len fun A outer s H vs Q E hr hsp=>hbody cdv A outer s H vs Q E hr hsp
/-- a def of the text stands at a,its body is told -/
structure DefAt (Z : Zs) (K : PySem.W.Frag) (F : FnD) (a : Addr) : Prop where
 ex : ∃ (x qual : Str) (st : Stmt) (fd : FuncData) (N ps : List Str),Fun K x qual st a fd ∧ FnScope N ps (defScope st) ∧ F.np = ps.length ∧ F.nl = N.length ∧ Binds K fd ps [] ∧ chkSs Z F.body ⟨N,(defScope st).names,true,[],false⟩ (defBody st) = true
/-- the same,for a call within an except suite -/
structure DefAtH (Z : Zs) (K : PySem.W.Frag) (F : FnD) (a : Addr) : Prop where
 ex : ∃ (x qual : Str) (st : Stmt) (fd : FuncData) (N ps : List Str),Fun K x qual st a fd ∧ FnScope N ps (defScope st) ∧ F.np = ps.length ∧ F.nl = N.length ∧ Binds K fd ps [] ∧ chkSs Z F.body ⟨N,(defScope st).names,false,[],true⟩ (defBody st) = true
 kp : PySem.W.keepIn K (.ref a) = true
theorem zZMo {F : FnD} {a : Addr} (L : Lv Z (cfgN T) B P w K mg base n) (h : DefAt Z K F a) : FnR P w K mg base (L2N.CX P w) (2 * (n + 1)) a (spC B (runF (cfgN T n) F)):=by
 obtain ⟨x,qual,st,fd,N,ps,Fn,S,hp,hl,hb,hc⟩:=h.ex
 have q : FnOk P w K mg base (L2N.CX P w) (2 * n + 1 + 1) a fd ps (spC B (runF (cfgN T n) F)):=by
  refine Fun.okN Fn S (fun vs H Q E h => ?_) (fun cdv A outer s H vs Q E hr h => ?_)
  ·obtain ⟨ds,W,F0,eta,o,r,k⟩:=h
   unfold runF at k
   split at k
   ·rename_i e
    rw [← r.length,e,hp]
   ·exact k.elim
  ·obtain ⟨ds,W,F0,eta,o,r,k⟩:=h
   let B1 : Tb:={ toTb0:=B,xa:=0,xc:=0,xd:=none,xq:=XW B F0 eta H E,wx:=fun cls d _ H=>E cls d H,xk:=[],xn:=(L2.start N vs).length,xs:=[],xF:=F0,xeta:=eta,xH:=H }
   obtain ⟨t,h1,h2⟩:=xZV (Z:=Z) (T:=cfgN T) (n:=n) F.body B1 ⟨N,(defScope st).names,true,[],false⟩ (cxOf (L2N.CX P w) P w K mg base N qual (defScope st) a cdv A outer s H E) (defBody st) ⟨rfl,S.nd,rfl,S.kind,fun _ _=>rfl,fun _=>rfl,fun _=>hr,(units65 hr),rfl,⟨L2N.takes_of rfl rfl rfl rfl,fun c p W' sg H' F' eta' cls d q o' x' _ _ xr=>q H' F' eta' cls d o' x' xr⟩,(fun z=>Bool.noConfusion z),(fun z=>Bool.noConfusion z),fun _=>⟨rfl,rfl⟩,passes_of rfl,L⟩ hc
   refine ⟨t,h1, ?_⟩
   unfold runF at k
   split at k
   ·rw [R.wp_bind] at k
    refine h2 0 F0 eta H W _ W _ H F0 eta _ trivial (zZEq (B1:=B1) rfl rfl rfl (Ext.refl _ _ _) o r hl) (R.wp_mono k fun fl W1 k => ?_)
    cases fl with
    | nx e=>exact fun sg H1 F1 eta1 y=>k .non H1 F1 eta1 y.st.ok y.ext .non
    | rt d=>exact fun v H1 F1 eta1 o1 x1 r1=>k v H1 F1 eta1 o1 x1 r1
    | bk e=>exact k.elim
    | ct e=>exact k.elim
   ·exact k.elim
 have q2:=q.raw hb .nil
 refine FnR.imp q2 fun vs H Q E h => ?_
 rw [List.append_nil]
 exact h
theorem zZNY {F : FnD} {a : Addr} {c : Nat} (L : Lv Z (cfgN T) B P w K mg base n) (h : DefAt Z K F a) : FnR P w K mg base (L2N.CX P w) (2 * (n + 1)) a (spI B c (runI (cfgN T n) F c)):=by
 obtain ⟨x,qual,st,fd,N,ps,Fn,S,hp,hl,hb,hc⟩:=h.ex
 have q : FnOk P w K mg base (L2N.CX P w) (2 * n + 1 + 1) a fd ps (spI B c (runI (cfgN T n) F c)):=by
  refine Fun.okN Fn S (fun vs H Q E h => ?_) (fun cdv A outer s H vs Q E hr h => ?_)
  ·obtain ⟨ds,W,F0,eta,x,dx,us,H0,rfl,rfl,g1,g2,g3,o,r,k⟩:=h
   unfold runI at k
   split at k
   ·rename_i e
    rw [List.length_cons,← r.length,e,hp]
   ·exact k.elim
  ·obtain ⟨ds,W,F0,eta,x,dx,us,H0,rfl,rfl,g1,g2,g3,o,r,k⟩:=h
   let B1 : Tb:={ toTb0:=B,xa:=0,xc:=0,xd:=none,xq:=XW B F0 eta H0 E,wx:=fun cls d _ H=>E cls d H,xk:=[],xn:=(L2.start N (.ref x :: us)).length,xs:=[],xF:=F0,xeta:=eta,xH:=H0 }
   obtain ⟨t,h1,h2⟩:=xZV (Z:=Z) (T:=cfgN T) (n:=n) F.body B1 ⟨N,(defScope st).names,true,[],false⟩ (cxOf (L2N.CX P w) P w K mg base N qual (defScope st) a cdv A outer s _ E) (defBody st) ⟨rfl,S.nd,rfl,S.kind,fun _ _=>rfl,fun _=>rfl,fun _=>hr,(units65 hr),rfl,⟨L2N.takes_of rfl rfl rfl rfl,fun c p W' sg H' F' eta' cls d q o' x' _ _ xr=>q H' F' eta' cls d o' x' xr⟩,(fun z=>Bool.noConfusion z),(fun z=>Bool.noConfusion z),fun _=>⟨rfl,rfl⟩,passes_of rfl,L⟩ hc
   refine ⟨t,h1, ?_⟩
   unfold runI at k
   split at k
   ·rw [R.wp_bind] at k
    refine h2 x F0 eta H0 W _ W _ _ F0 eta _ trivial (zZJ5 (B1:=B1) (c:=c) rfl rfl rfl rfl rfl rfl o r hl g1 g2 g3) (R.wp_mono k fun fl W1 k => ?_)
    cases fl with
    | nx e =>
     intro sg H1 F1 eta1 y
     dsimp only [endI] at k
     split at k
     ·rename_i c' fs he
      split at k
      ·rename_i ec
       subst ec
       obtain ⟨a1,dx1,gs,z1,z2,z3,z4,z5⟩:=y.st.sl 0 _ he
       obtain rfl:=(y.new 0 _ a1 he rfl z1).2.1 rfl
       exact k H1 F1 eta1 dx1 gs y.st.ok y.ext z2 z4 z5 z3
      ·exact k.elim
     ·exact k.elim
    | rt d=>exact k.elim
    | bk e=>exact k.elim
    | ct e=>exact k.elim
   ·exact k.elim
 have q2:=q.raw hb .nil
 refine FnR.imp q2 fun vs H Q E h => ?_
 rw [List.append_nil]
 exact h
theorem zZLb {F : FnD} {a : Addr} (L : Lv Z (cfgN T) B P w K mg base n) (h : DefAtH Z K F a) : DefH B P w K mg base (2 * (n + 1)) (runF (cfgN T n) F) a:=by
 obtain ⟨x,qual,st,fd,N,ps,Fn,S,hp,hl,hb,hc⟩:=h.ex
 refine ⟨h.kp,fd,ps,hb, ?_⟩
 obtain ⟨oc,od,kV,doc,pm,an,cdv,ct,osl,rfl,lk,hcd⟩:=Fn.ex
 refine L2H.fn_ofH (k:=2 * n + 1) lk hcd S (fun vs H Q E h => ?_) (fun A outer s H vs Q E p hot hr h => ?_)
 ·obtain ⟨ds,W,F0,eta,o,r,k⟩:=h
  unfold runF at k
  split at k
  ·rename_i e
   rw [← r.length,e,hp]
  ·exact k.elim
 ·obtain ⟨ds,W,F0,eta,o,r,k⟩:=h
  let B1 : Tb:={ toTb0:=B,xa:=0,xc:=0,xd:=none,xq:=XW B F0 eta H E,wx:=fun cls d _ H=>E cls d H,xk:=[],xn:=(L2.start N vs).length,xs:=[],xF:=F0,xeta:=eta,xH:=H }
  obtain ⟨t,h1,h2⟩:=xZV (Z:=Z) (T:=cfgN T) (n:=n) F.body B1 ⟨N,(defScope st).names,false,[],true⟩ (L2H.cxH (L2N.CX P w) P w K mg base N qual (defScope st) a cdv A outer s H E p) (defBody st) ⟨rfl,S.nd,rfl,S.kind,(fun z=>Bool.noConfusion z),(fun z=>Bool.noConfusion z),(fun z=>Bool.noConfusion z),by have:=hr.un; show (A.deeper _).units + 65 < _; omega,rfl,⟨L2N.takes_of rfl rfl rfl rfl,fun c p W' sg H' F' eta' cls d q o' x' _ _ xr=>q H' F' eta' cls d o' x' xr⟩,(fun _ z=>Bool.noConfusion z),(fun _=>⟨⟨p,hot,List.mem_cons_self⟩,hr⟩),(fun z=>Bool.noConfusion z),passes_of rfl,L⟩ hc
  refine ⟨t,h1, ?_⟩
  unfold runF at k
  split at k
  ·rw [R.wp_bind] at k
   refine h2 0 F0 eta H W _ W _ H F0 eta _ trivial (zZEq (B1:=B1) rfl rfl rfl (Ext.refl _ _ _) o r hl) (R.wp_mono k fun fl W1 k => ?_)
   cases fl with
   | nx e=>exact fun sg H1 F1 eta1 y=>k .non H1 F1 eta1 y.st.ok y.ext .non
   | rt d=>exact fun v H1 F1 eta1 o1 x1 r1=>k v H1 F1 eta1 o1 x1 r1
   | bk e=>exact k.elim
   | ct e=>exact k.elim
  ·exact k.elim
theorem zZOR {F : FnD} {a : Addr} {k : Nat} {c : List D → Wd → R D} (hd : DefAtH Z K F a) (h : ∀ xs W,c xs W = .st) : DefH B P w K mg base k c a:=by
 obtain ⟨x,qual,st,fd,N,ps,Fn,S,hp,hl,hb,hc⟩:=hd.ex
 refine ⟨hd.kp,fd,ps,hb,⟨fun vs H Q E hh => ?_,fun A outer s H args us vs Q E p hr hot hpin e0 hbb r hh => ?_⟩⟩
 ·obtain ⟨ds,W,F,eta,o,rl,k⟩:=hh
  rw [h] at k
  exact k.elim
 ·obtain ⟨ds,W,F,eta,o,rl,k⟩:=hh
  rw [h] at k
  exact k.elim
/-- where all stands -/
structure Sets (P : Program) (Z : Zs) (T : Prog) (B : Tb0) (K : PySem.W.Frag) (mg : Str → Option Value) (fa ia : Nat → Addr) : Prop where
 fn : ∀ f F,T.fn f = some F → DefAt Z K F (fa f)
 ini : ∀ c F,T.ini c = some F → DefAt Z K F (ia c)
 nm : ∀ f x,Z.fnm f = some x → mg x = some (.ref (fa f)) ∧ PySem.W.keepIn K (.ref (fa f)) = true
 me : ∀ c m f,T.meth c m = some f → m < B.nA ∧ Cls K (B.ca c) ∧ Meth K (B.ca c) (B.fn m) (fa f)
 mk_ : ∀ c x,Z.cnm c = some x → mg x = some (.ref (B.ca c)) ∧ Mk K (B.ca c) (ia c)
 fl : ∀ c f,T.fld c f = true → f < B.nA ∧ Cls K (B.ca c) ∧ NoAttr K (B.ca c) (B.fn f)
 bl : ∀ x,x ∈ Z.blt → mg x = none
 gi : ∀ x i,Z.gi.lookup x = some i → ∃ t,mg x = some (.int i t)
 an : B.fn = Z.anm
 kl : ScrOk B K
 isc : ∀ c c' r,T.isc c c' = some r → IscAt K (B.ca c) (B.ca c') r
 nem : ∀ c c' f,T.nem c c' = some f → (PySem.W.findIn K (.ref (B.ca c)) "__ne__" = some (some (.builtin "object.__ne__")) ∧ PySem.W.mroIn K (B.ca c) (.type "object") = some true ∧ PySem.W.subIn K (.ref (B.ca c)) (.type "NoneType") = some false) ∧ PySem.W.findIn K (.ref (B.ca c)) "__eq__" = some (some (.ref (fa f))) ∧ PySem.W.isFn K (.ref (fa f)) = true ∧ PySem.W.notFirst K (B.ca c) (.ref (B.ca c')) = true
 eqm : ∀ c c' f,T.eqm c c' = some f → PySem.W.findIn K (.ref (B.ca c)) "__eq__" = some (some (.ref (fa f))) ∧ PySem.W.isFn K (.ref (fa f)) = true ∧ PySem.W.notFirst K (B.ca c) (.ref (B.ca c')) = true
 xm : ∀ k c b,T.xm k c = some b → PySem.W.exmOne K (.ref (B.ca k)) (.ref (B.ca c)) = some b
 xis : ∀ k c b,T.xis k c = some b → L2.ExcC K (B.ca k) ∧ PySem.W.kitOne K (.ref (B.ca k)) (.ref (B.ca c)) = some b
 xn : ∀ c x,Z.xnm c = some x → mg x = some (.ref (B.ca c))
 rn : ∀ c x,Z.rnm c = some x → RaiAt K mg (B.ca c) x
 en : ∀ c x,Z.enm c = some x → ∀ (w : World) (base : Heap),RaeAt B P w K mg base c x
 hn : ∀ f x,Z.hnm f = some x → mg x = some (.ref (fa f)) ∧ ∃ F,T.fn f = some F ∧ DefAtH Z K F (fa f)
 xfo : ∀ k f,T.xf k = some f → B.xf k = f ∧ XfC K (B.ca k) ∧ PySem.W.findIn K (.ref (B.ca k)) (B.fn f) = some none
 xvo : ∀ k b,T.xiv k = some b → L2.ExcC K (B.ca k) ∧ PySem.W.kitOne K (.ref (B.ca k)) (.type "ValueError") = some b
theorem zZDt {a : Addr} {k : Nat} {c : List D → Wd → R D} (h : ∀ xs W,c xs W = .st) : FnR P w K mg base (L2N.CX P w) k a (spC B c):=by
 intro A outer s H us vs Q E hr e0 r ⟨ds,W,F,eta,o,rl,k⟩
 rw [h] at k
 exact k.elim
theorem zZJR {a : Addr} {k : Nat} {c : Nat} {g : List D → Wd → R (List (Nat × D))} (h : ∀ xs W,g xs W = .st) : FnR P w K mg base (L2N.CX P w) k a (spI B c g):=by
 intro A outer s H us vs Q E hr e0 r ⟨ds,W,F,eta,x,dx,us,H0,e1,e2,g1,g2,g3,o,rl,k⟩
 rw [h] at k
 exact k.elim
theorem zZMl {fa ia : Nat → Addr} (G : Sets P Z T B K mg fa ia) : ∀ n,Lv Z (cfgN T) B P w K mg base n
 | 0=>⟨fun f x h=>⟨fa f,(G.nm f x h).1,⟨zZDt fun _ _=>rfl,(G.nm f x h).2⟩⟩,fun c m f h=>⟨(G.me c m f h).1,(G.me c m f h).2.1,fa f,(G.me c m f h).2.2,zZDt fun _ _=>rfl⟩,
   fun c x h=>⟨(G.mk_ c x h).1,ia c,(G.mk_ c x h).2,zZJR fun _ _=>rfl⟩,G.fl,G.bl,G.gi,G.an,G.kl,G.isc,fun c c' f h=>⟨fa f,(G.eqm c c' f h).1,(G.eqm c c' f h).2.1,(G.eqm c c' f h).2.2,zZDt fun _ _=>rfl⟩,(fun c c' f h=>⟨fa f,(G.nem c c' f h).1,(G.nem c c' f h).2.1,(G.nem c c' f h).2.2.1,(G.nem c c' f h).2.2.2,zZDt fun _ _=>rfl⟩),G.xm,G.xis,G.xn,G.rn,fun c x h=>G.en c x h w base,G.xfo,G.xvo,fun f x h=>by
    obtain ⟨g1,F,g2,g3⟩:=G.hn f x h
    exact ⟨fa f,g1,zZOR g3 fun _ _=>rfl⟩⟩
 | n + 1=>by
  have L:=zZMl G n
  have hf : ∀ f,FnR P w K mg base (L2N.CX P w) (2 * (n + 1)) (fa f) (spC B ((cfgN T (n + 1)).call f)):=fun f=>by
   cases q : T.fn f with
   | none=>exact zZDt fun xs W=>by show (match T.fn f with | some F=>runF (cfgN T n) F xs W | none=>.st) = _; rw [q]
   | some F =>
    have e : (cfgN T (n + 1)).call f = runF (cfgN T n) F:=by
     funext xs W
     show (match T.fn f with | some F=>runF (cfgN T n) F xs W | none=>.st) = _
     rw [q]
    rw [e]
    exact zZMo L (G.fn f F q)
  have hi : ∀ c,FnR P w K mg base (L2N.CX P w) (2 * (n + 1)) (ia c) (spI B c ((cfgN T (n + 1)).init c)):=fun c=>by
   cases q : T.ini c with
   | none=>exact zZJR fun xs W=>by show (match T.ini c with | some F=>runI (cfgN T n) F c xs W | none=>.st) = _; rw [q]
   | some F =>
    have e : (cfgN T (n + 1)).init c = runI (cfgN T n) F c:=by
     funext xs W
     show (match T.ini c with | some F=>runI (cfgN T n) F c xs W | none=>.st) = _
     rw [q]
    rw [e]
    exact zZNY L (G.ini c F q)
  exact ⟨fun f x h=>⟨fa f,(G.nm f x h).1,⟨hf f,(G.nm f x h).2⟩⟩,fun c m f h=>⟨(G.me c m f h).1,(G.me c m f h).2.1,fa f,(G.me c m f h).2.2,hf f⟩,
   fun c x h=>⟨(G.mk_ c x h).1,ia c,(G.mk_ c x h).2,hi c⟩,G.fl,G.bl,G.gi,G.an,G.kl,G.isc,fun c c' f h=>⟨fa f,(G.eqm c c' f h).1,(G.eqm c c' f h).2.1,(G.eqm c c' f h).2.2,hf f⟩,(fun c c' f h=>⟨fa f,(G.nem c c' f h).1,(G.nem c c' f h).2.1,(G.nem c c' f h).2.2.1,(G.nem c c' f h).2.2.2,hf f⟩),G.xm,G.xis,G.xn,G.rn,fun c x h=>G.en c x h w base,G.xfo,G.xvo,fun f x h=>by
    obtain ⟨g1,F,g2,g3⟩:=G.hn f x h
    have e : (cfgN T (n + 1)).call f = runF (cfgN T n) F:=by
     funext xs W
     show (match T.fn f with | some F=>runF (cfgN T n) F xs W | none=>.st) = _
     rw [g2]
    refine ⟨fa f,g1, ?_⟩
    rw [e]
    exact zZLb L g3⟩
/-- the law's promise: at a list of ints that is read only -/
def spLaw (K : PySem.W.Frag) (m : Nat) : Sp:=fun vs H Q _ => ∃ (a : Addr) (ns : List Int),vs = [.ref a] ∧ SqL K H a (ns.map V.int) ∧ ns.length ≤ m ∧ Only H ∧ ∀ H',Q (.bl true) H'
/-- an outside list's own table -/
def Tb0.at (B : Tb0) (K : PySem.W.Frag) : Prop:=B.kl = fun a ns => ∀ H,SqL K H a (ns.map V.int)
/-- the law's def,from what it computes at depth n + 1 -/
theorem zZOV {fa ia : Nat → Addr} {m f : Nat} {x qual : Str} {st : Stmt} {fd : FuncData} {N ps : List Str} {F : FnD} (G : Sets P Z T B K mg fa ia) (n : Nat) (hB : B.at K) (Fn : Fun K x qual st (fa f) fd) (S : FnScope N ps (defScope st)) (hp : F.np = ps.length) (hl : F.nl = N.length)
  (hc : chkSs Z F.body ⟨N,(defScope st).names,true,[],false⟩ (defBody st) = true) (hF : T.fn f = some F) (h1 : ps.length = 1)
  (hx : ∀ ns : List Int,ns.length ≤ m → ∃ W,(cfgN T (n + 1)).call f [.ext ns] [] = .ok (.bl true) W) : FnOk P w K mg base CX0 (2 * (n + 1)) (fa f) fd ps (spLaw K m):=by
 have L : Lv Z (cfgN T) B P w K mg base n:=zZMl G n
 refine Fn.ok (k:=2 * n + 1) S (fun vs H Q E h => ?_) (fun cdv A outer s H vs Q E hr h => ?_)
 ·obtain ⟨a,ns,rfl,_⟩:=h
  exact h1.symm
 ·obtain ⟨a,ns,rfl,hq,hm,hO,hQ⟩:=h
  let B1 : Tb:={ toTb0:=B,xa:=0,xc:=0,xd:=none,xq:=fun _ _ _=>False,wx:=fun _ _ _ _=>False,xk:=[],xn:=(L2.start N [V.ref a]).length,xs:=[],xF:=fun b=>match H b with | some (.frz o u)=>some (.frz o u) | _=>none,xeta:=[],xH:=H }
  obtain ⟨t,t1,t2⟩:=xZV (Z:=Z) (T:=cfgN T) (n:=n) F.body B1 ⟨N,(defScope st).names,true,[],false⟩ (cxOf CX0 P w K mg base N qual (defScope st) (fa f) cdv A outer s H E).nox (defBody st) ⟨rfl,S.nd,rfl,S.kind,fun _ _=>rfl,fun _=>rfl,fun _=>hr,(units65 hr),rfl,⟨takes0N,fun _ _ _ _ _ _ _ _ _ q=>q.elim⟩,(fun z=>Bool.noConfusion z),(fun z=>Bool.noConfusion z),fun _=>⟨rfl,rfl⟩,PassesOwn.never,L⟩ hc
  refine ⟨t,t1, ?_⟩
  obtain ⟨W1,e⟩:=hx ns hm
  have e2 : (cfgN T (n + 1)).call f [.ext ns] [] = runF (cfgN T n) F [.ext ns] []:=by
   show (match T.fn f with | some F=>runF (cfgN T n) F [.ext ns] [] | none=>.st) = _
   rw [hF]
  rw [e2] at e
  -- what is read only is frozen
  have o : OkH B (fun b=>match H b with | some (.frz o u)=>some (.frz o u) | _=>none) [] [] H:=by
   refine ⟨fun b u hb => ?_,fun b hb=>by simp at hb,List.nodup_nil,rfl,fun n a c h1 h2=>by simp at h1⟩
   split at hb
   ·rename_i o' u' hh
    rw [hh]
    exact hb
   ·cases hb
  have r : RepL B (fun b=>match H b with | some (.frz o u)=>some (.frz o u) | _=>none) [] [D.ext ns] [V.ref a]:=by
   refine .cons (.ext ?_) .nil
   rcases hq with (q | ⟨o',q⟩) | q
   ·rcases hO a with z | ⟨o2,xs,z⟩
    ·rw [z] at q; cases q
    ·rw [z] at q; cases q
   ·exact .inl ⟨o',by simp only [q]⟩
   ·refine .inr ?_
    rw [hB]
    exact fun H=>.inr q
  have k : (runF (cfgN T n) F [.ext ns] []).wp (fun _ _ _=>False) fun d W'=>d = .bl true:=by rw [e]; exact rfl
  unfold runF at k
  split at k
  ·rw [R.wp_bind] at k
   refine t2 0 _ [] H [] _ [] _ H _ [] _ trivial (zZEq (B1:=B1) rfl rfl rfl (Ext.refl _ _ _) o r hl) (R.wp_mono k fun fl W1 k => ?_)
   cases fl with
   | nx e=>cases k
   | rt d =>
    obtain rfl : d = .bl true:=k
    intro v H1 F1 eta1 o1 x1 r1
    cases r1
    exact hQ H1
   | bk e=>exact k.elim
   | ct e=>exact k.elim
  ·exact k.elim
end
end DL
set_option maxRecDepth 100000
namespace DL
open PySem (Str)
inductive Tag {X : Type} (x : X) : Type where
 | mk : Tag x
def bnd {A B : Type} (r : R A) (f : A → Wd → R B) (_ : Tag f) : R B:=r.bind f
theorem zZDY {A B : Type} (a : A) (W : Wd) (f : A → Wd → R B) (t : Tag f) : bnd (.ok a W) f t = f a W:=rfl
theorem zZDO {A B : Type} (f : A → Wd → R B) (t : Tag f) : bnd .st f t = .st:=rfl
theorem zZE {T : Prog} {n f : Nat} {F : FnD} {xs : List D} {W : Wd} (h : T.fn f = some F) : (cfgN T (n + 1)).call f xs W = runF (cfgN T n) F xs W:=by
 show (match T.fn f with | some F=>runF (cfgN T n) F xs W | none=>.st) = _
 rw [h]
theorem zZAR {T : Prog} {n c : Nat} {F : FnD} {xs : List D} {W : Wd} (h : T.ini c = some F) : (cfgN T (n + 1)).init c xs W = runI (cfgN T n) F c xs W:=by
 show (match T.ini c with | some F=>runI (cfgN T n) F c xs W | none=>.st) = _
 rw [h]
theorem zZBa {g : Cfg} {F : FnD} {xs : List D} {W : Wd} (h : xs.length = F.np) : runF g F xs W = bnd (exS g F.body (padE F.nl (xs.map .val)) W) endR .mk:=by
 unfold runF
 rw [if_pos h]
 rfl
theorem zZBq {g : Cfg} {F : FnD} {c : Nat} {xs : List D} {W : Wd} (h : xs.length + 1 = F.np) : runI g F c xs W = bnd (exS g F.body (padE F.nl (.oi c [] :: xs.map .val)) W) (endI c) .mk:=by
 unfold runI
 rw [if_pos h]
 rfl
theorem zZCV (d : D) (W : Wd) : endR (.rt d) W = .ok d W:=rfl
theorem zZBe (e : Env) (W : Wd) : endR (.nx e) W = .ok .non W:=rfl
section
variable {g : Cfg} {e : Env} {W : Wd}
theorem zZF4 : evE g .non e W = .ok .non W:=rfl
theorem v_bl {b : Bool} : evE g (.bl b) e W = .ok (.bl b) W:=rfl
theorem zZFJ {i : Int} : evE g (.int i) e W = .ok (.int i) W:=rfl
theorem zZFp {s : Str} : evE g (.str s) e W = .ok (.str s) W:=rfl
theorem zZFC {i : Nat} : evE g (.var i) e W = opt (getV e i) W:=rfl
theorem zZE1 {op : Op} {a b : E} : evE g (.bin op a b) e W = bnd (evE g a e W) (fun x W=>bnd (evE g b e W) (fun y W=>opt (binD op x y) W) .mk) .mk:=rfl
theorem v_in {a b : E} : evE g (.cmp .inn a b) e W = bnd (evE g a e W) (fun x W=>bnd (srcOf b (evE g b) e W) (fun s W=>opt (inG false W x s) W) .mk) .mk:=rfl
theorem zZCG {a b : E} : evE g (.cmp .notin a b) e W = bnd (evE g a e W) (fun x W=>bnd (srcOf b (evE g b) e W) (fun s W=>opt (inG true W x s) W) .mk) .mk:=rfl
theorem v_eq {a b : E} : evE g (.cmp .eq a b) e W = bnd (evE g a e W) (fun x W=>bnd (evE g b e W) (fun y W=>opt (cmpD .eq x y) W) .mk) .mk:=rfl
theorem v_ne {a b : E} : evE g (.cmp .ne a b) e W = bnd (evE g a e W) (fun x W=>bnd (evE g b e W) (fun y W=>opt (cmpD .ne x y) W) .mk) .mk:=rfl
theorem v_lt {a b : E} : evE g (.cmp .lt a b) e W = bnd (evE g a e W) (fun x W=>bnd (evE g b e W) (fun y W=>opt (cmpD .lt x y) W) .mk) .mk:=rfl
theorem v_le {a b : E} : evE g (.cmp .le a b) e W = bnd (evE g a e W) (fun x W=>bnd (evE g b e W) (fun y W=>opt (cmpD .le x y) W) .mk) .mk:=rfl
theorem v_gt {a b : E} : evE g (.cmp .gt a b) e W = bnd (evE g a e W) (fun x W=>bnd (evE g b e W) (fun y W=>opt (cmpD .gt x y) W) .mk) .mk:=rfl
theorem v_ge {a b : E} : evE g (.cmp .ge a b) e W = bnd (evE g a e W) (fun x W=>bnd (evE g b e W) (fun y W=>opt (cmpD .ge x y) W) .mk) .mk:=rfl
theorem v_is {a b : E} : evE g (.cmp .isN a b) e W = bnd (evE g a e W) (fun x W=>bnd (evE g b e W) (fun y W=>opt (cmpD .isN x y) W) .mk) .mk:=rfl
theorem zZB9 {a b : E} : evE g (.cmp .notN a b) e W = bnd (evE g a e W) (fun x W=>bnd (evE g b e W) (fun y W=>opt (cmpD .notN x y) W) .mk) .mk:=rfl
def blK (A B : R D) : D → R D
 | .bl true=>A | .bl false=>B | _=>.st
theorem zZFN (A B : R D) (b : Bool) : blK A B (.bl b) = if b then A else B:=by cases b <;> rfl
theorem zZCP {o1 o2 : Cm} {a b c : E} : evE g (.chain o1 o2 a b c) e W = bnd (evE g a e W) (fun x W=>bnd (evE g b e W) (fun y W=>bnd (opt (cmpD o1 x y) W) (fun k W=>blK (bnd (evE g c e W) (fun z W=>opt (cmpD o2 y z) W) .mk) (.ok (.bl false) W) k) .mk) .mk) .mk:=by
 show (evE g a e W).bind _ = (evE g a e W).bind _
 refine congrArg (R.bind _) ?_
 funext x W
 show (evE g b e W).bind _ = (evE g b e W).bind _
 refine congrArg (R.bind _) ?_
 funext y W
 show (opt _ W).bind _ = (opt _ W).bind _
 refine congrArg (R.bind _) ?_
 funext k W
 cases k with
 | bl b=>cases b <;> rfl
 | _=>rfl
theorem zZGR {es : Es} : evE g (.and es) e W = evAnd g es e W:=rfl
theorem v_or {es : Es} : evE g (.or es) e W = evOr g es e W:=rfl
theorem zZDs {a : E} : evAnd g (.cons a .nil) e W = evE g a e W:=rfl
theorem zZGC {a : E} : evOr g (.cons a .nil) e W = evE g a e W:=rfl
theorem zZDm {a b : E} {es : Es} : evAnd g (.cons a (.cons b es)) e W = bnd (evE g a e W) (fun x W=>blK (evAnd g (.cons b es) e W) (.ok (.bl false) W) x) .mk:=by
 show (evE g a e W).bind _ = (evE g a e W).bind _
 refine congrArg (R.bind _) ?_
 funext x W
 cases x with
 | bl b=>cases b <;> rfl
 | _=>rfl
theorem zZE5 {a b : E} {es : Es} : evOr g (.cons a (.cons b es)) e W = bnd (evE g a e W) (fun x W=>blK (.ok (.bl true) W) (evOr g (.cons b es) e W) x) .mk:=by
 show (evE g a e W).bind _ = (evE g a e W).bind _
 refine congrArg (R.bind _) ?_
 funext x W
 cases x with
 | bl b=>cases b <;> rfl
 | _=>rfl
theorem zZGF {a : E} : evE g (.not a) e W = bnd (evE g a e W) (fun x W=>bnd (opt (truD x) W) (fun k W=>.ok (.bl (!k)) W) .mk) .mk:=rfl
theorem zZFm {f : Nat} {a : E} : evE g (.fld f a) e W = bnd (objOf a (evE g a) e W) (fun o W=>opt (fldD g f o) W) .mk:=rfl
theorem zZFj {a b : E} : evE g (.idx a b) e W = bnd (srcOf a (evE g a) e W) (fun s W=>bnd (evE g b e W) (fun i W=>opt ((items W s).bind fun xs=>atD xs i) W) .mk) .mk:=rfl
def slR (x : D) (l h : Option Int) (W : Wd) : R D:=match x with
  | .tup xs=>.ok (.tup (cutD xs l h)) W
  | .lst xs=>.ok (.lst (cutD xs l h)) W
  | .own n=>(match W[n]? with | some (.lst xs)=>.ok (.lst (cutD xs l h)) W | _=>.st)
  | _=>.st
theorem v_sl {a : E} {lo hi : Oe} : evE g (.sl a lo hi) e W = bnd (evE g a e W) (fun x W=>bnd (evO g lo e W) (fun l W=>bnd (evO g hi e W) (fun h W=>slR x l h W) .mk) .mk) .mk:=rfl
def tupR (xs : List D) (W : Wd) : R D:=if xs.length ≤ cap then .ok (.tup xs) W else .st
theorem zZCI {xs : List D} (h : xs.length ≤ cap) : tupR xs W = .ok (.tup xs) W:=if_pos h
theorem zZFl {es : Es} : evE g (.tup es) e W = bnd (evEs g es e W) tupR .mk:=rfl
theorem zZFf {f : Fe} : evE g (.frz f) e W = bnd (evF g f e W) (fun xs W=>.ok (.lst xs) W) .mk:=rfl
theorem zZDP {f : Fe} : evE g (.cell f) e W = bnd (evF g f e W) (fun xs W=>newCell (.lst xs) W) .mk:=rfl
theorem zZDX {f : Nat} {es : Es} : evE g (.call f es) e W = bnd (evEs g es e W) (fun xs W=>g.call f xs W) .mk:=rfl
def mkR (g : Cfg) (c : Nat) (fs : List (Nat × D)) (W : Wd) : R D:=if g.cellc c then newCell (.ins c fs) W else .ok (.ins c fs) W
theorem zZDr {c : Nat} {es : Es} : evE g (.make c es) e W = bnd (evEs g es e W) (fun xs W=>bnd (g.init c xs W) (mkR g c) .mk) .mk:=rfl
def methR (g : Cfg) (m : Nat) (o : D) (W : Wd) : R Nat:=match o with
   | .ins c fs=>if (fs.lookup m).isNone then opt (g.meth c m) W else .st
   | .own n=>(match W[n]? with | some (.ins c fs)=>if (fs.lookup m).isNone then opt (g.meth c m) W else .st | _=>.st)
   | _=>.st
theorem zZDH {m : Nat} {a : E} {es : Es} : evE g (.meth m a es) e W = bnd (evE g a e W) (fun o W=>bnd (methR g m o W) (fun f W=>bnd (evEs g es e W) (fun xs W=>g.call f (o :: xs) W) .mk) .mk) .mk:=rfl
theorem zZOD {b : B1} {a : E} (h : isConv b = true) : evE g (.b1 b a) e W = bnd (evE g a e W) (fun x W=>opt (conv b x) W) .mk:=by
 show (if isConv b then _ else _) = _
 rw [h]
 rfl
theorem zZC9 {a : E} : evE g (.b1 .int a) e W = bnd (evE g a e W) (fun x W=>opt (conv .int x) W) .mk:=rfl
theorem zZFb {a : E} : evE g (.b1 .len a) e W = bnd (srcOf a (evE g a) e W) (fun s W=>opt (b1D W .len s) W) .mk:=rfl
theorem zZCE {a : E} : evE g (.b1 .tuple a) e W = bnd (srcOf a (evE g a) e W) (fun s W=>opt (b1D W .tuple s) W) .mk:=rfl
theorem zZFQ {a : E} : evE g (.b1 .sum a) e W = bnd (srcOf a (evE g a) e W) (fun s W=>opt (b1D W .sum s) W) .mk:=rfl
theorem zZE9 {a : E} : evE g (.b1 .all a) e W = bnd (srcOf a (evE g a) e W) (fun s W=>opt (b1D W .all s) W) .mk:=rfl
theorem zZFW {a : E} : evE g (.b1 .any a) e W = bnd (srcOf a (evE g a) e W) (fun s W=>opt (b1D W .any s) W) .mk:=rfl
theorem zZF2 {a : E} {t : Ty} : evE g (.isi a t) e W = bnd (evE g a e W) (fun x W=>opt ((tyD x t).map .bl) W) .mk:=rfl
theorem zZBc {a b : E} : evE g (.index a b) e W = bnd (srcOf a (evE g a) e W) (fun s W=>if lstSrc W s then bnd (evE g b e W) (fun x W=>opt (idxG W s x) W) .mk else .st) .mk:=rfl
theorem zZCB {xs : List D} {l h : Option Int} : slR (.tup xs) l h W = .ok (.tup (cutD xs l h)) W:=rfl
theorem zZBu {xs : List D} {l h : Option Int} : slR (.lst xs) l h W = .ok (.lst (cutD xs l h)) W:=rfl
def objO (W : Wd) : Option Slot → R (Nat × List (Nat × D))
 | some (.oi c fs)=>.ok (c,fs) W
 | some (.val (.ins c fs))=>.ok (c,fs) W
 | some (.val (.own n))=>(match W[n]? with | some (.ins c fs)=>.ok (c,fs) W | _=>.st)
 | _=>.st
theorem zZDC {i : Nat} : objOf (.var i) (evE g (.var i)) e W = objO W e[i]? := by
 show (match e[i]? with | some (.oi c fs)=>R.ok (c,fs) W | some (.val (.ins c fs))=>.ok (c,fs) W | some (.val (.own n))=>(match W[n]? with | some (.ins c fs)=>.ok (c,fs) W | _=>.st) | _=>.st) = _
 unfold objO
 rcases e[i]? with _ | (_ | d | _ | _ | _ | _)
 ·rfl
 ·rfl
 ·cases d <;> rfl
 ·rfl
 ·rfl
 ·rfl
 ·rfl
theorem zZCA {c : Nat} {fs : List (Nat × D)} : objO W (some (.oi c fs)) = .ok (c,fs) W:=rfl
theorem zZBB {c : Nat} {fs : List (Nat × D)} : objO W (some (.val (.ins c fs))) = .ok (c,fs) W:=rfl
def objK : D → Wd → R (Nat × List (Nat × D))
 | .ins c fs,W=>.ok (c,fs) W
 | .own n,W=>(match W[n]? with | some (.ins c fs)=>.ok (c,fs) W | _=>.st)
 | _,_=>.st
theorem zZAo {c : Nat} {fs : List (Nat × D)} : objK (.ins c fs) W = .ok (c,fs) W:=rfl
theorem zZFa {a : E} (h : a.isVar = false) : objOf a (evE g a) e W = bnd (evE g a e W) objK .mk:=by
 have : objOf a (evE g a) e W = (evE g a e W).bind fun d W=>(match d with | .ins c fs=>R.ok (c,fs) W | .own n=>(match W[n]? with | some (.ins c fs)=>.ok (c,fs) W | _=>.st) | _=>.st):=by
  cases a <;> first | rfl | cases h
 rw [this]
 refine congrArg (R.bind _) ?_
 funext d W
 cases d <;> rfl
def fldR (f i : Nat) (e : Env) (d : D) (W : Wd) (g : Cfg) : R Fl:=match e[i]? with
    | some (.oi c fs)=>if g.fld c f && decide (fs.length < 100) then .ok (.nx (e.set i (.oi c (putFd f d fs)))) W else .st
    | some (.val (.own n))=>(match W[n]? with | some (.ins c fs)=>if g.fld c f && decide (fs.length < 100) then .ok (.nx e) (W.set n (.ins c (putFd f d fs))) else .st | _=>.st)
    | _=>.st
theorem zZGS {f i : Nat} {b : E} : exS g (.fld f (.var i) b) e W = bnd (evE g b e W) (fun d W=>fldR f i e d W g) .mk:=rfl
theorem zZCW : evO g .none e W = .ok none W:=rfl
def intR : D → Wd → R (Option Int)
 | .int i,W=>.ok (some i) W
 | _,_=>.st
theorem zZAr (i : Int) : intR (.int i) W = .ok (some i) W:=rfl
theorem zZB5 {a : E} : evO g (.some a) e W = bnd (evE g a e W) intR .mk:=by
 show (evE g a e W).bind _ = (evE g a e W).bind _
 refine congrArg (R.bind _) ?_
 funext x W
 cases x <;> rfl
theorem zZDV : evEs g .nil e W = .ok [] W:=rfl
theorem zZCK {a : E} {es : Es} : evEs g (.cons a es) e W = bnd (evE g a e W) (fun x W=>bnd (evEs g es e W) (fun xs W=>.ok (x :: xs) W) .mk) .mk:=rfl
def starR (g : Cfg) (es : Es) (e : Env) : D → Wd → R (List D)
 | .tup ys,W=>bnd (evEs g es e W) (fun xs W=>.ok (ys ++ xs) W) .mk
 | .lst ys,W=>bnd (evEs g es e W) (fun xs W=>.ok (ys ++ xs) W) .mk
 | _,_=>.st
theorem zZBt {a : E} {es : Es} : evEs g (.star a es) e W = bnd (evE g a e W) (starR g es e) .mk:=by
 show (evE g a e W).bind _ = (evE g a e W).bind _
 refine congrArg (R.bind _) ?_
 funext x W
 cases x <;> rfl
theorem xZ6 {es : Es} {ys : List D} : starR g es e (.tup ys) W = bnd (evEs g es e W) (fun xs W=>.ok (ys ++ xs) W) .mk:=rfl
theorem xZ9 {es : Es} {ys : List D} : starR g es e (.lst ys) W = bnd (evEs g es e W) (fun xs W=>.ok (ys ++ xs) W) .mk:=rfl
def dispR (xs : List D) (W : Wd) : R (List D):=if xs.length ≤ cap then .ok xs W else .st
theorem zZAz {xs : List D} (h : xs.length ≤ cap) : dispR xs W = .ok xs W:=if_pos h
theorem zZDJ {es : Es} : evF g (.disp es) e W = bnd (evEs g es e W) dispR .mk:=rfl
def ofR (s : Src) (W : Wd) : R (List D):=if s.isStr then .st else opt (items W s) W
theorem v_of {a : E} : evF g (.of a) e W = bnd (srcOf a (evE g a) e W) ofR .mk:=rfl
def slFR (s : Src) (l h : Option Int) (W : Wd) : R (List D):=if s.isStr || s.isTup then .st else opt ((items W s).map fun xs=>cutD xs l h) W
theorem zZEy {a : E} {lo hi : Oe} : evF g (.sl a lo hi) e W = bnd (srcOf a (evE g a) e W) (fun s W=>bnd (evO g lo e W) (fun l W=>bnd (evO g hi e W) (fun h W=>slFR s l h W) .mk) .mk) .mk:=rfl
def catR (xs ys : List D) (W : Wd) : R (List D):=if xs.length + ys.length ≤ cap then .ok (xs ++ ys) W else .st
def addR (s s2 : Src) (W : Wd) : R (List D):=if (s.isStr || s.isTup) || (s2.isStr || s2.isTup) then .st else bnd (opt (items W s) W) (fun xs W=>bnd (opt (items W s2) W) (fun ys W=>if xs.length + ys.length ≤ cap then .ok (xs ++ ys) W else .st) .mk) .mk
theorem zZGQ {a b : E} : evF g (.add a b) e W = bnd (srcOf a (evE g a) e W) (fun s W=>bnd (srcOf b (evE g b) e W) (addR s) .mk) .mk:=rfl
def slO (l h : Option Int) (W : Wd) : Option Cell → R D
 | some (.lst xs)=>.ok (.lst (cutD xs l h)) W
 | _=>.st
theorem zZBo {n : Nat} {l h : Option Int} : slR (.own n) l h W = slO l h W W[n]? := by
 show (match W[n]? with | some (Cell.lst xs)=>R.ok (D.lst (cutD xs l h)) W | _=>.st) = _
 unfold slO
 rcases W[n]? with _ | (_ | _ | _ | _) <;> rfl
theorem zZB1 {xs : List D} {l h : Option Int} : slO l h W (some (.lst xs)) = .ok (.lst (cutD xs l h)) W:=rfl
theorem zZCd {xs ys us vs : List D} (h : xs.length + ys.length ≤ cap) : addR (.frz xs (.lst us)) (.frz ys (.lst vs)) W = .ok (xs ++ ys) W:=by
 show (if xs.length + ys.length ≤ cap then R.ok (xs ++ ys) W else .st) = _
 rw [if_pos h]
theorem zZPH {i : Nat} {ns : List Int} (h : e[i]? = some (.val (.ext ns))) : evF g (.scr i) e W = .ok (ns.map D.int) W:=by
 show (match e[i]? with | some (.val (.ext ns))=>R.ok (ns.map D.int) W | _=>.st) = _
 rw [h]
def compR (g : Cfg) (elt : E) (t : Tg) (ifs : Es) (e : Env) (ds : List D × Bool) (W : Wd) : R (List D):=if ds.1.length ≤ cap then compL (fun d=>tgD t d (wipeE e (tgN t))) (evTs g ifs) (evE g elt) ds.1 W else .st
theorem zZDn {elt : E} {t : Tg} {it : It} {ifs : Es} : evF g (.comp elt t it ifs) e W = bnd (evIt g it e W) (compR g elt t ifs e) .mk:=rfl
theorem zZGE {a : E} (h : a.isVar = false) : srcOf a (evE g a) e W = bnd (evE g a e W) (fun d W=>opt (srcD d) W) .mk:=by
 cases a <;> first | rfl | cases h
def slotSrc (W : Wd) : Option Slot → Nat → R Src
 | some (.ol xs),i=>.ok (.slot i xs) W
 | some (.val d),_=>opt (srcD d) W
 | _,_=>.st
theorem zZCy {i : Nat} : srcOf (.var i) (evE g (.var i)) e W = slotSrc W e[i]? i:=by
 show (match e[i]? with | some (.ol xs)=>R.ok (Src.slot i xs) W | some (.val d)=>opt (srcD d) W | _=>.st) = _
 cases e[i]? with
 | none=>rfl
 | some s=>cases s <;> rfl
theorem zZDA : exS g .skip e W = .ok (.nx e) W:=rfl
def seqK (g : Cfg) (b : S) : Fl → Wd → R Fl
 | .nx e,W=>exS g b e W
 | f,W=>.ok f W
theorem zZCl {b : S} : seqK g b (.nx e) W = exS g b e W:=rfl
theorem zZCc {b : S} {d : D} : seqK g b (.rt d) W = .ok (.rt d) W:=rfl
theorem zZBz {b : S} : seqK g b (.bk e) W = .ok (.bk e) W:=rfl
theorem zZB0 {b : S} : seqK g b (.ct e) W = .ok (.ct e) W:=rfl
theorem zZD5 {a b : S} : exS g (.seq a b) e W = bnd (exS g a e W) (seqK g b) .mk:=by
 show (exS g a e W).bind _ = (exS g a e W).bind _
 refine congrArg (R.bind _) ?_
 funext x W
 cases x <;> rfl
theorem zZFZ {t : Tg} {a : E} : exS g (.asg t a) e W = bnd (evE g a e W) (fun d W=>bnd (opt (tgD t d e) W) (fun e W=>.ok (.nx e) W) .mk) .mk:=rfl
def ownR (i : Nat) (e : Env) (xs : List D) (W : Wd) : R Fl:=if i < e.length then .ok (.nx (e.set i (.ol xs))) W else .st
theorem zZB8 {i : Nat} {xs : List D} (h : i < e.length) : ownR i e xs W = .ok (.nx (e.set i (.ol xs))) W:=if_pos h
theorem zZDh {i : Nat} {f : Fe} : exS g (.asgO i f) e W = bnd (evF g f e W) (ownR i e) .mk:=rfl
def augD (op : Op) (x y : D) : Option D:=match x,y with | .int _,.int _=>binD op x y | _,_=>none
theorem zZAk {op : Op} {i j : Int} : augD op (.int i) (.int j) = binD op (.int i) (.int j):=rfl
def valR (i : Nat) (e : Env) (z : D) (W : Wd) : R Fl:=if i < e.length then .ok (.nx (e.set i (.val z))) W else .st
theorem zZCN {i : Nat} {z : D} (h : i < e.length) : valR i e z W = .ok (.nx (e.set i (.val z))) W:=if_pos h
theorem zZFG {i : Nat} {op : Op} {a : E} : exS g (.aug i op a) e W = bnd (opt (getV e i) W) (fun x W=>bnd (evE g a e W) (fun y W=>bnd (opt (augD op x y) W) (valR i e) .mk) .mk) .mk:=rfl
theorem zZD2 {a : E} : exS g (.expr a) e W = bnd (evE g a e W) (fun _ W=>.ok (.nx e) W) .mk:=rfl
theorem zZF5 {a : E} : exS g (.ret a) e W = bnd (evE g a e W) (fun d W=>.ok (.rt d) W) .mk:=rfl
theorem zZF7 {c : E} {a b : S} : exS g (.ite c a b) e W = bnd (evE g c e W) (fun x W=>bnd (opt (truD x) W) (fun k W=>if k then exS g a e W else exS g b e W) .mk) .mk:=rfl
def forR (g : Cfg) (t : Tg) (b : S) (e : Env) (ds : List D × Bool) (W : Wd) : R Fl:=if ds.2 then .st else forL (tgD t) (exS g b) ds.1 e W
theorem zZCi {t : Tg} {b : S} {ds : List D} : forR g t b e (ds,false) W = forL (tgD t) (exS g b) ds e W:=rfl
theorem zZGK {t : Tg} {it : It} {b : S} : exS g (.forS t it b) e W = bnd (evIt g it e W) (forR g t b e) .mk:=rfl
theorem zZBr {n : Nat} {c : E} {b : S} : exS g (.whil n c b) e W = whileL (evE g c) (exS g b) n e W:=rfl
theorem zZDj : exS g .pass e W = .ok (.nx e) W:=rfl
def frzR (i : Nat) (e : Env) (W : Wd) : R Fl:=match e[i]? with | some (.ol xs)=>.ok (.nx (e.set i (.val (.lst xs)))) W | some (.od kvs)=>.ok (.nx (e.set i (.val (.dtt kvs)))) W | some (.val _)=>.ok (.nx e) W | _=>.st
theorem zZAn {i : Nat} : exS g (.freeze i) e W = frzR i e W:=rfl
def idxR (d : D) (s : Src) (i : D) (e : Env) (W : Wd) : R Fl:=if s.isStr || s.isTup then .st else bnd (opt ((items W s).bind fun xs=>setAt xs i d) W) (fun ys W=>putList s ys e W) .mk
theorem zZE7 {a b x : E} : exS g (.idx a b x) e W = bnd (evE g x e W) (fun d W=>bnd (srcOf a (evE g a) e W) (fun s W=>bnd (evE g b e W) (fun i W=>idxR d s i e W) .mk) .mk) .mk:=rfl
def appR (s : Src) (d : D) (e : Env) (W : Wd) : R Fl:=bnd (opt (items W s) W) (fun xs W=>if xs.length < cap then putList s (xs ++ [d]) e W else .st) .mk
theorem zZAV {a x : E} : exS g (.append a x) e W = bnd (srcOf a (evE g a) e W) (fun s W=>if !lstSrc W s then .st else bnd (evE g x e W) (fun d W=>appR s d e W) .mk) .mk:=rfl
end
def whK (c : Env → Wd → R D) (body : Env → Wd → R Fl) (n : Nat) : Fl → Wd → R Fl
 | .nx e,W=>whileL c body n e W
 | .ct e,W=>whileL c body n e W
 | .bk e,W=>.ok (.nx e) W
 | .rt d,W=>.ok (.rt d) W
theorem yZu {c : Env → Wd → R D} {body : Env → Wd → R Fl} {n : Nat} {e : Env} {W : Wd} : whileL c body (n + 1) e W = bnd (c e W) (fun x W=>bnd (opt (truD x) W) (fun k W=>if k then bnd (body e W) (whK c body n) .mk else .ok (.nx e) W) .mk) .mk:=by
 show (c e W).bind _ = (c e W).bind _
 refine congrArg (R.bind _) ?_
 funext x W
 show (opt _ W).bind _ = (opt _ W).bind _
 refine congrArg (R.bind _) ?_
 funext k W
 cases k with
 | false=>rfl
 | true =>
  show (body e W).bind _ = (body e W).bind _
  refine congrArg (R.bind _) ?_
  funext f W
  cases f <;> rfl
theorem zZDE {c : Env → Wd → R D} {body : Env → Wd → R Fl} {n : Nat} {e : Env} {W : Wd} : whK c body n (.nx e) W = whileL c body n e W:=rfl
theorem zZCz {c : Env → Wd → R D} {body : Env → Wd → R Fl} {n : Nat} {e : Env} {W : Wd} : whK c body n (.ct e) W = whileL c body n e W:=rfl
theorem zZDZ {c : Env → Wd → R D} {body : Env → Wd → R Fl} {n : Nat} {e : Env} {W : Wd} : whK c body n (.bk e) W = .ok (.nx e) W:=rfl
theorem zZDq {c : Env → Wd → R D} {body : Env → Wd → R Fl} {n : Nat} {d : D} {W : Wd} : whK c body n (.rt d) W = .ok (.rt d) W:=rfl
def foK (tg : D → Env → Option Env) (body : Env → Wd → R Fl) (ds : List D) : Fl → Wd → R Fl
 | .nx e,W=>forL tg body ds e W
 | .ct e,W=>forL tg body ds e W
 | .bk e,W=>.ok (.nx e) W
 | .rt d,W=>.ok (.rt d) W
theorem zZD {tg : D → Env → Option Env} {body : Env → Wd → R Fl} {d : D} {ds : List D} {e : Env} {W : Wd} : forL tg body (d :: ds) e W = bnd (opt (tg d e) W) (fun e W=>bnd (body e W) (foK tg body ds) .mk) .mk:=by
 show (opt _ W).bind _ = (opt _ W).bind _
 refine congrArg (R.bind _) ?_
 funext k W
 show (body _ W).bind _ = (body _ W).bind _
 refine congrArg (R.bind _) ?_
 funext f W
 cases f <;> rfl
theorem xZl {tg : D → Env → Option Env} {body : Env → Wd → R Fl} {e : Env} {W : Wd} : forL tg body [] e W = .ok (.nx e) W:=rfl
theorem zZC4 {tg : D → Env → Option Env} {body : Env → Wd → R Fl} {ds : List D} {e : Env} {W : Wd} : foK tg body ds (.nx e) W = forL tg body ds e W:=rfl
theorem zZC3 {tg : D → Env → Option Env} {body : Env → Wd → R Fl} {ds : List D} {e : Env} {W : Wd} : foK tg body ds (.ct e) W = forL tg body ds e W:=rfl
theorem zZDv {tg : D → Env → Option Env} {body : Env → Wd → R Fl} {ds : List D} {e : Env} {W : Wd} : foK tg body ds (.bk e) W = .ok (.nx e) W:=rfl
theorem zZC5 {tg : D → Env → Option Env} {body : Env → Wd → R Fl} {ds : List D} {d : D} {W : Wd} : foK tg body ds (.rt d) W = .ok (.rt d) W:=rfl
def valO : Option Slot → Option D
 | some (.val d)=>some d
 | _=>none
theorem zZBl (e : Env) (i : Nat) : getV e i = valO e[i]? := by
 unfold getV valO
 cases e[i]? with
 | none=>rfl
 | some s=>cases s <;> rfl
theorem zZBK (d : D) : valO (some (.val d)) = some d:=rfl
theorem yZ4 (d : D) (W : Wd) (i : Nat) : slotSrc W (some (.val d)) i = opt (srcD d) W:=rfl
theorem xZW (xs : List D) (W : Wd) (i : Nat) : slotSrc W (some (.ol xs)) i = .ok (.slot i xs) W:=rfl
theorem zZFy {i : Nat} {d : D} {e : Env} (h : i < e.length) : tgD (.nm i) d e = some (e.set i (.val d)):=if_pos h
theorem zZDK {ts : Tgs} {xs : List D} {e : Env} : tgD (.tup ts) (.tup xs) e = tgsD ts xs e:=rfl
theorem zZCF {ts : Tgs} {xs : List D} {e : Env} : tgD (.tup ts) (.tupz xs) e = tgsD ts xs e:=rfl
theorem zZCJ {e : Env} : tgsD .nil [] e = some e:=rfl
theorem zZA8 {t : Tg} {ts : Tgs} {x : D} {xs : List D} {e : Env} : tgsD (.cons t ts) (x :: xs) e = (tgD t x e).bind fun e=>tgsD ts xs e:=rfl
theorem zZFU (i j : Int) : binD .add (.int i) (.int j) = some (.int (i + j)):=rfl
theorem zZF3 (i j : Int) : binD .sub (.int i) (.int j) = some (.int (i - j)):=rfl
theorem zZEu {i j : Int} (h : i.natAbs < limI ∨ j.natAbs < limI) : binD .mul (.int i) (.int j) = some (.int (i * j)):=if_pos h
theorem zZDy {i j : Int} (h : 0 < j ∧ j < 1073741824) : binD .fdiv (.int i) (.int j) = some (.int (i / j)):=if_pos h
theorem zZE4 {i j : Int} (h : 0 < j) : binD .mod (.int i) (.int j) = some (.int (i % j)):=if_pos h
theorem zZFL {i j : Int} (h : 0 ≤ j ∧ j ≤ 1000000 ∧ i.natAbs < limI) : binD .pow (.int i) (.int j) = some (.int (i ^ j.toNat)):=if_pos h
theorem c_lt (i j : Int) : cmpD .lt (.int i) (.int j) = some (.bl (decide (i < j))):=rfl
theorem c_le (i j : Int) : cmpD .le (.int i) (.int j) = some (.bl (decide (i ≤ j))):=rfl
theorem c_gt (i j : Int) : cmpD .gt (.int i) (.int j) = some (.bl (decide (j < i))):=rfl
theorem c_ge (i j : Int) : cmpD .ge (.int i) (.int j) = some (.bl (decide (j ≤ i))):=rfl
theorem zZGD (i j : Int) : cmpD .eq (.int i) (.int j) = some (.bl (decide (i = j))):=rfl
theorem zZGP (i j : Int) : cmpD .ne (.int i) (.int j) = some (.bl (!decide (i = j))):=rfl
theorem zZFh (i j : Bool) : cmpD .eq (.bl i) (.bl j) = some (.bl (decide (i = j))):=rfl
theorem zZFz (i j : Bool) : cmpD .ne (.bl i) (.bl j) = some (.bl (!decide (i = j))):=rfl
theorem zZFH (i j : Str) : cmpD .eq (.str i) (.str j) = some (.bl (decide (i = j))):=rfl
theorem zZFk (i j : Str) : cmpD .ne (.str i) (.str j) = some (.bl (!decide (i = j))):=rfl
theorem zZGw {n : Nat} (h : n ≤ cap) : -4611686018427387904 ≤ (n : Int) ∧ (n : Int) < 4611686018427387904:=by
 have e : cap = 1000000:=rfl
 omega
theorem zZFE : cmpD .eq .non .non = some (.bl true):=rfl
theorem zZEx (x : D) : cmpD .isN x .non = some (.bl (match x with | .non=>true | _=>false)):=by
 cases x <;> rfl
theorem t_bl (b : Bool) : truD (.bl b) = some b:=rfl
theorem zZFT (i : Int) : truD (.int i) = some (i != 0):=rfl
theorem zZFn (xs : List D) : truD (.lst xs) = some (!xs.isEmpty):=rfl
theorem zZEw (xs : List D) : truD (.tup xs) = some (!xs.isEmpty):=rfl
theorem zZF0 : truD .non = some false:=rfl
theorem zZFd (n : Nat) : srcD (.own n) = some (.cell n):=rfl
theorem zZFi (xs : List D) : srcD (.lst xs) = some (.frz xs (.lst xs)):=rfl
theorem zZFS (xs : List D) : srcD (.tup xs) = some (.frz xs (.tup xs)):=rfl
theorem zZFc (s : Str) : srcD (.str s) = some (.str s):=rfl
def cellO : Option Cell → Option (List D)
 | some (.lst xs)=>some xs
 | _=>none
theorem yZS (W : Wd) (n : Nat) : items W (.cell n) = cellO W[n]? := by
 show (match W[n]? with | some (.lst xs)=>some xs | _=>none) = _
 unfold cellO
 cases W[n]? with
 | none=>rfl
 | some c=>cases c <;> rfl
theorem zZAH (xs : List D) : cellO (some (.lst xs)) = some xs:=rfl
theorem zZF6 (W : Wd) (xs : List D) (d : D) : items W (.frz xs d) = some xs:=rfl
theorem zZDD (W : Wd) (xs : List D) (i : Nat) : items W (.slot i xs) = some xs:=rfl
theorem zZGH (W : Wd) (s : Src) : b1D W .len s = (items W s).map fun xs=>.int xs.length:=rfl
theorem zZFq (i : Int) : conv .int (.int i) = some (.int i):=rfl
theorem k_bl (b : Bool) : conv .int (.bl b) = some (.int (if b then 1 else 0)):=rfl
theorem zZOd {xs : List D} {n : Nat} (h : n < xs.length) : atD xs (.int (n : Int)) = some (xs.getD n .non):=by
 unfold atD L2.atI L2.ixN
 simp only []
 rw [if_pos (Int.natCast_nonneg n),if_pos (Int.ofNat_lt.mpr h)]
 simp [h]
theorem zZD1 {ns : List Int} {i : Int} (h0 : 0 ≤ i) (h1 : i < ns.length) : atD (ns.map .int) (.int i) = some (.int (ns.getD i.toNat 0)):=by
 unfold atD L2.atI L2.ixN
 simp only [List.length_map]
 rw [if_pos h0,if_pos h1]
 have : i.toNat < ns.length:=by omega
 simp [this]
theorem zZAy (x : D) (xs : List D) : atD (x :: xs) (.int 0) = some x:=by
 unfold atD L2.atI L2.ixN
 simp only []
 rw [if_pos (by decide),if_pos (by simp only [List.length_cons]; omega)]
 rfl
theorem zZAU (x : D) (xs : List D) {i : Int} (h : 0 < i) : atD (x :: xs) (.int i) = atD xs (.int (i - 1)):=by
 unfold atD L2.atI L2.ixN
 simp only [List.length_cons]
 by_cases q : i < ((xs.length + 1 : Nat) : Int)
 ·rw [if_pos (show 0 ≤ i by omega),if_pos q,if_pos (show 0 ≤ i - 1 by omega),if_pos (show i - 1 < (xs.length : Int) by omega)]
  simp only [Option.bind_some]
  rw [show i.toNat = (i - 1).toNat + 1 by omega]
  rfl
 ·rw [if_pos (show 0 ≤ i by omega),if_neg q,if_pos (show 0 ≤ i - 1 by omega),if_neg (show ¬ i - 1 < (xs.length : Int) by omega)]
  rfl
theorem xZF (s : Nat) (d : D) (i : D) (e : Env) (W : Wd) : idxR d (.cell s) i e W = bnd (opt ((cellO W[s]?).bind fun xs=>setAt xs i d) W) (fun ys W=>.ok (.nx e) (W.set s (.lst ys))) .mk:=by
 unfold idxR
 rw [if_neg (by simp [Src.isStr,Src.isTup]),yZS]
 rfl
theorem zZB3 (x : D) (xs : List D) (d : D) : setAt (x :: xs) (.int 0) d = some (d :: xs):=by
 unfold setAt L2.ixN
 simp only []
 rw [if_pos (by decide),if_pos (by simp only [List.length_cons]; omega)]
 rfl
theorem zZBY (x : D) (xs : List D) (d : D) {i : Int} (h : 0 < i) : setAt (x :: xs) (.int i) d = (setAt xs (.int (i - 1)) d).map (x :: ·):=by
 unfold setAt L2.ixN
 simp only [List.length_cons]
 by_cases q : i < ((xs.length + 1 : Nat) : Int)
 ·rw [if_pos (show 0 ≤ i by omega),if_pos q,if_pos (show 0 ≤ i - 1 by omega),if_pos (show i - 1 < (xs.length : Int) by omega)]
  simp only [Option.map_some]
  rw [show i.toNat = (i - 1).toNat + 1 by omega]
  rfl
 ·rw [if_pos (show 0 ≤ i by omega),if_neg q,if_pos (show 0 ≤ i - 1 by omega),if_neg (show ¬ i - 1 < (xs.length : Int) by omega)]
  rfl
theorem zZBs (n : Nat) (e : Env) : padE n e = e ++ List.replicate (n - e.length) .no:=rfl
section
variable {g : Cfg} {e : Env} {W : Wd}
def rng1 : D → Wd → R (List D × Bool)
 | .int j,W=>if smallI j then .ok (rangeD 0 j.toNat,false) W else .st
 | _,_=>.st
def rng2 : D → D → Wd → R (List D × Bool)
 | .int i,.int j,W=>if smallI i && smallI j then .ok (rangeD i (j - i).toNat,false) W else .st
 | _,_,_=>.st
theorem zZBC {a : E} : evIt g (.range1 a) e W = bnd (evE g a e W) rng1 .mk:=by
 show (evE g a e W).bind _ = (evE g a e W).bind _
 refine congrArg (R.bind _) ?_
 funext x W
 cases x <;> rfl
theorem zZBD {a b : E} : evIt g (.range2 a b) e W = bnd (evE g a e W) (fun x W=>bnd (evE g b e W) (rng2 x) .mk) .mk:=by
 show (evE g a e W).bind _ = (evE g a e W).bind _
 refine congrArg (R.bind _) ?_
 funext x W
 show (evE g b e W).bind _ = (evE g b e W).bind _
 refine congrArg (R.bind _) ?_
 funext y W
 cases x <;> cases y <;> rfl
theorem zZEr {i : Int} (h : -4611686018427387904 ≤ i ∧ i < 4611686018427387904) : smallI i = true:=by
 unfold smallI
 simp only [Bool.and_eq_true,decide_eq_true_eq]
 exact h
theorem zZBd {j : Int} (h : -4611686018427387904 ≤ j ∧ j < 4611686018427387904) : rng1 (.int j) W = .ok (rangeD 0 j.toNat,false) W:=by
 show (if smallI j then _ else _) = _
 rw [zZEr h]
 rfl
theorem zZCg {i j : Int} (h : -4611686018427387904 ≤ i ∧ i < 4611686018427387904) (h2 : -4611686018427387904 ≤ j ∧ j < 4611686018427387904) : rng2 (.int i) (.int j) W = .ok (rangeD i (j - i).toNat,false) W:=by
 show (if smallI i && smallI j then _ else _) = _
 rw [zZEr h,zZEr h2]
 rfl
def seqR (s : Src) (W : Wd) : R (List D × Bool):=if s.isIt then opt ((items W s).map fun xs=>(xs,s.isSlot)) W else .st
theorem zZGT {a : E} : evIt g (.seq a) e W = bnd (srcOf a (evE g a) e W) seqR .mk:=rfl
theorem zZAs {xs : List D} {d : D} : seqR (.frz xs d) W = .ok (xs,false) W:=rfl
theorem zZAE {xs : List D} {i : Nat} : seqR (.slot i xs) W = .ok (xs,true) W:=rfl
def enumR (s : Src) (W : Wd) : R (List D × Bool):=if s.isIt then opt ((items W s).map fun xs=>(enumD 0 xs,s.isSlot)) W else .st
theorem zZCx {a : E} : evIt g (.enum a) e W = bnd (srcOf a (evE g a) e W) enumR .mk:=rfl
theorem zZAD {xs : List D} {d : D} : enumR (.frz xs d) W = .ok (enumD 0 xs,false) W:=rfl
theorem xZh {xs : List D} {i : Nat} : enumR (.slot i xs) W = .ok (enumD 0 xs,true) W:=rfl
end
theorem range_zero (i : Int) : rangeD i 0 = []:=rfl
theorem range_succ (i : Int) (n : Nat) : rangeD i (n + 1) = .int i :: rangeD (i + 1) n:=by
 unfold rangeD
 rw [List.range_succ_eq_map,List.map_cons,List.map_map]
 refine List.cons_eq_cons.mpr ⟨by simp, ?_⟩
 apply List.map_congr_left
 intro k _
 show D.int (i + ((k + 1 : Nat) : Int)) = D.int (i + 1 + (k : Int))
 congr 1
 omega
theorem zZBP (i : Int) (n : Nat) : (rangeD i n).length = n:=by simp [rangeD]
end DL
set_option maxRecDepth 100000
set_option maxHeartbeats 4000000
namespace DL
open PySem (Str)
section
variable {g : Cfg} {e : Env} {W : Wd}
theorem zZB6 {f c : Nat} {fs : List (Nat × D)} : fldD g f (c,fs) = if g.fld c f then fs.lookup f else none:=rfl
theorem zZCO {a k : Nat} {b : D} {es : List (Nat × D)} : List.lookup a ((k,b) :: es) = if a = k then some b else List.lookup a es:=by
 rw [List.lookup_cons]
 by_cases h : a = k
 ·subst h; simp
 ·rw [if_neg h,beq_false_of_ne h]
theorem zZDb {a : Nat} : List.lookup a ([] : List (Nat × D)) = none:=rfl
theorem zZAl {m c : Nat} {fs : List (Nat × D)} : methR g m (.ins c fs) W = if (fs.lookup m).isNone then opt (g.meth c m) W else .st:=rfl
theorem zZDF {c : Nat} {fs : List (Nat × D)} : mkR g c fs W = if g.cellc c then newCell (.ins c fs) W else .ok (.ins c fs) W:=rfl
def fldO (f i : Nat) (e : Env) (d : D) (W : Wd) (g : Cfg) : Option Slot → R Fl
 | some (.oi c fs)=>if g.fld c f && decide (fs.length < 100) then .ok (.nx (e.set i (.oi c (putFd f d fs)))) W else .st
 | some (.val (.own n))=>(match W[n]? with | some (.ins c fs)=>if g.fld c f && decide (fs.length < 100) then .ok (.nx e) (W.set n (.ins c (putFd f d fs))) else .st | _=>.st)
 | _=>.st
def comp2R (g : Cfg) (elt : E) (t : Tg) (t2 : Tg) (it2 : It) (e : Env) (p : List D × Bool) (W : Wd) : R (List D):=comp2L (fun d=>tgD t d (wipeE e (tgN t ++ tgN t2))) (evIt g it2) (fun d e2=>tgD t2 d (wipeE e2 (tgN t2))) (evE g elt) 0 p.1 W
theorem zZBy {elt : E} {t t2 : Tg} {it it2 : It} : evF g (.comp2 elt t it t2 it2) e W = bnd (evIt g it e W) (comp2R g elt t t2 it2 e) .mk:=rfl
theorem zZFD {a b : E} : evE g (.ixd a b) e W = bnd (srcOf a (evE g a) e W) (fun s W=>if lstSrc W s then bnd (evE g b e W) (fun x W=>opt (ixdG W s x) W) .mk else .st) .mk:=rfl
theorem zZDR {A C : Type} {c : Nat} {p : D} {f : A → Wd → R C} {t : Tag f} : bnd (R.ex c p W) f t = .ex c p W:=rfl
theorem zZFI {a : E} : evE g (.b1 .max a) e W = bnd (srcOf a (evE g a) e W) (fun s W=>opt (b1D W .max s) W) .mk:=rfl
theorem zZAS (x : D) : cmpD .notN x .non = some (.bl (match x with | .non=>false | _=>true)):=by
 cases x <;> rfl
theorem zZDo (a b : Bool) : cmpD .notN (.bl a) (.bl b) = some (.bl (!decide (a = b))):=rfl
theorem zZBZ {f i : Nat} {d : D} : fldR f i e d W g = fldO f i e d W g e[i]? := by
 unfold fldR fldO
 rcases e[i]? with _ | (_ | d | _ | _ | _ | _)
 ·rfl
 ·rfl
 ·cases d <;> rfl
 ·rfl
 ·rfl
 ·rfl
 ·rfl
theorem zZCj {f i c : Nat} {fs : List (Nat × D)} {d : D} (h : fs.length < 100) : fldO f i e d W g (some (.oi c fs)) = if g.fld c f then .ok (.nx (e.set i (.oi c (putFd f d fs)))) W else .st:=by
 show (if g.fld c f && decide (fs.length < 100) then _ else _) = _
 simp [h]
theorem xZ8 {f : Nat} {d : D} : putFd f d [] = [(f,d)]:=rfl
theorem xZY {f g : Nat} {d x : D} {r : List (Nat × D)} : putFd f d ((g,x) :: r) = if g = f then (g,d) :: r else (g,x) :: putFd f d r:=rfl
def endO (c : Nat) (W : Wd) : Option Slot → R (List (Nat × D))
 | some (.oi c' fs)=>if c' = c then .ok fs W else .st
 | _=>.st
theorem zZCL {c : Nat} : endI c (.nx e) W = endO c W e[0]? := by
 show (match e[0]? with | some (Slot.oi c' fs)=>if c' = c then R.ok fs W else .st | _=>.st) = _
 unfold endO
 rcases e[0]? with _ | (_ | d | _ | _ | _ | _) <;> rfl
theorem zZBx {c : Nat} {fs : List (Nat × D)} : endO c W (some (.oi c fs)) = .ok fs W:=if_pos rfl
theorem zZGB {a : E} : evTs g (.cons a .nil) e W = bnd (evE g a e W) (fun x W=>bnd (opt (truD x) W) (fun k W=>.ok (.bl k) W) .mk) .mk:=rfl
def frzO (i : Nat) (e : Env) (W : Wd) : Option Slot → R Fl
 | some (.ol xs)=>.ok (.nx (e.set i (.val (.lst xs)))) W
 | some (.od kvs)=>.ok (.nx (e.set i (.val (.dtt kvs)))) W
 | some (.val _)=>.ok (.nx e) W
 | _=>.st
theorem zZB2 {i : Nat} : frzR i e W = frzO i e W e[i]? := by
 unfold frzR frzO
 rcases e[i]? with _ | (_ | d | _ | _ | _ | _) <;> rfl
theorem zZCT {i : Nat} {xs : List D} : frzO i e W (some (.ol xs)) = .ok (.nx (e.set i (.val (.lst xs)))) W:=rfl
theorem zZAh {i : Nat} {d : D} : frzO i e W (some (.val d)) = .ok (.nx e) W:=rfl
theorem zZCD {i : Nat} {kvs : List (List Int × D)} : frzO i e W (some (.od kvs)) = .ok (.nx (e.set i (.val (.dtt kvs)))) W:=rfl
theorem zZAY (W : Wd) (i : Nat) (xs : List D) : lstSrc W (.slot i xs) = true:=rfl
theorem zZCS (W : Wd) (xs ys : List D) : lstSrc W (.frz xs (.lst ys)) = true:=rfl
theorem zZAF {i : Nat} {xs : List D} {d : D} (h : xs.length < cap) : appR (.slot i xs) d e W = .ok (.nx (e.set i (.ol (xs ++ [d])))) W:=by
 show (if xs.length < cap then _ else _) = _
 rw [if_pos h]
 rfl
theorem zZBb {n m : Nat} : addR (.cell n) (.cell m) W = bnd (opt (cellO W[n]?) W) (fun xs W=>bnd (opt (cellO W[m]?) W) (fun ys W=>catR xs ys W) .mk) .mk:=by
 show bnd (opt (items W (.cell n)) W) (fun xs W=>bnd (opt (items W (.cell m)) W) (fun ys W=>if xs.length + ys.length ≤ cap then R.ok (xs ++ ys) W else .st) .mk) .mk = _
 rw [yZS]
 refine congrArg (R.bind _) ?_
 funext xs W
 rw [yZS]
 rfl
theorem xZ4 {n : Nat} {d : D} : appR (.cell n) d e W = bnd (opt (cellO W[n]?) W) (fun xs W=>if xs.length < cap then .ok (.nx e) (W.set n (.lst (xs ++ [d]))) else .st) .mk:=by
 unfold appR
 rw [yZS]
 rfl
theorem yZM {n : Nat} {xs : List D} (h : W[n]? = some (.lst xs)) : lstSrc W (.cell n) = true:=by
 unfold lstSrc
 rw [yZS,h]
 rfl
theorem zZDN (W : Wd) (xs : List D) (d : D) : b1D W .tuple (.frz xs d) = some (.tup xs):=rfl
theorem zZDg (W : Wd) (i : Nat) (xs : List D) : b1D W .tuple (.slot i xs) = some (.tup xs):=rfl
theorem zZBj {xs : List D} {d : D} : ofR (.frz xs d) W = .ok xs W:=rfl
theorem zZAd {xs : List D} {i : Nat} : ofR (.slot i xs) W = .ok xs W:=rfl
theorem zZCR {xs ys : List D} (h : xs.length + ys.length ≤ cap) : catR xs ys W = .ok (xs ++ ys) W:=if_pos h
theorem xZz {xs ys : List D} (h : xs.length + ys.length ≤ cap) : binD .add (.tup xs) (.tup ys) = some (.tup (xs ++ ys)):=if_pos h
theorem zZKd (k : Nat) (x : D) (xs : List D) : enumD k (x :: xs) = .tupz [.int k,x] :: enumD (k + 1) xs:=rfl
theorem zZLq (xs : List D) (k : Nat) : cutD xs none (some (k : Int)) = xs.take k:=by
 unfold cutD
 rw [HT.sIx_none,HT.sIx_nat,Nat.sub_zero,List.drop_zero]
 by_cases h : k ≤ xs.length
 ·rw [Nat.min_eq_left h]
 ·rw [Nat.min_eq_right (by omega),List.take_of_length_le (by omega),List.take_of_length_le (by omega)]
end
theorem zZMZ {tg : D → Option Env} {tst elt : Env → Wd → R D} {W : Wd} : compL tg tst elt [] W = .ok [] W:=rfl
theorem yZZ {tg : D → Option Env} {tst elt : Env → Wd → R D} {W W1 W2 : Wd} {d x : D} {ds xs : List D} {e1 : Env} (h1 : tg d = some e1) (h2 : tst e1 W = .ok (.bl true) W) (h3 : elt e1 W = .ok x W1) (h4 : compL tg tst elt ds W1 = .ok xs W2) :
  compL tg tst elt (d :: ds) W = .ok (x :: xs) W2:=by
 simp only [compL,h1,zZn,R.bind_ok,R.calm_ok,h2,h3,h4]
theorem zZNg {tg : D → Option Env} {tst elt : Env → Wd → R D} {W W2 : Wd} {d : D} {ds xs : List D} {e1 : Env} (h1 : tg d = some e1) (h2 : tst e1 W = .ok (.bl false) W) (h4 : compL tg tst elt ds W = .ok xs W2) :
  compL tg tst elt (d :: ds) W = .ok xs W2:=by
 simp only [compL,h1,zZn,R.bind_ok,R.calm_ok,h2,h4]
theorem xZO {g : Cfg} {e : Env} {W : Wd} : evTs g .nil e W = .ok (.bl true) W:=rfl
theorem yZa {g : Cfg} {elt : E} {t : Tg} {ifs : Es} {e : Env} {ds : List D} {b : Bool} {W : Wd} (h : ds.length ≤ cap) : compR g elt t ifs e (ds,b) W = compL (fun d=>tgD t d (wipeE e (tgN t))) (evTs g ifs) (evE g elt) ds W:=if_pos h
theorem zZH5 {α : Type} (f g : α → D) {c : Cfg} {tg : D → Option Env} {elt : Env → Wd → R D} {W : Wd} : ∀ xs : List α,(∀ x ∈ xs,∃ e1,tg (f x) = some e1 ∧ elt e1 W = .ok (g x) W) → compL tg (evTs c .nil) elt (xs.map f) W = .ok (xs.map g) W
 | [],_=>rfl
 | x :: xs,h=>by
  obtain ⟨e1,h1,h2⟩:=h x List.mem_cons_self
  rw [List.map_cons,List.map_cons]
  exact yZZ h1 xZO h2 (zZH5 f g xs fun y hy=>h y (List.mem_cons_of_mem _ hy))
theorem zZEN {α : Type} (f g : α → D) (p : α → Bool) {tg : D → Option Env} {tst elt : Env → Wd → R D} {W : Wd} : ∀ xs : List α,(∀ x ∈ xs,∃ e1,tg (f x) = some e1 ∧ tst e1 W = .ok (.bl (p x)) W ∧ (p x = true → elt e1 W = .ok (g x) W)) → compL tg tst elt (xs.map f) W = .ok ((xs.filter p).map g) W
 | [],_=>rfl
 | x :: xs,h=>by
  obtain ⟨e1,h1,h2,h3⟩:=h x List.mem_cons_self
  have ih:=zZEN f g p xs fun y hy=>h y (List.mem_cons_of_mem _ hy)
  rw [List.map_cons]
  cases hp : p x with
  | true =>
   rw [List.filter_cons_of_pos hp,List.map_cons]
   rw [hp] at h2
   exact yZZ h1 h2 (h3 hp) ih
  | false =>
   rw [List.filter_cons_of_neg (by simp [hp])]
   rw [hp] at h2
   exact zZNg h1 h2 ih
theorem zZm {g : Cfg} {elt : E} {t : Tg} {ifs : Es} {e : Env} {α : Type} (f gg : α → D) (p : α → Bool) (xs : List α) {b : Bool} {W : Wd} (h : xs.length ≤ cap)
  (hx : ∀ x ∈ xs,∃ e1,tgD t (f x) (wipeE e (tgN t)) = some e1 ∧ evTs g ifs e1 W = .ok (.bl (p x)) W ∧ (p x = true → evE g elt e1 W = .ok (gg x) W)) : compR g elt t ifs e (xs.map f,b) W = .ok ((xs.filter p).map gg) W:=by
 rw [yZa (by simpa using h)]
 exact zZEN f gg p xs hx
theorem yZV {g : Cfg} {elt : E} {t : Tg} {e : Env} {α : Type} (f gg : α → D) (xs : List α) {b : Bool} {W : Wd} (h : xs.length ≤ cap)
  (hx : ∀ x ∈ xs,∃ e1,tgD t (f x) (wipeE e (tgN t)) = some e1 ∧ evE g elt e1 W = .ok (gg x) W) : compR g elt t .nil e (xs.map f,b) W = .ok (xs.map gg) W:=by
 rw [yZa (by simpa using h)]
 exact zZH5 f gg xs hx
section
variable {g : Cfg} {e : Env} {W : Wd}
theorem zZFe {neg : Bool} {a b : E} : evE g (.ind neg a b) e W = bnd (evE g a e W) (fun x W=>bnd (srcOf b (evE g b) e W) (fun s W=>opt (indG neg W x s) W) .mk) .mk:=rfl
theorem zZC6 {neg : Bool} {x : D} {xs ys : List D} : indG neg W x (.frz xs (.lst ys)) = (indD x xs).map fun k=>.bl (if neg then !k else k):=rfl
theorem zZDd {neg : Bool} {x : D} {n : Nat} : indG neg W x (.cell n) = (cellO W[n]?).bind fun xs=>(indD x xs).map fun k=>.bl (if neg then !k else k):=by
 show (items W (.cell n)).bind _ = _
 rw [yZS]
def cellN (n : Nat) : Option Cell → Option (Nat × List D)
 | some (.lst xs)=>some (n,xs)
 | _=>none
theorem zZAB {n : Nat} : cellL (.own n) W = cellN n W[n]? := by
 show (match W[n]? with | some (.lst xs)=>some (n,xs) | _=>none) = _
 unfold cellN
 rcases W[n]? with _ | (_ | _ | _ | _) <;> rfl
theorem xZ0 {n : Nat} {xs : List D} : cellN n (some (.lst xs)) = some (n,xs):=rfl
theorem zZGO {a : E} {t : Ty} : evE g (.isw a t) e W = bnd (evE g a e W) (fun x W=>opt ((tyW W x t).map .bl) W) .mk:=rfl
def tyC (t : Ty) : Option Cell → Option Bool
 | some (.lst _)=>(match t with | .list=>some true | _=>some false)
 | _=>none
theorem zZBw {n : Nat} {t : Ty} : tyW W (.own n) t = tyC t W[n]? := by
 show (match W[n]? with | some (.lst _)=>_ | _=>none) = _
 unfold tyC
 rcases W[n]? with _ | (_ | _ | _ | _) <;> rfl
theorem zZB4 {xs : List D} {t : Ty} : tyC t (some (.lst xs)) = (match t with | .list=>some true | _=>some false):=rfl
theorem zZCh {t : Ty} : tyW W .non t = tyD .non t:=rfl
theorem zZDT {b : Bool} {t : Ty} : tyW W (.bl b) t = tyD (.bl b) t:=rfl
theorem zZCX {i : Int} {t : Ty} : tyW W (.int i) t = tyD (.int i) t:=rfl
theorem zZBk {s : Str} {t : Ty} : tyW W (.str s) t = tyD (.str s) t:=rfl
theorem zZCZ {xs : List D} {t : Ty} : tyW W (.tup xs) t = tyD (.tup xs) t:=rfl
theorem zZBn {xs : List D} {t : Ty} : tyW W (.lst xs) t = tyD (.lst xs) t:=rfl
def dctN (n : Nat) : Option Cell → Option (Nat × List (D × D))
 | some (.dct kvs)=>some (n,kvs)
 | _=>none
theorem yZq {n : Nat} : dctOf (.own n) W = dctN n W[n]? := by
 show (match W[n]? with | some (.dct kvs)=>some (n,kvs) | _=>none) = _
 unfold dctN
 rcases W[n]? with _ | (_ | _ | _ | _) <;> rfl
theorem zZA3 {n : Nat} {kvs : List (D × D)} : dctN n (some (.dct kvs)) = some (n,kvs):=rfl
theorem zZF1 {ks : List Str} {vs : Es} : evE g (.dsp ks vs) e W = bnd (evEs g vs e W) (fun xs W=>dspR ks xs W) .mk:=rfl
theorem zZMu {ks : List Str} {xs : List D} (h : (ks.length = xs.length ∧ ks.length ≤ 15) ∧ ks.Nodup) : dspR ks xs W = .ok (.own W.length) (W ++ [.dct ((ks.map D.str).zip xs)]):=if_pos h
theorem zZFu {a b : E} : evE g (.dgc a b) e W = bnd (evE g a e W) (fun x W=>bnd (evE g b e W) (fun y W=>dgcR x y W) .mk) .mk:=rfl
theorem zZDS {n : Nat} {k : Str} : dgcR (.own n) (.str k) W = opt ((dctN n W[n]?).bind fun p=>lookK (.inr k) p.2) W:=by
 unfold dgcR
 rw [yZq]
 rfl
theorem zZC1 {s : Str} : keyD (.str s) = some (.inr s):=rfl
theorem zZD3 {i : Int} : keyD (.int i) = some (.inl i):=rfl
def dputR (e : Env) (d s y : D) (W : Wd) : R Fl:=(opt (dctOf s W) W).bind fun p W=>(opt (keyD y) W).bind fun k W=>if p.2.length < cap then .ok (.nx e) (W.set p.1 (.dct (putKD k y d p.2))) else .st
theorem zZDa {a b x : E} : exS g (.dput a b x) e W = bnd (evE g x e W) (fun d W=>bnd (evE g a e W) (fun s W=>bnd (evE g b e W) (fun y W=>dputR e d s y W) .mk) .mk) .mk:=rfl
theorem zZDk {t : Tg} {en : Bool} {a : E} {b : S} : exS g (.forC t en a b) e W = bnd (evE g a e W) (fun d W=>bnd (opt (cellL d W) W) (fun p W=>forK (ckL g p.1 p.2) (tgD t) (exS g b) (enC en p.2) e W) .mk) .mk:=rfl
theorem zZE0 (xs : List D) : enC false xs = xs:=rfl
theorem zZFB (xs : List D) : enC true xs = enumD 0 xs:=rfl
def fokK (tg : D → Env → Option Env) (body : Env → Wd → R Fl) (ck : Wd → Bool) (ds : List D) : Fl → Wd → R Fl
 | .nx e,W=>forK ck tg body ds e W
 | .ct e,W=>forK ck tg body ds e W
 | .bk e,W=>.ok (.nx e) W
 | .rt d,W=>.ok (.rt d) W
theorem zZIG {ck : Wd → Bool} {tg : D → Env → Option Env} {body : Env → Wd → R Fl} (h : ck W = true) : forK ck tg body [] e W = .ok (.nx e) W:=if_pos h
theorem zZGs {ck : Wd → Bool} {tg : D → Env → Option Env} {body : Env → Wd → R Fl} {d : D} {ds : List D} (h : ck W = true) : forK ck tg body (d :: ds) e W = bnd (opt (tg d e) W) (fun e W=>bnd (body e W) (fokK tg body ck ds) .mk) .mk:=by
 show (if ck W = true then _ else _) = _
 rw [if_pos h]
 refine congrArg (R.bind _) ?_
 funext e W
 refine congrArg (R.bind _) ?_
 funext f W
 cases f <;> rfl
theorem zZCU {ck : Wd → Bool} {tg : D → Env → Option Env} {body : Env → Wd → R Fl} {ds : List D} : fokK tg body ck ds (.nx e) W = forK ck tg body ds e W:=rfl
theorem zZB7 {ck : Wd → Bool} {tg : D → Env → Option Env} {body : Env → Wd → R Fl} {ds : List D} : fokK tg body ck ds (.ct e) W = forK ck tg body ds e W:=rfl
theorem zZCQ {ck : Wd → Bool} {tg : D → Env → Option Env} {body : Env → Wd → R Fl} {ds : List D} : fokK tg body ck ds (.bk e) W = .ok (.nx e) W:=rfl
theorem zZCe {ck : Wd → Bool} {tg : D → Env → Option Env} {body : Env → Wd → R Fl} {ds : List D} {d : D} : fokK tg body ck ds (.rt d) W = .ok (.rt d) W:=rfl
def compCR (g : Cfg) (elt : E) (t : Tg) (ifs : Es) (e : Env) (en : Bool) (p : Nat × List D) (W : Wd) : R (List D):=if (enC en p.2).length ≤ cap then compKT (ckL g p.1 p.2) (fun d=>tgD t d (wipeE e (tgN t))) (evTs g ifs) (evE g elt) (enC en p.2) W else .st
theorem zZBg {elt : E} {t : Tg} {en : Bool} {a : E} {ifs : Es} : evF g (.compC elt t en a ifs) e W = bnd (evE g a e W) (fun d W=>bnd (opt (cellL d W) W) (fun p W=>compCR g elt t ifs e en p W) .mk) .mk:=rfl
theorem zZCt {α : Type} (f h : α → D) (p : α → Bool) {ck : Wd → Bool} {tg : D → Option Env} {tst elt : Env → Wd → R D} (hck : ck W = true) : ∀ xs : List α,(∀ x ∈ xs,∃ e1,tg (f x) = some e1 ∧ tst e1 W = .ok (.bl (p x)) W ∧ (p x = true → elt e1 W = .ok (h x) W)) → compKT ck tg tst elt (xs.map f) W = .ok ((xs.filter p).map h) W
 | [],_=>if_pos hck
 | x :: xs,hx=>by
  obtain ⟨e1,h1,h2,h3⟩:=hx x List.mem_cons_self
  have ih:=zZCt f h p hck xs fun y hy=>hx y (List.mem_cons_of_mem _ hy)
  rw [List.map_cons]
  unfold compKT
  rw [if_pos hck,h1]
  simp only [zZn,R.bind_ok,h2,R.calm_ok]
  cases hp : p x with
  | true =>
   rw [List.filter_cons_of_pos hp,List.map_cons]
   simp only [h3 hp,R.bind_ok,R.calm_ok,ih]
  | false =>
   rw [List.filter_cons_of_neg (by simp [hp])]
   exact ih
theorem zZJp {n : Nat} {xs : List D} (h : W[n]? = some (.lst xs)) : ckL g n xs W = true:=zZOg h
theorem zZHC {elt : E} {t : Tg} {ifs : Es} {α : Type} (f h : α → D) (p : α → Bool) (xs : List α) {n : Nat} (hw : W[n]? = some (.lst (xs.map f))) (hl : xs.length ≤ cap)
  (hx : ∀ x ∈ xs,∃ e1,tgD t (f x) (wipeE e (tgN t)) = some e1 ∧ evTs g ifs e1 W = .ok (.bl (p x)) W ∧ (p x = true → evE g elt e1 W = .ok (h x) W)) : compCR g elt t ifs e false (n,xs.map f) W = .ok ((xs.filter p).map h) W:=by
 unfold compCR
 rw [if_pos (by show (xs.map f).length ≤ cap; simpa using hl)]
 exact zZCt f h p (zZJp hw) xs hx
theorem zZFs {elt : E} {t : Tg} {α : Type} (f h : α → D) (xs : List α) {n : Nat} (hw : W[n]? = some (.lst (xs.map f))) (hl : xs.length ≤ cap)
  (hx : ∀ x ∈ xs,∃ e1,tgD t (f x) (wipeE e (tgN t)) = some e1 ∧ evE g elt e1 W = .ok (h x) W) : compCR g elt t .nil e false (n,xs.map f) W = .ok (xs.map h) W:=by
 have:=zZHC (elt:=elt) (ifs:=.nil) f h (fun _=>true) xs hw hl fun x hm=>by
  obtain ⟨e1,h1,h2⟩:=hx x hm
  exact ⟨e1,h1,xZO,fun _=>h2⟩
 rw [this,List.filter_eq_self.mpr (fun _ _=>rfl)]
def dputC (n : Nat) (k : Str) (d : D) (e : Env) (W : Wd) : Option Cell → R Fl
 | some (.dct kvs)=>if kvs.length < cap then .ok (.nx e) (W.set n (.dct (putKD (.inr k) (.str k) d kvs))) else .st
 | _=>.st
theorem zZAG {n : Nat} {k : Str} {d : D} : dputR e d (.own n) (.str k) W = dputC n k d e W W[n]? := by
 unfold dputR
 rw [yZq]
 unfold dputC
 rcases W[n]? with _ | (_ | _ | kvs | _) <;> rfl
theorem zZAC {n : Nat} {k : Str} {d : D} {kvs : List (D × D)} (h : kvs.length < cap) : dputC n k d e W (some (.dct kvs)) = .ok (.nx e) (W.set n (.dct (putKD (.inr k) (.str k) d kvs))):=if_pos h
def insN : Option Cell → Option (Nat × List (Nat × D))
 | some (.ins c fs)=>some (c,fs)
 | _=>none
theorem zZA2 {c : Nat} {fs : List (Nat × D)} : insN (some (.ins c fs)) = some (c,fs):=rfl
theorem zZBH {n : Nat} : objO W (some (.val (.own n))) = opt (insN W[n]?) W:=by
 show (match W[n]? with | some (.ins c fs)=>R.ok (c,fs) W | _=>.st) = _
 unfold insN
 rcases W[n]? with _ | (_ | _ | _ | _) <;> rfl
theorem zZBE {n : Nat} : objK (.own n) W = opt (insN W[n]?) W:=by
 show (match W[n]? with | some (.ins c fs)=>R.ok (c,fs) W | _=>.st) = _
 unfold insN
 rcases W[n]? with _ | (_ | _ | _ | _) <;> rfl
theorem zZAA {m n : Nat} : methR g m (.own n) W = bnd (opt (insN W[n]?) W) (fun o W=>if (o.2.lookup m).isNone then opt (g.meth o.1 m) W else .st) .mk:=by
 show (match W[n]? with | some (.ins c fs)=>if (fs.lookup m).isNone then opt (g.meth c m) W else .st | _=>.st) = _
 unfold insN
 rcases W[n]? with _ | (_ | _ | _ | _) <;> rfl
def fldC (f n : Nat) (e : Env) (d : D) (W : Wd) (g : Cfg) : Option Cell → R Fl
 | some (.ins c fs)=>if g.fld c f && decide (fs.length < 100) then .ok (.nx e) (W.set n (.ins c (putFd f d fs))) else .st
 | _=>.st
theorem zZAw {f i n : Nat} {d : D} : fldO f i e d W g (some (.val (.own n))) = fldC f n e d W g W[n]? := by
 show (match W[n]? with | some (.ins c fs)=>if g.fld c f && decide (fs.length < 100) then R.ok (Fl.nx e) (W.set n (.ins c (putFd f d fs))) else R.st | _=>R.st) = _
 unfold fldC
 rcases W[n]? with _ | (_ | _ | _ | _) <;> rfl
theorem zZAg {f n c : Nat} {fs : List (Nat × D)} {d : D} (h : fs.length < 100) : fldC f n e d W g (some (.ins c fs)) = if g.fld c f then .ok (.nx e) (W.set n (.ins c (putFd f d fs))) else .st:=by
 show (if g.fld c f && decide (fs.length < 100) then R.ok (Fl.nx e) (W.set n (.ins c (putFd f d fs))) else R.st) = _
 simp [h]
end
theorem zZG {xs : List D} {n : Nat} {x : D} (h : xs[n]? = some x) : atD xs (.int (n : Int)) = some x:=by
 have hl : n < xs.length:=(List.getElem?_eq_some_iff.mp h).1
 rw [zZOd hl]
 simp [List.getD,h]
theorem zZDc {α : Type} (f : α → D) (xs : List α) {i : Int} (h0 : 0 ≤ i) (h1 : i < xs.length) : ∃ x ∈ xs,atD (xs.map f) (.int i) = some (f x):=by
 obtain ⟨k,rfl⟩:=Int.eq_ofNat_of_zero_le h0
 have h2 : k < xs.length:=by omega
 exact ⟨xs[k],List.getElem_mem h2,zZG (by simp [h2])⟩
theorem zZD9 (x : Int) (xs : List Int) : inD (.int x) (xs.map .int) = some (decide (x ∈ xs)):=by
 have h1 : ∀ ys : List Int,(ys.map D.int).all flatD = true:=by
  intro ys
  induction ys with
  | nil=>rfl
  | cons y ys ih=>simp [flatD,ih]
 have h2 : ∀ ys : List Int,(ys.map D.int).any (fun y=>eqVD y (.int x)) = decide (x ∈ ys):=by
  intro ys
  induction ys with
  | nil=>rfl
  | cons y ys ih =>
   rw [List.map_cons,List.any_cons,ih]
   by_cases e : y = x
   ·simp [eqVD,e]
   ·simp [eqVD,e,show ¬ x = y from fun q=>e q.symm]
 unfold inD
 rw [h1,h2]
 rfl
theorem zZBi (W : Wd) (x : Int) (i : Nat) (xs : List Int) : inG false W (.int x) (.slot i (xs.map .int)) = some (.bl (decide (x ∈ xs))):=by
 show (inD (.int x) (xs.map .int)).map _ = _
 rw [zZD9]
 rfl
theorem xZL (W : Wd) (x : Int) (i : Nat) (xs : List Int) : inG true W (.int x) (.slot i (xs.map .int)) = some (.bl (!decide (x ∈ xs))):=by
 show (inD (.int x) (xs.map .int)).map _ = _
 rw [zZD9]
 rfl
theorem zZAT (W : Wd) (x : Int) (d : D) (xs : List Int) : inG false W (.int x) (.frz (xs.map .int) d) = some (.bl (decide (x ∈ xs))):=by
 show (inD (.int x) (xs.map .int)).map _ = _
 rw [zZD9]
 rfl
theorem zZC2 {neg : Bool} {x : D} {xs ys : List D} : indG neg W x (.frz xs (.tup ys)) = (indD x xs).map fun k=>.bl (if neg then !k else k):=rfl
theorem dk_v {i : Nat} {r : Env → Wd → R D} : dkOf (.var i) r e W = opt (odOf e[i]?) W:=rfl
theorem dk_n {a : E} {r : Env → Wd → R D} (h : a.isVar = false) : dkOf a r e W = bnd (r e W) (fun d W=>opt (dttOf d) W) .mk:=by
 unfold dkOf
 cases a <;> first | rfl | cases h
theorem zZCb {kvs : List (List Int × D)} : odOf (some (.od kvs)) = some kvs:=rfl
theorem zZA4 {d : D} : odOf (some (.val d)) = dttOf d:=rfl
theorem xZ5 {kvs : List (List Int × D)} : dttOf (.dtt kvs) = some kvs:=rfl
theorem zZE6 {a b : E} : evE g (.dtg a b) e W = bnd (dkOf a (evE g a) e W) (fun kvs W=>bnd (evE g b e W) (fun x W=>dtgR kvs x W) .mk) .mk:=rfl
theorem zZD0 {a b : Int} {kvs : List (List Int × D)} : dtgR kvs (.tup [.int a,.int b]) W = opt (lookT [a,b] kvs) W:=rfl
theorem zZDU {i : Nat} (h : i < e.length) : exS g (.asgE i) e W = .ok (.nx (e.set i (.od []))) W:=if_pos h
def putTR (i : Nat) (e : Env) (d : D) (kvs : List (List Int × D)) (y : D) (W : Wd) : R Fl:=(opt (keyI y) W).bind fun k W=>if kvs.length < cap then .ok (.nx (e.set i (.od (putT k d kvs)))) W else .st
theorem zZDi {i : Nat} {k x : E} : exS g (.putD i k x) e W = bnd (evE g x e W) (fun d W=>bnd (opt (odS e[i]?) W) (fun kvs W=>bnd (evE g k e W) (fun y W=>putTR i e d kvs y W) .mk) .mk) .mk:=rfl
theorem zZCw {kvs : List (List Int × D)} : odS (some (.od kvs)) = some kvs:=rfl
theorem zZCC {i : Nat} {d : D} {kvs : List (List Int × D)} {a b : Int} (h : kvs.length < cap) : putTR i e d kvs (.tup [.int a,.int b]) W = .ok (.nx (e.set i (.od (putT [a,b] d kvs)))) W:=if_pos h
def rgF (ds : List D × Bool) (W : Wd) : R (List D):=if ds.1.length ≤ cap then .ok ds.1 W else .st
theorem zZBA {it : It} : evF g (.range it) e W = bnd (evIt g it e W) rgF .mk:=rfl
theorem zZDI {ds : List D} {b : Bool} (h : ds.length ≤ cap) : rgF (ds,b) W = .ok ds W:=if_pos h
def forsS : S → List S
 | .seq (.forS _ _ b) r=>b :: forsS r
 | .seq _ r=>forsS r
 | _=>[]
end DL
set_option maxRecDepth 100000
set_option maxHeartbeats 4000000
namespace Gen
open DL
open PySem (Str)
abbrev top (i : Nat) : PySem.Stmt := PySem.Challenge.pw_vouchdoor_k50_picks_of_a_wallet.main.body.getD i (.Pass ⟨0, 0, 0, 0⟩)
abbrev inClass (s : PySem.Stmt) (j : Nat) : PySem.Stmt:=L2.inClass s j
abbrev zZCn : Nat:=0
abbrev zZI6 : Nat:=1
abbrev zZC0 : Nat:=2
abbrev xZR : Nat:=3
abbrev xZA : Nat:=4
abbrev xZK : Nat:=5
abbrev xZS : Nat:=6
abbrev zZGt : Nat:=7
abbrev zZAL : Nat:=8
abbrev xZE : Nat:=9
abbrev xZn : Nat:=10
abbrev xZq : Nat:=11
abbrev zZEQ : Nat:=12
abbrev zZA : Nat:=13
abbrev zZb : Nat:=14
abbrev yZn : Nat:=15
abbrev zZCv : Nat:=16
abbrev zZCa : Nat:=17
abbrev zZCu : Nat:=18
abbrev zZDW : Nat:=19
abbrev xZj : Nat:=20
abbrev zZC7 : Nat:=21
abbrev zZAq : Nat:=22
abbrev zZER : Nat:=23
abbrev zZCs : Nat:=24
abbrev zZA0 : Nat:=25
abbrev zZBO : Nat:=26
abbrev xZQ : Nat:=27
abbrev zZDL : Nat:=28
abbrev yZr : Nat:=29
abbrev zZBf : Nat:=30
abbrev zZBN : Nat:=31
abbrev zZDB : Nat:=32
abbrev zZJg : Nat:=33
abbrev zZIy : Nat:=0
abbrev zZFV : Nat:=1
abbrev zZEf : Nat:=2
abbrev zZCq : Nat:=3
abbrev zZH7 : Nat:=4
abbrev zZEo : Nat:=5
def yZf : S :=
 (.seq (.ite (.cmp .lt (.var 0) (.int 2))
 (.seq (.ret (.bl false))
 .skip)
 .skip)
 (.seq (.asg (.nm 1) (.int 2))
 (.seq (.whil 1000000007 (.cmp .le (.bin .mul (.var 1) (.var 1)) (.var 0))
 (.seq (.ite (.cmp .eq (.bin .mod (.var 0) (.var 1)) (.int 0))
 (.seq (.ret (.bl false))
 .skip)
 .skip)
 (.seq (.aug 1 .add (.int 1))
 .skip)))
 (.seq (.ret (.bl true))
 .skip))))
abbrev zZAP : FnD:=⟨1,2,yZf⟩
def xZk : S :=
 (.seq (.asg (.nm 3) (.bin .mod (.int 1) (.var 2)))
 (.seq (.asg (.nm 0) (.bin .mod (.var 0) (.var 2)))
 (.seq (.whil 1000000007 (.cmp .gt (.var 1) (.int 0))
 (.seq (.ite (.cmp .eq (.bin .mod (.var 1) (.int 2)) (.int 1))
 (.seq (.asg (.nm 3) (.bin .mod (.bin .mul (.var 3) (.var 0)) (.var 2)))
 .skip)
 .skip)
 (.seq (.asg (.nm 0) (.bin .mod (.bin .mul (.var 0) (.var 0)) (.var 2)))
 (.seq (.asg (.nm 1) (.bin .fdiv (.var 1) (.int 2)))
 .skip))))
 (.seq (.ret (.var 3))
 .skip))))
abbrev zZEA : FnD:=⟨3,4,xZk⟩
def zZv : S :=
 (.seq (.ite (.or (.cons (.not (.chain .lt .le (.int 2) (.var 1) (.int 1000000))) (.cons (.not (.call zZCn (.cons (.var 1) .nil))) .nil)))
 (.seq .never
 .skip)
 .skip)
 (.seq (.ite (.or (.cons (.cmp .lt (.var 2) (.int 2)) (.cons (.cmp .ne (.bin .mod (.bin .sub (.var 1) (.int 1)) (.var 2)) (.int 0)) (.cons (.not (.call zZCn (.cons (.var 2) .nil))) .nil))))
 (.seq .never
 .skip)
 .skip)
 (.seq (.ite (.not (.chain .le .le (.int 2) (.b1 .len (.var 3)) (.int 12)))
 (.seq .never
 .skip)
 .skip)
 (.seq (.forS (.tup (.cons (.nm 4) (.cons (.nm 5) .nil))) (.enum (.var 3))
 (.seq (.ite (.or (.cons (.not (.chain .lt .lt (.int 1) (.var 5) (.var 1))) (.cons (.cmp .ne (.call zZI6 (.cons (.var 5) (.cons (.var 2) (.cons (.var 1) .nil)))) (.int 1)) (.cons (.cmp .inn (.var 5) (.sl (.var 3) .none (.some (.var 4)))) .nil))))
 (.seq .never
 .skip)
 .skip)
 .skip))
 (.seq (.fld 2 (.var 0) (.var 1))
 (.seq (.fld 3 (.var 0) (.var 2))
 (.seq (.fld 4 (.var 0) (.b1 .tuple (.var 3)))
 .skip)))))))
abbrev yZe : FnD:=⟨4,6,zZv⟩
def xZP : S :=
 (.seq (.fld 12 (.var 0) (.var 1))
 (.seq (.fld 13 (.var 0) (.b1 .tuple (.var 2)))
 .skip))
abbrev yZj : FnD:=⟨3,3,xZP⟩
def yZT : S :=
 (.seq (.forS (.nm 2) (.seq (.var 0))
 (.seq (.ite (.cmp .eq (.fld 12 (.var 2)) (.var 1))
 (.seq (.ret (.var 2))
 .skip)
 .skip)
 .skip))
 (.seq (.ret .non)
 .skip))
abbrev xZM : FnD:=⟨2,3,yZT⟩
def yZg : S :=
 (.seq (.fld 19 (.var 0) (.var 1))
 (.seq (.fld 20 (.var 0) (.b1 .tuple (.var 2)))
 (.seq (.fld 42 (.var 0) (.var 3))
 (.seq (.fld 43 (.var 0) (.b1 .tuple (.frz (.compC (.b1 .tuple (.var 5)) (.nm 5) false (.var 4) .nil))))
 .skip))))
abbrev yZI : FnD:=⟨5,6,yZg⟩
def xZU : S :=
 (.seq (.ret (.call zZC0 (.cons (.fld 20 (.var 0)) (.cons (.idx (.idx (.fld 28 (.fld 42 (.var 0))) (.var 1)) (.int 1)) .nil))))
 .skip)
abbrev yZk : FnD:=⟨2,2,xZU⟩
def xZG : S :=
 (.seq (.asg (.nm 3) (.meth 30 (.fld 42 (.var 0)) (.cons (.var 1) .nil)))
 (.seq (.ret (.tup (.cons (.var 3) (.cons (.index (.frz (.comp (.var 4) (.tup (.cons (.nm 4) (.cons (.nm 5) .nil))) (.seq (.fld 13 (.meth 14 (.var 0) (.cons (.var 3) .nil)))) .nil)) (.var 2)) .nil))))
 .skip))
abbrev yZb : FnD:=⟨3,6,xZG⟩
def xZc : S :=
 (.seq (.ret (.idx (.idx (.fld 13 (.meth 14 (.var 0) (.cons (.idx (.var 1) (.int 0)) .nil))) (.idx (.var 1) (.int 1))) (.int 1)))
 .skip)
abbrev yZm : FnD:=⟨2,2,xZc⟩
def xZT : S :=
 (.seq (.ite (.cmp .eq (.idx (.var 1) (.int 0)) (.str "least"))
 (.seq (.ret (.frz (.range (.range2 (.idx (.var 1) (.int 3)) (.meth 39 (.var 0) (.cons (.meth 30 (.var 0) (.cons (.idx (.var 1) (.int 1)) (.cons (.idx (.var 1) (.int 2)) .nil))) .nil))))))
 .skip)
 .skip)
 (.seq (.ite (.cmp .eq (.idx (.var 1) (.int 0)) (.str "among"))
 (.seq (.ret (.frz (.of (.idx (.var 1) (.int 3)))))
 .skip)
 .skip)
 (.seq (.ret (.frz (.disp (.cons (.idx (.var 1) (.int 3)) .nil))))
 .skip)))
abbrev yZQ : FnD:=⟨2,2,xZT⟩
def xZe : S :=
 (.seq (.fld 47 (.var 0) (.var 1))
 (.seq (.fld 48 (.var 0) (.var 2))
 (.seq (.fld 49 (.var 0) (.b1 .tuple (.var 3)))
 .skip)))
abbrev yZh : FnD:=⟨4,4,xZe⟩
def yZp : S :=
 (.seq (.forS (.nm 2) (.seq (.fld 29 (.fld 42 (.var 0))))
 (.seq (.asg (.tup (.cons (.nm 4) (.cons (.nm 5) .nil))) (.meth 30 (.var 0) (.cons (.idx (.var 2) (.int 1)) (.cons (.idx (.var 2) (.int 2)) .nil))))
 (.seq (.asg (.nm 3) (.idx (.fld 49 (.idx (.var 1) (.var 4))) (.var 5)))
 (.seq (.ite (.cmp .eq (.idx (.var 2) (.int 0)) (.str "same"))
 (.seq (.asg (.tup (.cons (.nm 6) (.cons (.nm 7) .nil))) (.meth 30 (.var 0) (.cons (.idx (.var 2) (.int 3)) (.cons (.idx (.var 2) (.int 4)) .nil))))
 (.seq (.ite (.cmp .ne (.idx (.fld 49 (.idx (.var 1) (.var 6))) (.var 7)) (.var 3))
 (.seq (.ret (.bl false))
 .skip)
 .skip)
 .skip))
 (.seq (.ite (.and (.cons (.cmp .ne (.idx (.var 2) (.int 0)) (.str "tell")) (.cons (.cmp .notin (.var 3) (.call xZS (.cons (.var 0) (.cons (.var 2) .nil)))) .nil)))
 (.seq (.ret (.bl false))
 .skip)
 .skip)
 .skip))
 .skip))))
 (.seq (.ret (.bl true))
 .skip))
abbrev zZBU : FnD:=⟨2,8,yZp⟩
def yZ0 : S :=
 (.seq (.fld 19 (.var 0) (.var 1))
 (.seq (.fld 51 (.var 0) (.var 2))
 (.seq (.fld 59 (.var 0) (.cell (.disp .nil)))
 .skip)))
abbrev yZP : FnD:=⟨3,3,yZ0⟩
def zZAK : S :=
 (.seq (.append (.fld 59 (.var 0)) (.tup (.cons (.var 1) (.cons (.var 2) (.cons (.var 3) (.cons (.var 4) (.cons (.b1 .tuple (.var 5)) .nil)))))))
 .skip)
abbrev yZ7 : FnD:=⟨6,6,zZAK⟩
def zZF : S :=
 (.seq (.asgO 3 (.disp .nil))
 (.seq (.asg (.nm 4) (.frz (.comp (.sl (.var 10) .none (.some (.int 2))) (.nm 10) (.seq (.idx (.fld 43 (.var 1)) (.var 2))) .nil)))
 (.seq (.forC (.tup (.cons (.nm 5) (.cons (.nm 6) (.cons (.nm 7) (.cons (.nm 8) (.cons (.nm 9) .nil)))))) false (.fld 59 (.var 0))
 (.seq (.ite (.and (.cons (.cmp .eq (.var 7) (.idx (.idx (.fld 28 (.fld 42 (.var 1))) (.var 2)) (.int 1))) (.cons (.ind false (.tup (.cons (.var 5) (.cons (.var 6) .nil))) (.var 4)) .nil)))
 (.seq (.append (.var 3) (.make zZH7 (.cons (.ixd (.var 4) (.tup (.cons (.var 5) (.cons (.var 6) .nil)))) (.cons (.var 8) (.cons (.var 9) .nil)))))
 .skip)
 .skip)
 .skip))
 (.seq (.freeze 3)
 (.seq (.ret (.var 3))
 .skip)))))
abbrev yZd : FnD:=⟨3,11,zZF⟩
def zZj : S :=
 (.seq (.asg (.nm 2) (.frz (.disp (.cons (.frz (.disp .nil)) .nil))))
 (.seq (.forS (.nm 3) (.range1 (.b1 .len (.fld 28 (.fld 42 (.var 1)))))
 (.seq (.asg (.nm 2) (.frz (.comp2 (.frz (.add (.var 4) (.frz (.disp (.cons (.var 5) .nil))))) (.nm 4) (.seq (.var 2)) (.nm 5) (.seq (.meth 67 (.var 0) (.cons (.var 1) (.cons (.var 3) .nil)))))))
 .skip))
 (.seq (.forS (.nm 4) (.seq (.var 2))
 (.seq (.ite (.call zZGt (.cons (.var 1) (.cons (.var 4) .nil)))
 (.seq (.ret (.var 4))
 .skip)
 .skip)
 .skip))
 (.seq (.ret .non)
 .skip))))
abbrev yZt : FnD:=⟨2,6,zZj⟩
def yZ1 : S :=
 (.seq (.fld 28 (.var 0) (.b1 .tuple (.var 1)))
 (.seq (.fld 29 (.var 0) (.b1 .tuple (.var 2)))
 .skip))
abbrev yZN : FnD:=⟨3,3,yZ1⟩
def xZo : S :=
 (.seq (.ret (.index (.frz (.comp (.idx (.var 2) (.int 0)) (.nm 2) (.seq (.fld 28 (.var 0))) .nil)) (.var 1)))
 .skip)
abbrev yZv : FnD:=⟨2,3,xZo⟩
def zZBV : S :=
 (.seq (.ret (.cell (.disp (.cons (.frz (.scr 0)) (.cons (.int 0) (.cons (.int 0) (.cons (.int 1) (.cons (.int 0) (.cons (.var 1) .nil)))))))))
 .skip)
abbrev xZw : FnD:=⟨2,2,zZBV⟩
def zZBX : S :=
 (.seq (.ite (.and (.cons (.cmp .le (.idx (.var 0) (.int 2)) (.int 0)) (.cons (.cmp .le (.idx (.var 0) (.int 4)) (.int 0)) (.cons (.cmp .lt (.idx (.var 0) (.int 1)) (.b1 .len (.idx (.var 0) (.int 0)))) .nil))))
 (.seq (.asg (.nm 2) (.idx (.idx (.var 0) (.int 0)) (.idx (.var 0) (.int 1))))
 (.seq (.idx (.var 0) (.int 1) (.bin .add (.idx (.var 0) (.int 1)) (.int 1)))
 (.seq (.idx (.var 0) (.int 3) (.bin .mod (.b1 .int (.bin .add (.bin .mul (.idx (.var 0) (.int 3)) (.int 31)) (.var 2))) (.int 2147483647)))
 (.seq (.idx (.var 0) (.int 4) (.int 7))
 (.seq (.ite (.cmp .ge (.var 2) (.bin .pow (.int 10) (.int 18)))
 (.seq (.idx (.var 0) (.int 2) (.var 2))
 .skip)
 .skip)
 .skip)))))
 .skip)
 (.seq (.ite (.cmp .gt (.idx (.var 0) (.int 2)) (.int 0))
 (.seq (.asg (.nm 3) (.bin .mod (.b1 .int (.idx (.var 0) (.int 2))) (.var 1)))
 (.seq (.idx (.var 0) (.int 2) (.bin .fdiv (.idx (.var 0) (.int 2)) (.var 1)))
 (.seq (.idx (.var 0) (.int 4) (.int 0))
 (.seq (.ret (.var 3))
 .skip))))
 .skip)
 (.seq (.idx (.var 0) (.int 4) (.bin .sub (.idx (.var 0) (.int 4)) (.int 1)))
 (.seq (.idx (.var 0) (.int 3) (.bin .mod (.b1 .int (.bin .add (.bin .mul (.idx (.var 0) (.int 3)) (.int 48271)) (.int 12345))) (.int 2147483647)))
 (.seq (.ret (.bin .mod (.bin .mod (.b1 .int (.bin .add (.bin .mul (.idx (.var 0) (.int 3)) (.int 69621)) (.int 7919))) (.int 2147483647)) (.var 1)))
 .skip)))))
abbrev xZv : FnD:=⟨2,4,zZBX⟩
def zZZ : S :=
 (.seq (.ite (.or (.cons (.isw (.var 1) .tuple) (.cons (.isw (.var 1) .list) .nil)))
 (.seq (.ite (.or (.cons (.cmp .ne (.isw (.var 1) .tuple) (.isw (.var 0) .tuple)) (.cons (.cmp .ne (.isw (.var 1) .list) (.isw (.var 0) .list)) .nil)))
 (.seq (.ret (.bl false))
 .skip)
 .skip)
 (.seq (.ite (.cmp .ne (.b1 .len (.var 0)) (.b1 .len (.var 1)))
 (.seq (.ret (.bl false))
 .skip)
 .skip)
 (.seq (.forS (.nm 2) (.range1 (.b1 .len (.var 1)))
 (.seq (.ite (.not (.call zZb (.cons (.idx (.var 0) (.var 2)) (.cons (.idx (.var 1) (.var 2)) .nil))))
 (.seq (.ret (.bl false))
 .skip)
 .skip)
 .skip))
 (.seq (.ret (.bl true))
 .skip))))
 .skip)
 (.seq (.ite (.or (.cons (.cmp .isN (.var 1) .non) (.cons (.isw (.var 1) .bool) .nil)))
 (.seq (.ret (.and (.cons (.cmp .eq (.cmp .isN (.var 0) .non) (.cmp .isN (.var 1) .non)) (.cons (.or (.cons (.cmp .isN (.var 1) .non) (.cons (.isw (.var 0) .bool) .nil))) (.cons (.cmp .eq (.var 0) (.var 1)) .nil)))))
 .skip)
 .skip)
 (.seq (.ite (.isw (.var 1) .int)
 (.seq (.ret (.and (.cons (.isw (.var 0) .int) (.cons (.not (.isw (.var 0) .bool)) (.cons (.cmp .eq (.var 0) (.var 1)) .nil)))))
 .skip)
 .skip)
 (.seq (.ret (.and (.cons (.isw (.var 0) .str) (.cons (.cmp .eq (.var 0) (.var 1)) .nil))))
 .skip))))
abbrev yZE : FnD:=⟨2,3,zZZ⟩
def yZU : S :=
 (.seq (.asg (.nm 3) (.int 1))
 (.seq (.forS (.nm 4) (.range1 (.var 1))
 (.seq (.asg (.nm 3) (.bin .mod (.b1 .int (.bin .mul (.var 3) (.var 0))) (.var 2)))
 .skip))
 (.seq (.ret (.var 3))
 .skip)))
abbrev xZN : FnD:=⟨3,5,yZU⟩
def zZAI : S :=
 (.seq (.ret (.call yZn (.cons (.var 1) (.cons (.bin .mod (.b1 .int (.var 2)) (.idx (.var 0) (.int 1))) (.cons (.idx (.var 0) (.int 0)) .nil)))))
 .skip)
abbrev yZ8 : FnD:=⟨3,3,zZAI⟩
def yZH : S :=
 (.seq (.asg (.nm 2) (.int 1))
 (.seq (.forS (.tup (.cons (.nm 3) (.cons (.nm 4) .nil))) (.seq (.var 1))
 (.seq (.asg (.nm 2) (.bin .mod (.b1 .int (.bin .mul (.var 2) (.call zZCv (.cons (.var 0) (.cons (.var 3) (.cons (.var 4) .nil)))))) (.idx (.var 0) (.int 0))))
 .skip))
 (.seq (.ret (.var 2))
 .skip)))
abbrev yZz : FnD:=⟨2,5,yZH⟩
def zZAJ : S :=
 (.seq (.ret (.call zZCa (.cons (.var 0) (.cons (.frz (.comp (.tup (.cons (.idx (.idx (.var 0) (.int 2)) (.var 2)) (.cons (.idx (.var 1) (.var 2)) .nil))) (.nm 2) (.range1 (.b1 .len (.var 1))) .nil)) .nil))))
 .skip)
abbrev yZ9 : FnD:=⟨2,3,zZAJ⟩
def zZy : S :=
 (.seq (.asg (.nm 3) (.frz (.disp (.cons (.tup (.cons (.int 23) (.cons (.int 11) .nil))) (.cons (.tup (.cons (.int 47) (.cons (.int 23) .nil))) (.cons (.tup (.cons (.int 59) (.cons (.int 29) .nil))) (.cons (.tup (.cons (.int 103) (.cons (.int 17) .nil))) (.cons (.tup (.cons (.int 83) (.cons (.int 41) .nil))) (.cons (.tup (.cons (.int 137) (.cons (.int 17) .nil))) (.cons (.tup (.cons (.int 29) (.cons (.int 7) .nil))) (.cons (.tup (.cons (.int 607) (.cons (.int 101) .nil))) (.cons (.tup (.cons (.int 11) (.cons (.int 5) .nil))) (.cons (.tup (.cons (.int 53) (.cons (.int 13) .nil))) .nil)))))))))))))
 (.seq (.asg (.nm 3) (.frz (.comp (.var 14) (.nm 14) (.seq (.var 3)) (.cons (.and (.cons (.cmp .ge (.idx (.var 14) (.int 1)) (.var 2)) (.cons (.cmp .gt (.idx (.var 14) (.int 1)) (.var 1)) .nil))) .nil))))
 (.seq (.asg (.tup (.cons (.nm 11) (.cons (.nm 12) .nil))) (.idx (.var 3) (.call zZA (.cons (.var 0) (.cons (.b1 .len (.var 3)) .nil)))))
 (.seq (.asg (.nm 4) (.int 1))
 (.seq (.forS (.nm 5) (.range2 (.int 2) (.int 40))
 (.seq (.ite (.cmp .eq (.var 4) (.int 1))
 (.seq (.asg (.nm 4) (.call yZn (.cons (.var 5) (.cons (.bin .fdiv (.bin .sub (.var 11) (.int 1)) (.var 12)) (.cons (.var 11) .nil)))))
 .skip)
 .skip)
 .skip))
 (.seq (.asgO 6 (.disp .nil))
 (.seq (.asg (.nm 7) (.call zZA (.cons (.var 0) (.cons (.bin .sub (.var 12) (.int 1)) .nil))))
 (.seq (.asg (.nm 8) (.bin .add (.int 1) (.call zZA (.cons (.var 0) (.cons (.bin .sub (.var 12) (.int 2)) .nil)))))
 (.seq (.forS (.nm 9) (.range1 (.bin .sub (.var 12) (.int 1)))
 (.seq (.ite (.cmp .lt (.b1 .len (.var 6)) (.var 1))
 (.seq (.asg (.nm 10) (.bin .add (.int 1) (.bin .mod (.b1 .int (.bin .add (.var 7) (.bin .mul (.var 9) (.var 8)))) (.bin .sub (.var 12) (.int 1)))))
 (.seq (.asg (.nm 13) (.call yZn (.cons (.var 4) (.cons (.var 10) (.cons (.var 11) .nil)))))
 (.seq (.ite (.cmp .notin (.var 13) (.var 6))
 (.seq (.append (.var 6) (.var 13))
 .skip)
 .skip)
 .skip)))
 .skip)
 .skip))
 (.seq (.forS (.nm 10) (.range2 (.int 1) (.var 12))
 (.seq (.asg (.nm 13) (.call yZn (.cons (.var 4) (.cons (.var 10) (.cons (.var 11) .nil)))))
 (.seq (.ite (.and (.cons (.cmp .notin (.var 13) (.var 6)) (.cons (.cmp .lt (.b1 .len (.var 6)) (.var 1)) .nil)))
 (.seq (.append (.var 6) (.var 13))
 .skip)
 .skip)
 .skip)))
 (.seq (.freeze 6)
 (.seq (.ret (.tup (.cons (.var 11) (.cons (.var 12) (.cons (.var 6) .nil)))))
 .skip))))))))))))
abbrev xZZ : FnD:=⟨3,15,zZy⟩
def xZp : S :=
 (.seq (.ret (.frz (.comp (.call zZA (.cons (.var 0) (.cons (.idx (.var 1) (.int 1)) .nil))) (.nm 3) (.range1 (.var 2)) .nil)))
 .skip)
abbrev yZx : FnD:=⟨3,4,xZp⟩
def yZR : S :=
 (.seq (.asgO 2 (.disp .nil))
 (.seq (.forS (.nm 3) (.range1 (.bin .add (.int 1) (.call zZA (.cons (.var 0) (.cons (.int 2) .nil)))))
 (.seq (.asg (.nm 4) (.frz (.comp (.tup (.cons (.idx (.str "abcd") (.var 5)) (.cons (.bin .add (.int 1) (.call zZA (.cons (.var 0) (.cons (.var 1) .nil)))) .nil))) (.nm 5) (.range1 (.call zZA (.cons (.var 0) (.cons (.int 5) .nil)))) .nil)))
 (.seq (.append (.var 2) (.tup (.cons (.idx (.tup (.cons (.str "person") (.cons (.str "club") .nil))) (.var 3)) (.cons (.b1 .tuple (.var 4)) .nil))))
 .skip)))
 (.seq (.freeze 2)
 (.seq (.ret (.var 2))
 .skip))))
abbrev xZd : FnD:=⟨2,6,yZR⟩
def zZx : S :=
 (.seq (.asg (.nm 3) (.call zZDW (.cons (.var 0) (.cons (.bin .add (.int 6) (.call zZA (.cons (.var 0) (.cons (.int 7) .nil)))) (.cons (.int 17) .nil)))))
 (.seq (.asg (.nm 4) (.call zZC7 (.cons (.var 0) (.cons (.idx (.tup (.cons (.int 8) (.cons (.int 8) (.cons (.int 8) (.cons (.int 16) .nil))))) (.call zZA (.cons (.var 0) (.cons (.int 4) .nil)))) .nil))))
 (.seq (.asg (.nm 5) (.dsp [(PySem.Str.ofString "group"),(PySem.Str.ofString "kinds"),(PySem.Str.ofString "cards"),(PySem.Str.ofString "conditions"),(PySem.Str.ofString "rows"),(PySem.Str.ofString "picks")] (.cons (.var 3) (.cons (.var 4) (.cons (.cell (.disp .nil)) (.cons (.cell (.disp .nil)) (.cons (.cell (.disp .nil)) (.cons (.frz (.disp (.cons (.cell (.disp .nil)) (.cons (.cell (.disp .nil)) .nil)))) .nil))))))))
 (.seq (.dput (.var 5) (.str "secrets") (.call xZj (.cons (.var 0) (.cons (.var 3) (.cons (.int 2) .nil)))))
 (.seq (.forS (.nm 6) (.range1 (.bin .add (.int 1) (.call zZA (.cons (.var 0) (.cons (.var 1) .nil)))))
 (.seq (.asg (.tup (.cons (.nm 12) (.cons (.nm 13) .nil))) (.idx (.var 4) (.call zZA (.cons (.var 0) (.cons (.b1 .len (.var 4)) .nil)))))
 (.seq (.asg (.nm 8) (.idx (.frz (.disp (.cons (.tup (.cons (.str "town") .nil)) (.cons (.tup (.cons (.str "state") (.cons (.str "town") .nil))) (.cons (.tup (.cons (.str "town") (.cons (.str "state") (.cons (.str "land") .nil)))) .nil))))) (.call zZA (.cons (.var 0) (.cons (.int 3) .nil)))))
 (.seq (.asg (.nm 9) (.dgc (.var 5) (.str "cards")))
 (.seq (.append (.var 9) (.tup (.cons (.idx (.str "mow") (.var 6)) (.cons (.var 12) (.cons (.var 8) .nil)))))
 (.seq (.expr (.call zZER (.cons (.var 0) (.cons (.var 5) (.cons (.var 13) (.cons (.var 8) .nil))))))
 .skip))))))
 (.seq (.forS (.nm 7) (.range1 (.call zZA (.cons (.var 0) (.cons (.bin .add (.var 2) (.int 1)) .nil))))
 (.seq (.asg (.nm 10) (.call zZA0 (.cons (.var 0) (.cons (.var 5) .nil))))
 (.seq (.asg (.nm 11) (.dgc (.var 5) (.str "conditions")))
 (.seq (.ite (.cmp .notN (.var 10) .non)
 (.seq (.append (.var 11) (.var 10))
 .skip)
 .skip)
 .skip))))
 (.seq (.ret (.var 5))
 .skip)))))))
abbrev xZa : FnD:=⟨3,14,zZx⟩
def zZa : S :=
 (.seq (.asg (.nm 4) (.dgc (.var 1) (.str "group")))
 (.seq (.asg (.nm 5) (.frz (.disp (.cons (.cell (.disp .nil)) (.cons (.cell (.disp .nil)) .nil)))))
 (.seq (.forS (.tup (.cons (.nm 11) (.cons (.nm 12) .nil))) (.seq (.var 2))
 (.seq (.asg (.nm 13) (.call zZA (.cons (.var 0) (.cons (.var 12) .nil))))
 (.seq (.asg (.nm 14) (.var 13))
 (.seq (.ite (.cmp .eq (.call zZA (.cons (.var 0) (.cons (.int 2) .nil))) (.int 0))
 (.seq (.asg (.nm 14) (.call zZA (.cons (.var 0) (.cons (.var 12) .nil))))
 .skip)
 .skip)
 (.seq (.append (.idx (.var 5) (.int 0)) (.var 13))
 (.seq (.append (.idx (.var 5) (.int 1)) (.var 14))
 .skip))))))
 (.seq (.asg (.nm 6) (.bin .add (.int 2) (.call zZA (.cons (.var 0) (.cons (.int 3) .nil)))))
 (.seq (.asgO 7 (.disp (.cons (.call zZA (.cons (.var 0) (.cons (.var 6) .nil))) (.cons (.call zZA (.cons (.var 0) (.cons (.var 6) .nil))) .nil))))
 (.seq (.ite (.cmp .eq (.idx (.var 7) (.int 0)) (.idx (.var 7) (.int 1)))
 (.seq (.idx (.var 7) (.int 1) (.bin .mod (.b1 .int (.bin .add (.idx (.var 7) (.int 0)) (.int 1))) (.var 6)))
 .skip)
 .skip)
 (.seq (.asgO 8 (.disp .nil))
 (.seq (.forS (.nm 9) (.range1 (.var 6))
 (.seq (.asg (.nm 15) (.frz (.add (.call xZj (.cons (.var 0) (.cons (.var 4) (.cons (.int 2) .nil)))) (.frz (.comp (.call zZA (.cons (.var 0) (.cons (.var 12) .nil))) (.tup (.cons (.nm 11) (.cons (.nm 12) .nil))) (.seq (.var 2)) .nil)))))
 (.seq (.forS (.nm 16) (.range1 (.int 2))
 (.seq (.ite (.cmp .eq (.idx (.var 7) (.var 16)) (.var 9))
 (.seq (.asg (.nm 15) (.frz (.add (.frz (.disp (.cons (.idx (.var 15) (.int 0)) (.cons (.idx (.dgc (.var 1) (.str "secrets")) (.var 16)) .nil)))) (.idx (.var 5) (.var 16)))))
 (.seq (.asg (.nm 17) (.idx (.dgc (.var 1) (.str "picks")) (.var 16)))
 (.seq (.append (.var 17) (.tup (.cons (.var 9) (.cons (.idx (.var 15) (.int 0)) (.cons (.b1 .tuple (.idx (.var 5) (.var 16))) .nil)))))
 .skip)))
 .skip)
 .skip))
 (.seq (.append (.var 8) (.tup (.cons (.idx (.var 3) (.bin .fdiv (.bin .mul (.var 9) (.b1 .len (.var 3))) (.var 6))) (.cons (.var 9) (.cons (.call zZCu (.cons (.var 4) (.cons (.var 15) .nil))) .nil)))))
 .skip))))
 (.seq (.asg (.nm 10) (.dgc (.var 1) (.str "rows")))
 (.seq (.append (.var 10) (.b1 .tuple (.var 8)))
 .skip))))))))))
abbrev xZy : FnD:=⟨4,18,zZa⟩
def zZr : S :=
 (.seq (.asgO 1 (.disp .nil))
 (.seq (.forS (.nm 2) (.range1 (.b1 .len (.dgc (.var 0) (.str "cards"))))
 (.seq (.asg (.nm 3) (.idx (.frz (.comp (.var 3) (.tup (.cons (.nm 6) (.cons (.nm 3) .nil))) (.seq (.dgc (.var 0) (.str "kinds"))) (.cons (.cmp .eq (.var 6) (.idx (.idx (.dgc (.var 0) (.str "cards")) (.var 2)) (.int 1))) .nil))) (.int 0)))
 (.seq (.forS (.nm 4) (.range1 (.b1 .len (.var 3)))
 (.seq (.asg (.nm 5) (.tup (.cons (.idx (.idx (.dgc (.var 0) (.str "cards")) (.var 2)) (.int 0)) (.cons (.idx (.idx (.var 3) (.var 4)) (.int 0)) .nil))))
 (.seq (.append (.var 1) (.tup (.cons (.var 5) (.cons (.idx (.idx (.var 3) (.var 4)) (.int 1)) (.cons (.frz (.comp (.idx (.idx (.idx (.idx (.dgc (.var 0) (.str "picks")) (.var 7)) (.var 2)) (.int 2)) (.var 4)) (.nm 7) (.range1 (.int 2)) .nil)) .nil)))))
 .skip)))
 .skip)))
 (.seq (.freeze 1)
 (.seq (.ret (.var 1))
 .skip))))
abbrev yZ6 : FnD:=⟨1,8,zZr⟩
def xZB : S :=
 (.seq (.asg (.nm 2) (.call zZCs (.cons (.var 1) .nil)))
 (.seq (.ite (.cmp .eq (.b1 .len (.var 2)) (.int 0))
 (.seq (.ret .non)
 .skip)
 .skip)
 (.seq (.asg (.tup (.cons (.nm 5) (.cons (.nm 6) (.cons (.nm 7) .nil)))) (.idx (.var 2) (.call zZA (.cons (.var 0) (.cons (.b1 .len (.var 2)) .nil)))))
 (.seq (.asg (.nm 3) (.call zZA (.cons (.var 0) (.cons (.int 6) .nil))))
 (.seq (.ite (.and (.cons (.cmp .eq (.var 3) (.int 0)) (.cons (.cmp .eq (.idx (.var 7) (.int 0)) (.idx (.var 7) (.int 1))) .nil)))
 (.seq (.ret (.bin .add (.tup (.cons (.str "tell") .nil)) (.var 5)))
 .skip)
 .skip)
 (.seq (.ite (.and (.cons (.cmp .eq (.var 3) (.int 1)) (.cons (.cmp .eq (.idx (.var 7) (.int 0)) (.idx (.var 7) (.int 1))) .nil)))
 (.seq (.ret (.bin .add (.bin .add (.tup (.cons (.str "equal") .nil)) (.var 5)) (.tup (.cons (.idx (.var 7) (.int 0)) .nil))))
 .skip)
 .skip)
 (.seq (.ite (.cmp .lt (.var 3) (.int 4))
 (.seq (.ret (.bin .add (.bin .add (.tup (.cons (.str "least") .nil)) (.var 5)) (.tup (.cons (.call zZA (.cons (.var 0) (.cons (.bin .add (.b1 .min (.var 7)) (.int 1)) .nil))) .nil))))
 .skip)
 .skip)
 (.seq (.ite (.cmp .eq (.var 3) (.int 4))
 (.seq (.asg (.nm 8) (.frz (.add (.var 7) (.frz (.comp (.call zZA (.cons (.var 0) (.cons (.var 6) .nil))) (.nm 10) (.range1 (.call zZA (.cons (.var 0) (.cons (.int 3) .nil)))) .nil)))))
 (.seq (.ret (.bin .add (.bin .add (.tup (.cons (.str "among") .nil)) (.var 5)) (.tup (.cons (.b1 .tuple (.frz (.comp (.var 11) (.nm 11) (.range1 (.var 6)) (.cons (.cmp .inn (.var 11) (.var 8)) .nil)))) .nil))))
 .skip))
 .skip)
 (.seq (.asg (.nm 4) (.frz (.comp (.var 9) (.nm 9) (.seq (.var 2)) (.cons (.and (.cons (.cmp .ne (.idx (.var 9) (.int 0)) (.var 5)) (.cons (.cmp .eq (.idx (.var 9) (.int 2)) (.var 7)) .nil))) .nil))))
 (.seq (.ite (.cmp .eq (.b1 .len (.var 4)) (.int 0))
 (.seq (.ret .non)
 .skip)
 .skip)
 (.seq (.ret (.bin .add (.bin .add (.tup (.cons (.str "same") .nil)) (.var 5)) (.idx (.idx (.var 4) (.call zZA (.cons (.var 0) (.cons (.b1 .len (.var 4)) .nil)))) (.int 0))))
 .skip)))))))))))
abbrev yZc : FnD:=⟨2,12,xZB⟩
def xZg : S :=
 (.seq (.asg (.nm 1) (.dgc (.var 0) (.str "group")))
 (.seq (.asg (.nm 2) (.frz (.comp (.make zZFV (.cons (.var 4) (.cons (.var 5) .nil))) (.tup (.cons (.nm 4) (.cons (.nm 5) .nil))) (.seq (.dgc (.var 0) (.str "kinds"))) .nil)))
 (.seq (.asg (.nm 3) (.make zZEf (.cons (.dgc (.var 0) (.str "cards")) (.cons (.dgc (.var 0) (.str "conditions")) .nil))))
 (.seq (.ret (.make zZCq (.cons (.make zZIy (.cons (.idx (.var 1) (.int 0)) (.cons (.idx (.var 1) (.int 1)) (.cons (.idx (.var 1) (.int 2)) .nil)))) (.cons (.var 2) (.cons (.var 3) (.cons (.dgc (.var 0) (.str "rows")) .nil))))))
 .skip))))
abbrev yZl : FnD:=⟨1,6,xZg⟩
def zZBM : S :=
 (.seq (.asg (.nm 2) (.index (.frz (.compC (.idx (.var 4) (.int 0)) (.nm 4) false (.dgc (.var 0) (.str "cards")) .nil)) (.idx (.var 1) (.int 0))))
 (.seq (.asg (.nm 3) (.idx (.frz (.comp (.var 3) (.tup (.cons (.nm 5) (.cons (.nm 3) .nil))) (.seq (.dgc (.var 0) (.str "kinds"))) (.cons (.cmp .eq (.var 5) (.idx (.idx (.dgc (.var 0) (.str "cards")) (.var 2)) (.int 1))) .nil))) (.int 0)))
 (.seq (.ret (.tup (.cons (.var 2) (.cons (.index (.frz (.comp (.var 6) (.tup (.cons (.nm 6) (.cons (.nm 7) .nil))) (.seq (.var 3)) .nil)) (.idx (.var 1) (.int 1))) .nil))))
 .skip)))
abbrev xZX : FnD:=⟨2,8,zZBM⟩
def zZ7 : S :=
 (.seq (.asgE 1)
 (.seq (.forS (.nm 2) (.range1 (.b1 .len (.dgc (.var 0) (.str "cards"))))
 (.seq (.asg (.nm 3) (.idx (.frz (.comp (.var 3) (.tup (.cons (.nm 5) (.cons (.nm 3) .nil))) (.seq (.dgc (.var 0) (.str "kinds"))) (.cons (.cmp .eq (.var 5) (.idx (.idx (.dgc (.var 0) (.str "cards")) (.var 2)) (.int 1))) .nil))) (.int 0)))
 (.seq (.forS (.nm 4) (.range1 (.b1 .len (.var 3)))
 (.seq (.putD 1 (.tup (.cons (.var 2) (.cons (.var 4) .nil))) (.idx (.idx (.var 3) (.var 4)) (.int 1)))
 .skip))
 .skip)))
 (.seq (.freeze 1)
 (.seq (.ret (.var 1))
 .skip))))
abbrev xZf : FnD:=⟨1,6,zZ7⟩
def yZw : S :=
 (.seq (.ite (.cmp .eq (.idx (.var 1) (.int 0)) (.str "least"))
 (.seq (.ret (.frz (.range (.range2 (.idx (.var 1) (.int 3)) (.dtg (.call zZDL (.cons (.var 0) .nil)) (.call xZQ (.cons (.var 0) (.cons (.sl (.var 1) (.some (.int 1)) (.some (.int 3))) .nil))))))))
 .skip)
 .skip)
 (.seq (.ite (.cmp .eq (.idx (.var 1) (.int 0)) (.str "among"))
 (.seq (.ret (.frz (.of (.idx (.var 1) (.int 3)))))
 .skip)
 .skip)
 (.seq (.ret (.frz (.disp (.cons (.idx (.var 1) (.int 3)) .nil))))
 .skip)))
abbrev yZG : FnD:=⟨2,2,yZw⟩
def zZu : S :=
 (.seq (.forC (.nm 2) false (.dgc (.var 0) (.str "conditions"))
 (.seq (.asg (.tup (.cons (.nm 4) (.cons (.nm 5) .nil))) (.call xZQ (.cons (.var 0) (.cons (.sl (.var 2) (.some (.int 1)) (.some (.int 3))) .nil))))
 (.seq (.asg (.nm 3) (.idx (.idx (.idx (.var 1) (.var 4)) (.int 2)) (.var 5)))
 (.seq (.ite (.cmp .eq (.idx (.var 2) (.int 0)) (.str "same"))
 (.seq (.asg (.tup (.cons (.nm 6) (.cons (.nm 7) .nil))) (.call xZQ (.cons (.var 0) (.cons (.sl (.var 2) (.some (.int 3)) (.some (.int 5))) .nil))))
 (.seq (.ite (.cmp .ne (.idx (.idx (.idx (.var 1) (.var 6)) (.int 2)) (.var 7)) (.var 3))
 (.seq (.ret (.bl false))
 .skip)
 .skip)
 .skip))
 (.seq (.ite (.and (.cons (.cmp .ne (.idx (.var 2) (.int 0)) (.str "tell")) (.cons (.cmp .notin (.var 3) (.call yZr (.cons (.var 0) (.cons (.var 2) .nil)))) .nil)))
 (.seq (.ret (.bl false))
 .skip)
 .skip)
 .skip))
 .skip))))
 (.seq (.ret (.bl true))
 .skip))
abbrev yZs : FnD:=⟨2,8,zZu⟩
def zZN : S :=
 (.seq (.asgO 3 (.disp .nil))
 (.seq (.forS (.nm 4) (.range1 (.call zZA (.cons (.var 0) (.cons (.int 8) .nil))))
 (.seq (.asg (.nm 5) (.call zZA (.cons (.var 0) (.cons (.b1 .len (.dgc (.var 1) (.str "cards"))) .nil))))
 (.seq (.asg (.tup (.cons (.nm 7) (.cons (.nm 8) (.cons (.nm 9) .nil)))) (.idx (.idx (.dgc (.var 1) (.str "picks")) (.var 2)) (.var 5)))
 (.seq (.asg (.nm 6) (.call zZA (.cons (.var 0) (.cons (.int 6) .nil))))
 (.seq (.ite (.cmp .lt (.var 6) (.int 3))
 (.seq (.asg (.nm 7) (.call zZA (.cons (.var 0) (.cons (.b1 .len (.idx (.dgc (.var 1) (.str "rows")) (.var 5))) .nil))))
 (.seq (.asg (.nm 10) (.idx (.frz (.comp (.var 10) (.tup (.cons (.nm 14) (.cons (.nm 10) .nil))) (.seq (.dgc (.var 1) (.str "kinds"))) (.cons (.cmp .eq (.var 14) (.idx (.idx (.dgc (.var 1) (.str "cards")) (.var 5)) (.int 1))) .nil))) (.int 0)))
 (.seq (.asg (.nm 9) (.b1 .tuple (.frz (.comp (.call zZA (.cons (.var 0) (.cons (.var 16) .nil))) (.tup (.cons (.nm 15) (.cons (.nm 16) .nil))) (.seq (.var 10)) .nil))))
 .skip)))
 .skip)
 (.seq (.asg (.tup (.cons (.nm 11) (.cons (.nm 12) (.cons (.nm 13) .nil)))) (.idx (.idx (.dgc (.var 1) (.str "rows")) (.var 5)) (.var 7)))
 (.seq (.ite (.cmp .eq (.var 6) (.int 3))
 (.seq (.asg (.nm 12) (.bin .add (.var 12) (.int 9)))
 .skip)
 .skip)
 (.seq (.append (.var 3) (.tup (.cons (.var 11) (.cons (.var 12) (.cons (.idx (.idx (.dgc (.var 1) (.str "cards")) (.var 5)) (.int 1)) (.cons (.var 8) (.cons (.var 9) .nil)))))))
 .skip))))))))
 (.seq (.freeze 3)
 (.seq (.ret (.var 3))
 .skip))))
abbrev yZi : FnD:=⟨3,17,zZN⟩
def zZJ : S :=
 (.seq (.asg (.nm 2) (.frz (.disp (.cons (.frz (.disp .nil)) .nil))))
 (.seq (.forS (.nm 3) (.range1 (.b1 .len (.dgc (.var 0) (.str "cards"))))
 (.seq (.asgO 5 (.disp .nil))
 (.seq (.asg (.nm 6) (.frz (.comp (.sl (.var 7) .none (.some (.int 2))) (.nm 7) (.seq (.idx (.dgc (.var 0) (.str "rows")) (.var 3))) .nil)))
 (.seq (.forS (.nm 4) (.seq (.var 2))
 (.seq (.forS (.tup (.cons (.nm 8) (.cons (.nm 9) (.cons (.nm 10) (.cons (.nm 11) (.cons (.nm 12) .nil)))))) (.seq (.var 1))
 (.seq (.ite (.and (.cons (.cmp .eq (.var 10) (.idx (.idx (.dgc (.var 0) (.str "cards")) (.var 3)) (.int 1))) (.cons (.ind false (.tup (.cons (.var 8) (.cons (.var 9) .nil))) (.var 6)) .nil)))
 (.seq (.append (.var 5) (.frz (.add (.var 4) (.frz (.disp (.cons (.tup (.cons (.ixd (.var 6) (.tup (.cons (.var 8) (.cons (.var 9) .nil)))) (.cons (.var 11) (.cons (.var 12) .nil)))) .nil))))))
 .skip)
 .skip)
 .skip))
 .skip))
 (.seq (.freeze 5)
 (.seq (.asg (.nm 2) (.var 5))
 .skip))))))
 (.seq (.forS (.nm 4) (.seq (.var 2))
 (.seq (.ite (.call zZBf (.cons (.var 0) (.cons (.var 4) .nil)))
 (.seq (.ret (.var 4))
 .skip)
 .skip)
 .skip))
 (.seq (.ret .non)
 .skip))))
abbrev xZb : FnD:=⟨2,13,zZJ⟩
def zZl : S :=
 (.seq (.asg (.nm 1) (.call zZEQ (.cons (.var 0) (.cons (.int 0) .nil))))
 (.seq (.asg (.nm 2) (.call zZAq (.cons (.var 1) (.cons (.int 2) (.cons (.int 3) .nil)))))
 (.seq (.asg (.nm 3) (.dgc (.var 2) (.str "group")))
 (.seq (.asg (.nm 4) (.call zZA (.cons (.var 1) (.cons (.int 2) .nil))))
 (.seq (.asg (.nm 5) (.make zZEo (.cons (.make zZIy (.cons (.idx (.var 3) (.int 0)) (.cons (.idx (.var 3) (.int 1)) (.cons (.idx (.var 3) (.int 2)) .nil)))) (.cons (.idx (.dgc (.var 2) (.str "secrets")) (.var 4)) .nil))))
 (.seq (.asg (.nm 6) (.call zZBN (.cons (.var 1) (.cons (.var 2) (.cons (.var 4) .nil)))))
 (.seq (.forS (.tup (.cons (.nm 10) (.cons (.nm 11) (.cons (.nm 12) (.cons (.nm 13) (.cons (.nm 14) .nil)))))) (.seq (.var 6))
 (.seq (.expr (.meth 60 (.var 5) (.cons (.var 10) (.cons (.var 11) (.cons (.var 12) (.cons (.var 13) (.cons (.frz (.of (.var 14))) .nil)))))))
 .skip))
 (.seq (.ite (.not (.call zZb (.cons (.fld 59 (.var 5)) (.cons (.var 6) .nil))))
 (.seq (.ret (.bl false))
 .skip)
 .skip)
 (.seq (.asg (.nm 7) (.meth 52 (.var 5) (.cons (.call zZBO (.cons (.var 2) .nil)) .nil)))
 (.seq (.asg (.nm 8) (.call zZDB (.cons (.var 2) (.cons (.var 6) .nil))))
 (.seq (.ite (.or (.cons (.cmp .isN (.var 8) .non) (.cons (.cmp .isN (.var 7) .non) .nil)))
 (.seq (.ret (.and (.cons (.cmp .isN (.var 8) .non) (.cons (.cmp .isN (.var 7) .non) .nil))))
 .skip)
 .skip)
 (.seq (.asg (.nm 9) (.frz (.comp (.tup (.cons (.fld 47 (.var 15)) (.cons (.fld 48 (.var 15)) (.cons (.fld 49 (.var 15)) .nil)))) (.nm 15) (.seq (.var 7)) .nil)))
 (.seq (.ret (.and (.cons (.isi (.var 7) .list) (.cons (.call zZb (.cons (.var 9) (.cons (.var 8) .nil))) .nil))))
 .skip)))))))))))))
abbrev zZJx : FnD:=⟨1,16,zZl⟩
def fnL : List FnD:=[zZAP,zZEA,xZM,yZk,yZb,yZm,yZQ,zZBU,yZ7,yZd,yZt,yZv,xZw,xZv,yZE,xZN,yZ8,yZz,yZ9,xZZ,yZx,xZd,xZa,xZy,yZ6,yZc,yZl,xZX,xZf,yZG,yZs,yZi,xZb,zZJx]
def eqmL : List ((Nat × Nat) × Nat):=[]
def nemL : List ((Nat × Nat) × Nat):=[]
def iscL : List ((Nat × Nat) × Bool):=[]
def methL : List ((Nat × Nat) × Nat):=[((2,30),xZq),((3,30),xZA),((3,39),xZK),((3,14),xZR),((5,60),zZAL),((5,52),xZn),((5,67),xZE)]
def fldL : List (Nat × Nat):=[(0,2),(0,3),(0,4),(1,12),(1,13),(2,28),(2,29),(3,19),(3,20),(3,42),(3,43),(4,47),(4,48),(4,49),(5,19),(5,51),(5,59)]
def iniL : List FnD:=[yZe,yZj,yZN,yZI,yZh,yZP]
def cellL : List Nat:=[]
def xmL : List ((Nat × Nat) × Bool):=[]
def xisTL : List ((Nat × Nat) × Bool):=[]
def xnmL : List (Nat × Str):=[]
def rnmL : List (Nat × Str):=[]
def enmL : List (Nat × Str):=[]
def hnmL : List (Nat × Str):=[]
def xfL : List (Nat × Nat):=[]
def xivL : List (Nat × Bool):=[]
def T : Prog:=⟨fun f=>fnL[f]?,fun c=>iniL[c]?,fun c m=>methL.lookup (c,m),fun c=>cellL.contains c,fun c f=>fldL.contains (c,f),fun c d=>iscL.lookup (c,d),fun c d=>eqmL.lookup (c,d),fun k c=>xmL.lookup (k,c),fun k c=>xisTL.lookup (k,c),fun k=>xfL.lookup k,fun k=>xivL.lookup k,fun c d=>nemL.lookup (c,d)⟩
def anL : List Str:=[(PySem.Str.ofString "unknowns"),(PySem.Str.ofString "equations"),(PySem.Str.ofString "p"),(PySem.Str.ofString "q"),(PySem.Str.ofString "bases"),(PySem.Str.ofString "sides"),(PySem.Str.ofString "product"),(PySem.Str.ofString "raised"),(PySem.Str.ofString "statement"),(PySem.Str.ofString "choices"),(PySem.Str.ofString "is_element"),(PySem.Str.ofString "log"),(PySem.Str.ofString "name"),(PySem.Str.ofString "fields"),(PySem.Str.ofString "kind"),(PySem.Str.ofString "element"),(PySem.Str.ofString "first"),(PySem.Str.ofString "challenge"),(PySem.Str.ofString "state"),(PySem.Str.ofString "group"),(PySem.Str.ofString "kinds"),(PySem.Str.ofString "book"),(PySem.Str.ofString "requests"),(PySem.Str.ofString "ask"),(PySem.Str.ofString "request"),(PySem.Str.ofString "grant"),(PySem.Str.ofString "revoke"),(PySem.Str.ofString "counting"),(PySem.Str.ofString "cards"),(PySem.Str.ofString "conditions"),(PySem.Str.ofString "place"),(PySem.Str.ofString "words"),(PySem.Str.ofString "at"),(PySem.Str.ofString "word"),(PySem.Str.ofString "take"),(PySem.Str.ofString "take_name"),(PySem.Str.ofString "take_number"),(PySem.Str.ofString "pairs"),(PySem.Str.ofString "take_value"),(PySem.Str.ofString "size"),(PySem.Str.ofString "card"),(PySem.Str.ofString "condition"),(PySem.Str.ofString "policy"),(PySem.Str.ofString "rows"),(PySem.Str.ofString "places"),(PySem.Str.ofString "tells"),(PySem.Str.ofString "base"),(PySem.Str.ofString "row"),(PySem.Str.ofString "randomness"),(PySem.Str.ofString "numbers"),(PySem.Str.ofString "question"),(PySem.Str.ofString "secret"),(PySem.Str.ofString "picks"),(PySem.Str.ofString "tape"),(PySem.Str.ofString "begin"),(PySem.Str.ofString "reply"),(PySem.Str.ofString "fresh"),(PySem.Str.ofString "told"),(PySem.Str.ofString "finish"),(PySem.Str.ofString "holdings"),(PySem.Str.ofString "keep"),(PySem.Str.ofString "opens"),(PySem.Str.ofString "what"),(PySem.Str.ofString "known"),(PySem.Str.ofString "claim"),(PySem.Str.ofString "witness"),(PySem.Str.ofString "opening"),(PySem.Str.ofString "fitting")]
def anm (f : Nat) : Str:=anL.getD f ""
def fnmL : List (Option Str):=[some (PySem.Str.ofString "is_prime"),some (PySem.Str.ofString "power"),some (PySem.Str.ofString "kind_named"),none,none,none,some (PySem.Str.ofString "candidates"),some (PySem.Str.ofString "answers"),none,none,none,none,some (PySem.Str.ofString "_law_pool"),some (PySem.Str.ofString "_law_draw"),some (PySem.Str.ofString "_law_same"),some (PySem.Str.ofString "_law_power"),some (PySem.Str.ofString "_law_raised"),some (PySem.Str.ofString "_law_product"),some (PySem.Str.ofString "_law_commit"),some (PySem.Str.ofString "_law_group"),some (PySem.Str.ofString "_law_numbers"),some (PySem.Str.ofString "_law_kinds"),some (PySem.Str.ofString "_law_scene"),some (PySem.Str.ofString "_law_rows"),some (PySem.Str.ofString "_law_fields"),some (PySem.Str.ofString "_law_condition"),some (PySem.Str.ofString "_law_question"),some (PySem.Str.ofString "_law_place"),some (PySem.Str.ofString "_law_sizes"),some (PySem.Str.ofString "_law_allowed"),some (PySem.Str.ofString "_law_answers"),some (PySem.Str.ofString "_law_holdings"),some (PySem.Str.ofString "_law_first"),some (PySem.Str.ofString "law")]
def cnmL : List (Option Str):=[some (PySem.Str.ofString "Group"),some (PySem.Str.ofString "Kind"),some (PySem.Str.ofString "Policy"),some (PySem.Str.ofString "Question"),some (PySem.Str.ofString "Pick"),some (PySem.Str.ofString "Wallet")]
def bltL : List Str:=[(PySem.Str.ofString "bool"),(PySem.Str.ofString "enumerate"),(PySem.Str.ofString "int"),(PySem.Str.ofString "isinstance"),(PySem.Str.ofString "len"),(PySem.Str.ofString "list"),(PySem.Str.ofString "min"),(PySem.Str.ofString "range"),(PySem.Str.ofString "str"),(PySem.Str.ofString "tuple")]
def giL : List (Str × Int):=[("GREATEST",1000000),("MOST_BASES",12)]
def Z : Zs:=⟨anm,fun f=>fnmL.getD f none,fun c=>cnmL.getD c none,bltL,giL,fun c=>xnmL.lookup c,fun c=>rnmL.lookup c,fun c=>enmL.lookup c,fun c=>hnmL.lookup c⟩
abbrev yZK : PySem.Stmt:=top 2
theorem zZIu : L2.FnScope ["number","divisor"] ["number"] (L2.defScope yZK):=⟨rfl,rfl,rfl,by decide +kernel,rfl,by decide +kernel,by decide +kernel⟩
theorem zZIm : chkSs Z yZf ⟨["number","divisor"],(L2.defScope yZK).names,true,[],false⟩ (L2.defBody yZK) = true:=by decide +kernel
abbrev xZJ : PySem.Stmt:=top 3
theorem zZLp : L2.FnScope ["base","exponent","modulus","result"] ["base","exponent","modulus"] (L2.defScope xZJ):=⟨rfl,rfl,rfl,by decide +kernel,rfl,by decide +kernel,by decide +kernel⟩
theorem zZLf : chkSs Z xZk ⟨["base","exponent","modulus","result"],(L2.defScope xZJ).names,true,[],false⟩ (L2.defBody xZJ) = true:=by decide +kernel
abbrev zZR : PySem.Stmt:=inClass (top 10) 0
theorem zZEG : L2.FnScope ["self","p","q","bases","index","base"] ["self","p","q","bases"] (L2.defScope zZR):=⟨rfl,rfl,rfl,by decide +kernel,rfl,by decide +kernel,by decide +kernel⟩
theorem zZEL : chkSs Z zZv ⟨["self","p","q","bases","index","base"],(L2.defScope zZR).names,true,[],false⟩ (L2.defBody zZR) = true:=by decide +kernel
abbrev zZT : PySem.Stmt:=inClass (top 12) 0
theorem zZEU : L2.FnScope ["self","name","fields"] ["self","name","fields"] (L2.defScope zZT):=⟨rfl,rfl,rfl,by decide +kernel,rfl,by decide +kernel,by decide +kernel⟩
theorem zZEt : chkSs Z xZP ⟨["self","name","fields"],(L2.defScope zZT).names,true,[],false⟩ (L2.defBody zZT) = true:=by decide +kernel
abbrev zZz : PySem.Stmt:=top 13
theorem zZHG : L2.FnScope ["kinds","name","kind"] ["kinds","name"] (L2.defScope zZz):=⟨rfl,rfl,rfl,by decide +kernel,rfl,by decide +kernel,by decide +kernel⟩
theorem zZHN : chkSs Z yZT ⟨["kinds","name","kind"],(L2.defScope zZz).names,true,[],false⟩ (L2.defBody zZz) = true:=by decide +kernel
abbrev zZH : PySem.Stmt:=inClass (top 15) 0
theorem zZCp : L2.FnScope ["self","group","kinds","policy","rows","row"] ["self","group","kinds","policy","rows"] (L2.defScope zZH):=⟨rfl,rfl,rfl,by decide +kernel,rfl,by decide +kernel,by decide +kernel⟩
theorem zZCo : chkSs Z yZg ⟨["self","group","kinds","policy","rows","row"],(L2.defScope zZH).names,true,[],false⟩ (L2.defBody zZH) = true:=by decide +kernel
abbrev zZU : PySem.Stmt:=inClass (top 15) 1
theorem zZEk : L2.FnScope ["self","card"] ["self","card"] (L2.defScope zZU):=⟨rfl,rfl,rfl,by decide +kernel,rfl,by decide +kernel,by decide +kernel⟩
theorem zZEg : chkSs Z xZU ⟨["self","card"],(L2.defScope zZU).names,true,[],false⟩ (L2.defBody zZU) = true:=by decide +kernel
abbrev zZO : PySem.Stmt:=inClass (top 15) 2
theorem zZEH : L2.FnScope ["self","card","value","index","name","_"] ["self","card","value"] (L2.defScope zZO):=⟨rfl,rfl,rfl,by decide +kernel,rfl,by decide +kernel,by decide +kernel⟩
theorem zZEE : chkSs Z xZG ⟨["self","card","value","index","name","_"],(L2.defScope zZO).names,true,[],false⟩ (L2.defBody zZO) = true:=by decide +kernel
abbrev zZY : PySem.Stmt:=inClass (top 15) 3
theorem zZEd : L2.FnScope ["self","place"] ["self","place"] (L2.defScope zZY):=⟨rfl,rfl,rfl,by decide +kernel,rfl,by decide +kernel,by decide +kernel⟩
theorem zZEV : chkSs Z xZc ⟨["self","place"],(L2.defScope zZY).names,true,[],false⟩ (L2.defBody zZY) = true:=by decide +kernel
abbrev zZ6 : PySem.Stmt:=top 16
theorem zZHJ : L2.FnScope ["question","condition"] ["question","condition"] (L2.defScope zZ6):=⟨rfl,rfl,rfl,by decide +kernel,rfl,by decide +kernel,by decide +kernel⟩
theorem zZHQ : chkSs Z xZT ⟨["question","condition"],(L2.defScope zZ6).names,true,[],false⟩ (L2.defBody zZ6) = true:=by decide +kernel
abbrev zZS : PySem.Stmt:=inClass (top 18) 0
theorem zZEj : L2.FnScope ["self","row","randomness","numbers"] ["self","row","randomness","numbers"] (L2.defScope zZS):=⟨rfl,rfl,rfl,by decide +kernel,rfl,by decide +kernel,by decide +kernel⟩
theorem zZET : chkSs Z xZe ⟨["self","row","randomness","numbers"],(L2.defScope zZS).names,true,[],false⟩ (L2.defBody zZS) = true:=by decide +kernel
abbrev yZX : PySem.Stmt:=top 19
theorem zZJY : L2.FnScope ["question","picks","row","number","card","value","other","place"] ["question","picks"] (L2.defScope yZX):=⟨rfl,rfl,rfl,by decide +kernel,rfl,by decide +kernel,by decide +kernel⟩
theorem zZJu : chkSs Z yZp ⟨["question","picks","row","number","card","value","other","place"],(L2.defScope yZX).names,true,[],false⟩ (L2.defBody yZX) = true:=by decide +kernel
abbrev zZK : PySem.Stmt:=inClass (top 21) 0
theorem zZDG : L2.FnScope ["self","group","secret"] ["self","group","secret"] (L2.defScope zZK):=⟨rfl,rfl,rfl,by decide +kernel,rfl,by decide +kernel,by decide +kernel⟩
theorem zZC8 : chkSs Z yZ0 ⟨["self","group","secret"],(L2.defScope zZK).names,true,[],false⟩ (L2.defBody zZK) = true:=by decide +kernel
abbrev zZo : PySem.Stmt:=inClass (top 21) 3
theorem zZGc : L2.FnScope ["self","issuer","index","kind","randomness","values"] ["self","issuer","index","kind","randomness","values"] (L2.defScope zZo):=⟨rfl,rfl,rfl,by decide +kernel,rfl,by decide +kernel,by decide +kernel⟩
theorem zZGg : chkSs Z zZAK ⟨["self","issuer","index","kind","randomness","values"],(L2.defScope zZo).names,true,[],false⟩ (L2.defBody zZo) = true:=by decide +kernel
abbrev zZQ : PySem.Stmt:=inClass (top 21) 4
theorem zZEI : L2.FnScope ["self","question","card","found","rows","issuer","index","kind","randomness","values","row"] ["self","question","card"] (L2.defScope zZQ):=⟨rfl,rfl,rfl,by decide +kernel,rfl,by decide +kernel,by decide +kernel⟩
theorem zZEF : chkSs Z zZF ⟨["self","question","card","found","rows","issuer","index","kind","randomness","values","row"],(L2.defScope zZQ).names,true,[],false⟩ (L2.defBody zZQ) = true:=by decide +kernel
abbrev zZf : PySem.Stmt:=inClass (top 21) 5
theorem zZEz : L2.FnScope ["self","question","found","card","row","pick"] ["self","question"] (L2.defScope zZf):=⟨rfl,rfl,rfl,by decide +kernel,rfl,by decide +kernel,by decide +kernel⟩
theorem zZGJ : chkSs Z zZj ⟨["self","question","found","card","row","pick"],(L2.defScope zZf).names,true,[],false⟩ (L2.defBody zZf) = true:=by decide +kernel
abbrev zZL : PySem.Stmt:=inClass (top 23) 0
theorem zZDl : L2.FnScope ["self","cards","conditions"] ["self","cards","conditions"] (L2.defScope zZL):=⟨rfl,rfl,rfl,by decide +kernel,rfl,by decide +kernel,by decide +kernel⟩
theorem zZDz : chkSs Z yZ1 ⟨["self","cards","conditions"],(L2.defScope zZL).names,true,[],false⟩ (L2.defBody zZL) = true:=by decide +kernel
abbrev zZg : PySem.Stmt:=inClass (top 23) 2
theorem zZGG : L2.FnScope ["self","card","row"] ["self","card"] (L2.defScope zZg):=⟨rfl,rfl,rfl,by decide +kernel,rfl,by decide +kernel,by decide +kernel⟩
theorem zZFA : chkSs Z xZo ⟨["self","card","row"],(L2.defScope zZg).names,true,[],false⟩ (L2.defBody zZg) = true:=by decide +kernel
abbrev yZB : PySem.Stmt:=top 25
theorem zZIY : L2.FnScope ["_law_script","_law_budget"] ["_law_script","_law_budget"] (L2.defScope yZB):=⟨rfl,rfl,rfl,by decide +kernel,rfl,by decide +kernel,by decide +kernel⟩
theorem zZHf : chkSs Z zZBV ⟨["_law_script","_law_budget"],(L2.defScope yZB).names,true,[],false⟩ (L2.defBody yZB) = true:=by decide +kernel
abbrev yZD : PySem.Stmt:=top 26
theorem zZIZ : L2.FnScope ["_law_pool_here","_law_size","_law_cell","_law_value"] ["_law_pool_here","_law_size"] (L2.defScope yZD):=⟨rfl,rfl,rfl,by decide +kernel,rfl,by decide +kernel,by decide +kernel⟩
theorem zZH2 : chkSs Z zZBX ⟨["_law_pool_here","_law_size","_law_cell","_law_value"],(L2.defScope yZD).names,true,[],false⟩ (L2.defBody yZD) = true:=by decide +kernel
abbrev yZF : PySem.Stmt:=top 27
theorem zZHy : L2.FnScope ["_law_actual","_law_due","_law_k"] ["_law_actual","_law_due"] (L2.defScope yZF):=⟨rfl,rfl,rfl,by decide +kernel,rfl,by decide +kernel,by decide +kernel⟩
theorem zZHe : chkSs Z zZZ ⟨["_law_actual","_law_due","_law_k"],(L2.defScope yZF).names,true,[],false⟩ (L2.defBody yZF) = true:=by decide +kernel
abbrev zZ0 : PySem.Stmt:=top 28
theorem zZHR : L2.FnScope ["_law_base","_law_exponent","_law_modulus","_law_result","_law_k"] ["_law_base","_law_exponent","_law_modulus"] (L2.defScope zZ0):=⟨rfl,rfl,rfl,by decide +kernel,rfl,by decide +kernel,by decide +kernel⟩
theorem zZHD : chkSs Z yZU ⟨["_law_base","_law_exponent","_law_modulus","_law_result","_law_k"],(L2.defScope zZ0).names,true,[],false⟩ (L2.defBody zZ0) = true:=by decide +kernel
abbrev zZs : PySem.Stmt:=top 29
theorem zZGj : L2.FnScope ["_law_group_here","_law_element","_law_exponent"] ["_law_group_here","_law_element","_law_exponent"] (L2.defScope zZs):=⟨rfl,rfl,rfl,by decide +kernel,rfl,by decide +kernel,by decide +kernel⟩
theorem zZGf : chkSs Z zZAI ⟨["_law_group_here","_law_element","_law_exponent"],(L2.defScope zZs).names,true,[],false⟩ (L2.defBody zZs) = true:=by decide +kernel
abbrev zZh : PySem.Stmt:=top 30
theorem zZFR : L2.FnScope ["_law_group_here","_law_pairs","_law_result","_law_element","_law_exponent"] ["_law_group_here","_law_pairs"] (L2.defScope zZh):=⟨rfl,rfl,rfl,by decide +kernel,rfl,by decide +kernel,by decide +kernel⟩
theorem zZFP : chkSs Z yZH ⟨["_law_group_here","_law_pairs","_law_result","_law_element","_law_exponent"],(L2.defScope zZh).names,true,[],false⟩ (L2.defBody zZh) = true:=by decide +kernel
abbrev zZp : PySem.Stmt:=top 31
theorem zZGi : L2.FnScope ["_law_group_here","_law_exponents","_law_k"] ["_law_group_here","_law_exponents"] (L2.defScope zZp):=⟨rfl,rfl,rfl,by decide +kernel,rfl,by decide +kernel,by decide +kernel⟩
theorem zZGe : chkSs Z zZAJ ⟨["_law_group_here","_law_exponents","_law_k"],(L2.defScope zZp).names,true,[],false⟩ (L2.defBody zZp) = true:=by decide +kernel
abbrev zZ5 : PySem.Stmt:=top 32
theorem zZHF : L2.FnScope ["_law_pool_here","_law_count","_law_least","_law_pairs","_law_root","_law_number","_law_bases","_law_at","_law_step","_law_k","_law_exponent","_law_p","_law_q","_law_base","_law_pair"] ["_law_pool_here","_law_count","_law_least"] (L2.defScope zZ5):=⟨rfl,rfl,rfl,by decide +kernel,rfl,by decide +kernel,by decide +kernel⟩
theorem zZHM : chkSs Z zZy ⟨["_law_pool_here","_law_count","_law_least","_law_pairs","_law_root","_law_number","_law_bases","_law_at","_law_step","_law_k","_law_exponent","_law_p","_law_q","_law_base","_law_pair"],(L2.defScope zZ5).names,true,[],false⟩ (L2.defBody zZ5) = true:=by decide +kernel
abbrev zZi : PySem.Stmt:=top 33
theorem zZFM : L2.FnScope ["_law_pool_here","_law_group_here","_law_count","_law_k"] ["_law_pool_here","_law_group_here","_law_count"] (L2.defScope zZi):=⟨rfl,rfl,rfl,by decide +kernel,rfl,by decide +kernel,by decide +kernel⟩
theorem zZFX : chkSs Z xZp ⟨["_law_pool_here","_law_group_here","_law_count","_law_k"],(L2.defScope zZi).names,true,[],false⟩ (L2.defBody zZi) = true:=by decide +kernel
abbrev zZw : PySem.Stmt:=top 34
theorem zZHI : L2.FnScope ["_law_pool_here","_law_most","_law_kinds_here","_law_k","_law_fields_here","_law_place_here"] ["_law_pool_here","_law_most"] (L2.defScope zZw):=⟨rfl,rfl,rfl,by decide +kernel,rfl,by decide +kernel,by decide +kernel⟩
theorem zZHU : chkSs Z yZR ⟨["_law_pool_here","_law_most","_law_kinds_here","_law_k","_law_fields_here","_law_place_here"],(L2.defScope zZw).names,true,[],false⟩ (L2.defBody zZw) = true:=by decide +kernel
abbrev zZ1 : PySem.Stmt:=top 35
theorem zZHP : L2.FnScope ["_law_pool_here","_law_cards","_law_most","_law_group_here","_law_kinds_here","_law_scene_here","_law_k","_law_turn","_law_issuers","_law_rows_here","_law_found","_law_conditions","_law_kind","_law_fields_here"] ["_law_pool_here","_law_cards","_law_most"] (L2.defScope zZ1):=⟨rfl,rfl,rfl,by decide +kernel,rfl,by decide +kernel,by decide +kernel⟩
theorem zZHL : chkSs Z zZx ⟨["_law_pool_here","_law_cards","_law_most","_law_group_here","_law_kinds_here","_law_scene_here","_law_k","_law_turn","_law_issuers","_law_rows_here","_law_found","_law_conditions","_law_kind","_law_fields_here"],(L2.defScope zZ1).names,true,[],false⟩ (L2.defBody zZ1) = true:=by decide +kernel
abbrev yZC : PySem.Stmt:=top 36
theorem zZIE : L2.FnScope ["_law_pool_here","_law_scene_here","_law_fields_here","_law_issuers","_law_group_here","_law_numbers_here","_law_count","_law_places","_law_rows_here","_law_place_here","_law_found","_law_name","_law_size","_law_first_here","_law_second","_law_opening","_law_side","_law_picks"] ["_law_pool_here","_law_scene_here","_law_fields_here","_law_issuers"] (L2.defScope yZC):=⟨rfl,rfl,rfl,by decide +kernel,rfl,by decide +kernel,by decide +kernel⟩
theorem zZH6 : chkSs Z zZa ⟨["_law_pool_here","_law_scene_here","_law_fields_here","_law_issuers","_law_group_here","_law_numbers_here","_law_count","_law_places","_law_rows_here","_law_place_here","_law_found","_law_name","_law_size","_law_first_here","_law_second","_law_opening","_law_side","_law_picks"],(L2.defScope yZC).names,true,[],false⟩ (L2.defBody yZC) = true:=by decide +kernel
abbrev zZq : PySem.Stmt:=top 37
theorem zZGW : L2.FnScope ["_law_scene_here","_law_found","_law_card","_law_fields_here","_law_value","_law_names","_law_kind","_law_side"] ["_law_scene_here"] (L2.defScope zZq):=⟨rfl,rfl,rfl,by decide +kernel,rfl,by decide +kernel,by decide +kernel⟩
theorem zZGY : chkSs Z zZr ⟨["_law_scene_here","_law_found","_law_card","_law_fields_here","_law_value","_law_names","_law_kind","_law_side"],(L2.defScope zZq).names,true,[],false⟩ (L2.defBody zZq) = true:=by decide +kernel
abbrev zZP : PySem.Stmt:=top 38
theorem zZEJ : L2.FnScope ["_law_pool_here","_law_scene_here","_law_fields_here","_law_way","_law_same_here","_law_names","_law_size","_law_both","_law_numbers_here","_law_other","_law_k","_law_number"] ["_law_pool_here","_law_scene_here"] (L2.defScope zZP):=⟨rfl,rfl,rfl,by decide +kernel,rfl,by decide +kernel,by decide +kernel⟩
theorem zZEK : chkSs Z xZB ⟨["_law_pool_here","_law_scene_here","_law_fields_here","_law_way","_law_same_here","_law_names","_law_size","_law_both","_law_numbers_here","_law_other","_law_k","_law_number"],(L2.defScope zZP).names,true,[],false⟩ (L2.defBody zZP) = true:=by decide +kernel
abbrev zZW : PySem.Stmt:=top 39
theorem zZEa : L2.FnScope ["_law_scene_here","_law_group_here","_law_kinds_here","_law_policy","_law_name","_law_fields_here"] ["_law_scene_here"] (L2.defScope zZW):=⟨rfl,rfl,rfl,by decide +kernel,rfl,by decide +kernel,by decide +kernel⟩
theorem zZEi : chkSs Z xZg ⟨["_law_scene_here","_law_group_here","_law_kinds_here","_law_policy","_law_name","_law_fields_here"],(L2.defScope zZW).names,true,[],false⟩ (L2.defBody zZW) = true:=by decide +kernel
abbrev zZ4 : PySem.Stmt:=top 40
theorem zZHS : L2.FnScope ["_law_scene_here","_law_names","_law_card","_law_fields_here","_law_row","_law_kind","_law_name","_law_size"] ["_law_scene_here","_law_names"] (L2.defScope zZ4):=⟨rfl,rfl,rfl,by decide +kernel,rfl,by decide +kernel,by decide +kernel⟩
theorem zZHW : chkSs Z zZBM ⟨["_law_scene_here","_law_names","_law_card","_law_fields_here","_law_row","_law_kind","_law_name","_law_size"],(L2.defScope zZ4).names,true,[],false⟩ (L2.defBody zZ4) = true:=by decide +kernel
abbrev zZ2 : PySem.Stmt:=top 41
theorem zZHX : L2.FnScope ["_law_scene_here","_law_sizes_here","_law_card","_law_fields_here","_law_value","_law_kind"] ["_law_scene_here"] (L2.defScope zZ2):=⟨rfl,rfl,rfl,by decide +kernel,rfl,by decide +kernel,by decide +kernel⟩
theorem zZHV : chkSs Z zZ7 ⟨["_law_scene_here","_law_sizes_here","_law_card","_law_fields_here","_law_value","_law_kind"],(L2.defScope zZ2).names,true,[],false⟩ (L2.defBody zZ2) = true:=by decide +kernel
abbrev zZe : PySem.Stmt:=top 42
theorem zZFK : L2.FnScope ["_law_scene_here","_law_row"] ["_law_scene_here","_law_row"] (L2.defScope zZe):=⟨rfl,rfl,rfl,by decide +kernel,rfl,by decide +kernel,by decide +kernel⟩
theorem zZFx : chkSs Z yZw ⟨["_law_scene_here","_law_row"],(L2.defScope zZe).names,true,[],false⟩ (L2.defBody zZe) = true:=by decide +kernel
abbrev zZd : PySem.Stmt:=top 43
theorem zZGM : L2.FnScope ["_law_scene_here","_law_picks","_law_row","_law_number","_law_card","_law_value","_law_other","_law_place_here"] ["_law_scene_here","_law_picks"] (L2.defScope zZd):=⟨rfl,rfl,rfl,by decide +kernel,rfl,by decide +kernel,by decide +kernel⟩
theorem zZFO : chkSs Z zZu ⟨["_law_scene_here","_law_picks","_law_row","_law_number","_law_card","_law_value","_law_other","_law_place_here"],(L2.defScope zZd).names,true,[],false⟩ (L2.defBody zZd) = true:=by decide +kernel
abbrev zZX : PySem.Stmt:=top 44
theorem zZEZ : L2.FnScope ["_law_pool_here","_law_scene_here","_law_side","_law_holdings_here","_law_turn","_law_card","_law_way","_law_place_here","_law_randomness","_law_numbers_here","_law_fields_here","_law_issuer","_law_index","_law_element","_law_kind","_law_name","_law_size"] ["_law_pool_here","_law_scene_here","_law_side"] (L2.defScope zZX):=⟨rfl,rfl,rfl,by decide +kernel,rfl,by decide +kernel,by decide +kernel⟩
theorem zZEW : chkSs Z zZN ⟨["_law_pool_here","_law_scene_here","_law_side","_law_holdings_here","_law_turn","_law_card","_law_way","_law_place_here","_law_randomness","_law_numbers_here","_law_fields_here","_law_issuer","_law_index","_law_element","_law_kind","_law_name","_law_size"],(L2.defScope zZX).names,true,[],false⟩ (L2.defBody zZX) = true:=by decide +kernel
abbrev zZ3 : PySem.Stmt:=top 45
theorem zZHE : L2.FnScope ["_law_scene_here","_law_holdings_here","_law_found","_law_card","_law_picks","_law_more","_law_rows_here","_law_row","_law_issuer","_law_index","_law_kind","_law_randomness","_law_numbers_here"] ["_law_scene_here","_law_holdings_here"] (L2.defScope zZ3):=⟨rfl,rfl,rfl,by decide +kernel,rfl,by decide +kernel,by decide +kernel⟩
theorem zZHO : chkSs Z zZJ ⟨["_law_scene_here","_law_holdings_here","_law_found","_law_card","_law_picks","_law_more","_law_rows_here","_law_row","_law_issuer","_law_index","_law_kind","_law_randomness","_law_numbers_here"],(L2.defScope zZ3).names,true,[],false⟩ (L2.defBody zZ3) = true:=by decide +kernel
abbrev zZBR : PySem.Stmt:=top 46
theorem zZKi : L2.FnScope ["_law_script","_law_pool_here","_law_scene_here","_law_group_here","_law_side","_law_shutet","_law_holdings_here","_law_actual","_law_due","_law_told","_law_issuer","_law_index","_law_kind","_law_randomness","_law_numbers_here","_law_pick"] ["_law_script"] (L2.defScope zZBR):=⟨rfl,rfl,rfl,by decide +kernel,rfl,by decide +kernel,by decide +kernel⟩
theorem zZKj : chkSs Z zZl ⟨["_law_script","_law_pool_here","_law_scene_here","_law_group_here","_law_side","_law_shutet","_law_holdings_here","_law_actual","_law_due","_law_told","_law_issuer","_law_index","_law_kind","_law_randomness","_law_numbers_here","_law_pick"],(L2.defScope zZBR).names,true,[],false⟩ (L2.defBody zZBR) = true:=by decide +kernel
end Gen
namespace Gen
open DL
theorem zZBv (n : Nat) : (cfgN T n).fld 0 2 = true:=by
 rw [zZk]; rfl
theorem zZCM (n : Nat) : (cfgN T n).fld 0 3 = true:=by
 rw [zZk]; rfl
theorem zZCk (n : Nat) : (cfgN T n).fld 0 4 = true:=by
 rw [zZk]; rfl
theorem zZAj (n : Nat) : (cfgN T n).fld 1 12 = true:=by
 rw [zZk]; rfl
theorem zZBL (n : Nat) : (cfgN T n).fld 1 13 = true:=by
 rw [zZk]; rfl
theorem zZBI (n : Nat) : (cfgN T n).fld 2 28 = true:=by
 rw [zZk]; rfl
theorem zZAu (n : Nat) : (cfgN T n).fld 2 29 = true:=by
 rw [zZk]; rfl
theorem zZAp (n : Nat) : (cfgN T n).fld 3 19 = true:=by
 rw [zZk]; rfl
theorem zZAm (n : Nat) : (cfgN T n).fld 3 20 = true:=by
 rw [zZk]; rfl
theorem zZA5 (n : Nat) : (cfgN T n).fld 3 42 = true:=by
 rw [zZk]; rfl
theorem zZAi (n : Nat) : (cfgN T n).fld 3 43 = true:=by
 rw [zZk]; rfl
theorem zZAb (n : Nat) : (cfgN T n).fld 4 47 = true:=by
 rw [zZk]; rfl
theorem zZA7 (n : Nat) : (cfgN T n).fld 4 48 = true:=by
 rw [zZk]; rfl
theorem zZAc (n : Nat) : (cfgN T n).fld 4 49 = true:=by
 rw [zZk]; rfl
theorem zZA9 (n : Nat) : (cfgN T n).fld 5 19 = true:=by
 rw [zZk]; rfl
theorem zZAv (n : Nat) : (cfgN T n).fld 5 51 = true:=by
 rw [zZk]; rfl
theorem zZA1 (n : Nat) : (cfgN T n).fld 5 59 = true:=by
 rw [zZk]; rfl
theorem zZAW (n : Nat) : (cfgN T n).meth 2 30 = some xZq:=by
 rw [xZD]; rfl
theorem zZAZ (n : Nat) : (cfgN T n).meth 3 30 = some xZA:=by
 rw [xZD]; rfl
theorem zZBJ (n : Nat) : (cfgN T n).meth 3 39 = some xZK:=by
 rw [xZD]; rfl
theorem zZAx (n : Nat) : (cfgN T n).meth 3 14 = some xZR:=by
 rw [xZD]; rfl
theorem zZBF (n : Nat) : (cfgN T n).meth 5 60 = some zZAL:=by
 rw [xZD]; rfl
theorem zZBG (n : Nat) : (cfgN T n).meth 5 52 = some xZn:=by
 rw [xZD]; rfl
theorem zZAf (n : Nat) : (cfgN T n).meth 5 67 = some xZE:=by
 rw [xZD]; rfl
theorem zZGU (n : Nat) : (cfgN T n).cellc 0 = false:=by
 cases n <;> rfl
theorem zZFY (n : Nat) : (cfgN T n).cellc 1 = false:=by
 cases n <;> rfl
theorem zZFw (n : Nat) : (cfgN T n).cellc 2 = false:=by
 cases n <;> rfl
theorem zZF9 (n : Nat) : (cfgN T n).cellc 3 = false:=by
 cases n <;> rfl
theorem zZGN (n : Nat) : (cfgN T n).cellc 4 = false:=by
 cases n <;> rfl
theorem zZE8 (n : Nat) : (cfgN T n).cellc 5 = false:=by
 cases n <;> rfl
end Gen
set_option maxRecDepth 100000
set_option maxHeartbeats 4000000
namespace Gen
open DL
open PySem PySem.Spec PyProof.Rows L2
theorem inj : ∀ i j,i < 68 → j < 68 → anm i = anm j → i = j:=fun i j hi hj=>(by decide +kernel : ∀ i,i < 68 → ∀ j,j < 68 → anm i = anm j → i = j) i hi j hj
abbrev FL (l : List Addr) (i : Nat) : Addr:=l.getD i 0
def Bt (K : PySem.W.Frag) (l : List Addr) : Tb0:=⟨FL l,anm,68,fun a ns => ∀ H,SqL K H a (ns.map V.int),inj,fun c=>(xfL.lookup c).getD 0⟩
def AllD (Z : Zs) (K : PySem.W.Frag) (fa : Nat → Addr) : Nat → List FnD → Prop
 | _,[]=>True
 | i,F :: r=>DefAt Z K F (fa i) ∧ AllD Z K fa (i + 1) r
theorem AllD.get {Z : Zs} {K : PySem.W.Frag} {fa : Nat → Addr} : ∀ {l : List FnD} {i j : Nat} {F : FnD},AllD Z K fa i l → l[j]? = some F → DefAt Z K F (fa (i + j))
 | [],i,j,F,_,h=>by simp at h
 | G :: r,i,0,F,⟨a,_⟩,h=>by simp at h; subst h; exact a
 | G :: r,i,j + 1,F,⟨_,b⟩,h=>by
  have q:=AllD.get (j:=j) (F:=F) b (by simpa using h)
  rw [show i + (j + 1) = i + 1 + j by omega]
  exact q
def AllP {A : Type} (P : A → Prop) : List A → Prop
 | []=>True
 | a :: r=>P a ∧ AllP P r
theorem AllP.mem {A : Type} {P : A → Prop} : ∀ {l : List A} {a : A},AllP P l → a ∈ l → P a
 | b :: r,a,⟨h,t⟩,m=>by
  rcases List.mem_cons.mp m with e | m
  ·rw [e]; exact h
  ·exact AllP.mem t m
def AllN (P : Nat → Str → Prop) : Nat → List (Option Str) → Prop
 | _,[]=>True
 | i,none :: r=>AllN P (i + 1) r
 | i,some x :: r=>P i x ∧ AllN P (i + 1) r
theorem AllN.get {P : Nat → Str → Prop} : ∀ {l : List (Option Str)} {i j : Nat} {x : Str},AllN P i l → l.getD j none = some x → P (i + j) x
 | [],i,j,x,_,h=>by simp at h
 | none :: r,i,0,x,_,h=>by simp at h
 | some y :: r,i,0,x,⟨a,_⟩,h=>by simp at h; subst h; exact a
 | none :: r,i,j + 1,x,b,h=>by
  have q:=AllN.get (j:=j) (x:=x) (i:=i + 1) (l:=r) b (by simpa using h)
  rw [show i + (j + 1) = i + 1 + j by omega]
  exact q
 | some y :: r,i,j + 1,x,⟨_,b⟩,h=>by
  have q:=AllN.get (j:=j) (x:=x) b (by simpa using h)
  rw [show i + (j + 1) = i + 1 + j by omega]
  exact q
theorem zZM {A V : Type} [BEq A] [LawfulBEq A] : ∀ {l : List (A × V)} {k : A} {v : V},l.lookup k = some v → (k,v) ∈ l
 | [],k,v,h=>by simp at h
 | (a,b) :: r,k,v,h=>by
  rw [List.lookup_cons] at h
  cases e : k == a with
  | true =>
   rw [e] at h
   cases h
   rw [eq_of_beq e]
   exact List.mem_cons_self
  | false =>
   rw [e] at h
   exact List.mem_cons_of_mem _ (zZM h)
set_option maxHeartbeats 0 in
theorem all_mk {l : PySem.W.OpenLaw} {w : World} {K : PySem.W.Frag} {h : Heap} {mg : Str → Option Value} {fa : Addr} (X : K.In h) (G : h.Ns mainGlobals mg) (hfa : mg "law" = some (.ref fa))
  {a0 a1 a2 a3 a4 a5 a6 a7 a8 a9 a10 a11 a12 a13 a14 a15 a16 a17 a18 a19 a20 a21 a22 a23 a24 a25 a26 a27 a28 a29 a30 a31 a32 a33 a34 a35 a36 a37 a38 a39 : Addr}
  {C0 C1 C2 C3 C4 C5 : Addr}
  {od0 an0 : Option Addr} {sl0 : Array (Option Value)} {oc0 kV0 dc0 pm0 cd0 ct0 : Value}
  {od1 an1 : Option Addr} {sl1 : Array (Option Value)} {oc1 kV1 dc1 pm1 cd1 ct1 : Value}
  {od2 an2 : Option Addr} {sl2 : Array (Option Value)} {oc2 kV2 dc2 pm2 cd2 ct2 : Value}
  {od3 an3 : Option Addr} {sl3 : Array (Option Value)} {oc3 kV3 dc3 pm3 cd3 ct3 : Value}
  {od4 an4 : Option Addr} {sl4 : Array (Option Value)} {oc4 kV4 dc4 pm4 cd4 ct4 : Value}
  {od5 an5 : Option Addr} {sl5 : Array (Option Value)} {oc5 kV5 dc5 pm5 cd5 ct5 : Value}
  {od6 an6 : Option Addr} {sl6 : Array (Option Value)} {oc6 kV6 dc6 pm6 cd6 ct6 : Value}
  {od7 an7 : Option Addr} {sl7 : Array (Option Value)} {oc7 kV7 dc7 pm7 cd7 ct7 : Value}
  {od8 an8 : Option Addr} {sl8 : Array (Option Value)} {oc8 kV8 dc8 pm8 cd8 ct8 : Value}
  {od9 an9 : Option Addr} {sl9 : Array (Option Value)} {oc9 kV9 dc9 pm9 cd9 ct9 : Value}
  {od10 an10 : Option Addr} {sl10 : Array (Option Value)} {oc10 kV10 dc10 pm10 cd10 ct10 : Value}
  {od11 an11 : Option Addr} {sl11 : Array (Option Value)} {oc11 kV11 dc11 pm11 cd11 ct11 : Value}
  {od12 an12 : Option Addr} {sl12 : Array (Option Value)} {oc12 kV12 dc12 pm12 cd12 ct12 : Value}
  {od13 an13 : Option Addr} {sl13 : Array (Option Value)} {oc13 kV13 dc13 pm13 cd13 ct13 : Value}
  {od14 an14 : Option Addr} {sl14 : Array (Option Value)} {oc14 kV14 dc14 pm14 cd14 ct14 : Value}
  {od15 an15 : Option Addr} {sl15 : Array (Option Value)} {oc15 kV15 dc15 pm15 cd15 ct15 : Value}
  {od16 an16 : Option Addr} {sl16 : Array (Option Value)} {oc16 kV16 dc16 pm16 cd16 ct16 : Value}
  {od17 an17 : Option Addr} {sl17 : Array (Option Value)} {oc17 kV17 dc17 pm17 cd17 ct17 : Value}
  {od18 an18 : Option Addr} {sl18 : Array (Option Value)} {oc18 kV18 dc18 pm18 cd18 ct18 : Value}
  {od19 an19 : Option Addr} {sl19 : Array (Option Value)} {oc19 kV19 dc19 pm19 cd19 ct19 : Value}
  {od20 an20 : Option Addr} {sl20 : Array (Option Value)} {oc20 kV20 dc20 pm20 cd20 ct20 : Value}
  {od21 an21 : Option Addr} {sl21 : Array (Option Value)} {oc21 kV21 dc21 pm21 cd21 ct21 : Value}
  {od22 an22 : Option Addr} {sl22 : Array (Option Value)} {oc22 kV22 dc22 pm22 cd22 ct22 : Value}
  {od23 an23 : Option Addr} {sl23 : Array (Option Value)} {oc23 kV23 dc23 pm23 cd23 ct23 : Value}
  {od24 an24 : Option Addr} {sl24 : Array (Option Value)} {oc24 kV24 dc24 pm24 cd24 ct24 : Value}
  {od25 an25 : Option Addr} {sl25 : Array (Option Value)} {oc25 kV25 dc25 pm25 cd25 ct25 : Value}
  {od26 an26 : Option Addr} {sl26 : Array (Option Value)} {oc26 kV26 dc26 pm26 cd26 ct26 : Value}
  {od27 an27 : Option Addr} {sl27 : Array (Option Value)} {oc27 kV27 dc27 pm27 cd27 ct27 : Value}
  {od28 an28 : Option Addr} {sl28 : Array (Option Value)} {oc28 kV28 dc28 pm28 cd28 ct28 : Value}
  {od29 an29 : Option Addr} {sl29 : Array (Option Value)} {oc29 kV29 dc29 pm29 cd29 ct29 : Value}
  {od30 an30 : Option Addr} {sl30 : Array (Option Value)} {oc30 kV30 dc30 pm30 cd30 ct30 : Value}
  {od31 an31 : Option Addr} {sl31 : Array (Option Value)} {oc31 kV31 dc31 pm31 cd31 ct31 : Value}
  {od32 an32 : Option Addr} {sl32 : Array (Option Value)} {oc32 kV32 dc32 pm32 cd32 ct32 : Value}
  {od33 an33 : Option Addr} {sl33 : Array (Option Value)} {oc33 kV33 dc33 pm33 cd33 ct33 : Value}
  {od34 an34 : Option Addr} {sl34 : Array (Option Value)} {oc34 kV34 dc34 pm34 cd34 ct34 : Value}
  {od35 an35 : Option Addr} {sl35 : Array (Option Value)} {oc35 kV35 dc35 pm35 cd35 ct35 : Value}
  {od36 an36 : Option Addr} {sl36 : Array (Option Value)} {oc36 kV36 dc36 pm36 cd36 ct36 : Value}
  {od37 an37 : Option Addr} {sl37 : Array (Option Value)} {oc37 kV37 dc37 pm37 cd37 ct37 : Value}
  {od38 an38 : Option Addr} {sl38 : Array (Option Value)} {oc38 kV38 dc38 pm38 cd38 ct38 : Value}
  {od39 an39 : Option Addr} {sl39 : Array (Option Value)} {oc39 kV39 dc39 pm39 cd39 ct39 : Value}
  (qc0 : PySem.W.nsIn K mainGlobals "Group" = some (some (.ref C0)))
  (pg0 : PySem.W.plainGet K C0 Str.empty = true)
  (hd0 : PySem.W.hasDictIn K C0 = true)
  (po0 : PySem.W.plainOver K C0 = true)
  (sa0 : PySem.W.findIn K (.ref C0) "__setattr__" = some (some (.builtin "object.__setattr__")))
  (mk0 : PySem.W.makesIn K C0 = true)
  (kc0 : PySem.W.keepIn K (.ref C0) = true)
  (qc1 : PySem.W.nsIn K mainGlobals "Kind" = some (some (.ref C1)))
  (pg1 : PySem.W.plainGet K C1 Str.empty = true)
  (hd1 : PySem.W.hasDictIn K C1 = true)
  (po1 : PySem.W.plainOver K C1 = true)
  (sa1 : PySem.W.findIn K (.ref C1) "__setattr__" = some (some (.builtin "object.__setattr__")))
  (mk1 : PySem.W.makesIn K C1 = true)
  (kc1 : PySem.W.keepIn K (.ref C1) = true)
  (qc2 : PySem.W.nsIn K mainGlobals "Policy" = some (some (.ref C2)))
  (pg2 : PySem.W.plainGet K C2 Str.empty = true)
  (hd2 : PySem.W.hasDictIn K C2 = true)
  (po2 : PySem.W.plainOver K C2 = true)
  (sa2 : PySem.W.findIn K (.ref C2) "__setattr__" = some (some (.builtin "object.__setattr__")))
  (mk2 : PySem.W.makesIn K C2 = true)
  (kc2 : PySem.W.keepIn K (.ref C2) = true)
  (qc3 : PySem.W.nsIn K mainGlobals "Question" = some (some (.ref C3)))
  (pg3 : PySem.W.plainGet K C3 Str.empty = true)
  (hd3 : PySem.W.hasDictIn K C3 = true)
  (po3 : PySem.W.plainOver K C3 = true)
  (sa3 : PySem.W.findIn K (.ref C3) "__setattr__" = some (some (.builtin "object.__setattr__")))
  (mk3 : PySem.W.makesIn K C3 = true)
  (kc3 : PySem.W.keepIn K (.ref C3) = true)
  (qc4 : PySem.W.nsIn K mainGlobals "Pick" = some (some (.ref C4)))
  (pg4 : PySem.W.plainGet K C4 Str.empty = true)
  (hd4 : PySem.W.hasDictIn K C4 = true)
  (po4 : PySem.W.plainOver K C4 = true)
  (sa4 : PySem.W.findIn K (.ref C4) "__setattr__" = some (some (.builtin "object.__setattr__")))
  (mk4 : PySem.W.makesIn K C4 = true)
  (kc4 : PySem.W.keepIn K (.ref C4) = true)
  (qc5 : PySem.W.nsIn K mainGlobals "Wallet" = some (some (.ref C5)))
  (pg5 : PySem.W.plainGet K C5 Str.empty = true)
  (hd5 : PySem.W.hasDictIn K C5 = true)
  (po5 : PySem.W.plainOver K C5 = true)
  (sa5 : PySem.W.findIn K (.ref C5) "__setattr__" = some (some (.builtin "object.__setattr__")))
  (mk5 : PySem.W.makesIn K C5 = true)
  (kc5 : PySem.W.keepIn K (.ref C5) = true)
  (na0_2 : PySem.W.findIn K (.ref C0) "p" = some none)
  (na0_3 : PySem.W.findIn K (.ref C0) "q" = some none)
  (na0_4 : PySem.W.findIn K (.ref C0) "bases" = some none)
  (na1_12 : PySem.W.findIn K (.ref C1) "name" = some none)
  (na1_13 : PySem.W.findIn K (.ref C1) "fields" = some none)
  (na2_28 : PySem.W.findIn K (.ref C2) "cards" = some none)
  (na2_29 : PySem.W.findIn K (.ref C2) "conditions" = some none)
  (na3_19 : PySem.W.findIn K (.ref C3) "group" = some none)
  (na3_20 : PySem.W.findIn K (.ref C3) "kinds" = some none)
  (na3_42 : PySem.W.findIn K (.ref C3) "policy" = some none)
  (na3_43 : PySem.W.findIn K (.ref C3) "rows" = some none)
  (na4_47 : PySem.W.findIn K (.ref C4) "row" = some none)
  (na4_48 : PySem.W.findIn K (.ref C4) "randomness" = some none)
  (na4_49 : PySem.W.findIn K (.ref C4) "numbers" = some none)
  (na5_19 : PySem.W.findIn K (.ref C5) "group" = some none)
  (na5_51 : PySem.W.findIn K (.ref C5) "secret" = some none)
  (na5_59 : PySem.W.findIn K (.ref C5) "holdings" = some none)
  (q0 : PySem.W.nsIn K mainGlobals "is_prime" = some (some (.ref a0)))
  (l0 : K.lookup a0 = some ⟨oc0,od0,.func (PySem.W.fnOf "is_prime" "is_prime" (defArgs yZK) (defBody yZK) (defScope yZK) .none kV0 dc0 pm0 an0 cd0 ct0),sl0⟩)
  (c0 : PySem.W.codeIn K cd0 "is_prime" = true)
  (k0 : PySem.W.keepIn K (.ref a0) = true)
  (q1 : PySem.W.nsIn K mainGlobals "power" = some (some (.ref a1)))
  (l1 : K.lookup a1 = some ⟨oc1,od1,.func (PySem.W.fnOf "power" "power" (defArgs xZJ) (defBody xZJ) (defScope xZJ) .none kV1 dc1 pm1 an1 cd1 ct1),sl1⟩)
  (c1 : PySem.W.codeIn K cd1 "power" = true)
  (k1 : PySem.W.keepIn K (.ref a1) = true)
  (q2 : PySem.W.findIn K (.ref C0) "__init__" = some (some (.ref a2)))
  (i2 : PySem.W.isFn K (.ref a2) = true)
  (l2 : K.lookup a2 = some ⟨oc2,od2,.func (PySem.W.fnOf "__init__" "Group.__init__" (defArgs zZR) (defBody zZR) (defScope zZR) .none kV2 dc2 pm2 an2 cd2 ct2),sl2⟩)
  (c2 : PySem.W.codeIn K cd2 "Group.__init__" = true)
  (k2 : PySem.W.keepIn K (.ref a2) = true)
  (q3 : PySem.W.findIn K (.ref C1) "__init__" = some (some (.ref a3)))
  (i3 : PySem.W.isFn K (.ref a3) = true)
  (l3 : K.lookup a3 = some ⟨oc3,od3,.func (PySem.W.fnOf "__init__" "Kind.__init__" (defArgs zZT) (defBody zZT) (defScope zZT) .none kV3 dc3 pm3 an3 cd3 ct3),sl3⟩)
  (c3 : PySem.W.codeIn K cd3 "Kind.__init__" = true)
  (k3 : PySem.W.keepIn K (.ref a3) = true)
  (q4 : PySem.W.nsIn K mainGlobals "kind_named" = some (some (.ref a4)))
  (l4 : K.lookup a4 = some ⟨oc4,od4,.func (PySem.W.fnOf "kind_named" "kind_named" (defArgs zZz) (defBody zZz) (defScope zZz) .none kV4 dc4 pm4 an4 cd4 ct4),sl4⟩)
  (c4 : PySem.W.codeIn K cd4 "kind_named" = true)
  (k4 : PySem.W.keepIn K (.ref a4) = true)
  (q5 : PySem.W.findIn K (.ref C3) "__init__" = some (some (.ref a5)))
  (i5 : PySem.W.isFn K (.ref a5) = true)
  (l5 : K.lookup a5 = some ⟨oc5,od5,.func (PySem.W.fnOf "__init__" "Question.__init__" (defArgs zZH) (defBody zZH) (defScope zZH) .none kV5 dc5 pm5 an5 cd5 ct5),sl5⟩)
  (c5 : PySem.W.codeIn K cd5 "Question.__init__" = true)
  (k5 : PySem.W.keepIn K (.ref a5) = true)
  (q6 : PySem.W.findIn K (.ref C3) "kind" = some (some (.ref a6)))
  (i6 : PySem.W.isFn K (.ref a6) = true)
  (l6 : K.lookup a6 = some ⟨oc6,od6,.func (PySem.W.fnOf "kind" "Question.kind" (defArgs zZU) (defBody zZU) (defScope zZU) .none kV6 dc6 pm6 an6 cd6 ct6),sl6⟩)
  (c6 : PySem.W.codeIn K cd6 "Question.kind" = true)
  (k6 : PySem.W.keepIn K (.ref a6) = true)
  (q7 : PySem.W.findIn K (.ref C3) "place" = some (some (.ref a7)))
  (i7 : PySem.W.isFn K (.ref a7) = true)
  (l7 : K.lookup a7 = some ⟨oc7,od7,.func (PySem.W.fnOf "place" "Question.place" (defArgs zZO) (defBody zZO) (defScope zZO) .none kV7 dc7 pm7 an7 cd7 ct7),sl7⟩)
  (c7 : PySem.W.codeIn K cd7 "Question.place" = true)
  (k7 : PySem.W.keepIn K (.ref a7) = true)
  (q8 : PySem.W.findIn K (.ref C3) "size" = some (some (.ref a8)))
  (i8 : PySem.W.isFn K (.ref a8) = true)
  (l8 : K.lookup a8 = some ⟨oc8,od8,.func (PySem.W.fnOf "size" "Question.size" (defArgs zZY) (defBody zZY) (defScope zZY) .none kV8 dc8 pm8 an8 cd8 ct8),sl8⟩)
  (c8 : PySem.W.codeIn K cd8 "Question.size" = true)
  (k8 : PySem.W.keepIn K (.ref a8) = true)
  (q9 : PySem.W.nsIn K mainGlobals "candidates" = some (some (.ref a9)))
  (l9 : K.lookup a9 = some ⟨oc9,od9,.func (PySem.W.fnOf "candidates" "candidates" (defArgs zZ6) (defBody zZ6) (defScope zZ6) .none kV9 dc9 pm9 an9 cd9 ct9),sl9⟩)
  (c9 : PySem.W.codeIn K cd9 "candidates" = true)
  (k9 : PySem.W.keepIn K (.ref a9) = true)
  (q10 : PySem.W.findIn K (.ref C4) "__init__" = some (some (.ref a10)))
  (i10 : PySem.W.isFn K (.ref a10) = true)
  (l10 : K.lookup a10 = some ⟨oc10,od10,.func (PySem.W.fnOf "__init__" "Pick.__init__" (defArgs zZS) (defBody zZS) (defScope zZS) .none kV10 dc10 pm10 an10 cd10 ct10),sl10⟩)
  (c10 : PySem.W.codeIn K cd10 "Pick.__init__" = true)
  (k10 : PySem.W.keepIn K (.ref a10) = true)
  (q11 : PySem.W.nsIn K mainGlobals "answers" = some (some (.ref a11)))
  (l11 : K.lookup a11 = some ⟨oc11,od11,.func (PySem.W.fnOf "answers" "answers" (defArgs yZX) (defBody yZX) (defScope yZX) .none kV11 dc11 pm11 an11 cd11 ct11),sl11⟩)
  (c11 : PySem.W.codeIn K cd11 "answers" = true)
  (k11 : PySem.W.keepIn K (.ref a11) = true)
  (q12 : PySem.W.findIn K (.ref C5) "__init__" = some (some (.ref a12)))
  (i12 : PySem.W.isFn K (.ref a12) = true)
  (l12 : K.lookup a12 = some ⟨oc12,od12,.func (PySem.W.fnOf "__init__" "Wallet.__init__" (defArgs zZK) (defBody zZK) (defScope zZK) .none kV12 dc12 pm12 an12 cd12 ct12),sl12⟩)
  (c12 : PySem.W.codeIn K cd12 "Wallet.__init__" = true)
  (k12 : PySem.W.keepIn K (.ref a12) = true)
  (q13 : PySem.W.findIn K (.ref C5) "keep" = some (some (.ref a13)))
  (i13 : PySem.W.isFn K (.ref a13) = true)
  (l13 : K.lookup a13 = some ⟨oc13,od13,.func (PySem.W.fnOf "keep" "Wallet.keep" (defArgs zZo) (defBody zZo) (defScope zZo) .none kV13 dc13 pm13 an13 cd13 ct13),sl13⟩)
  (c13 : PySem.W.codeIn K cd13 "Wallet.keep" = true)
  (k13 : PySem.W.keepIn K (.ref a13) = true)
  (q14 : PySem.W.findIn K (.ref C5) "fitting" = some (some (.ref a14)))
  (i14 : PySem.W.isFn K (.ref a14) = true)
  (l14 : K.lookup a14 = some ⟨oc14,od14,.func (PySem.W.fnOf "fitting" "Wallet.fitting" (defArgs zZQ) (defBody zZQ) (defScope zZQ) .none kV14 dc14 pm14 an14 cd14 ct14),sl14⟩)
  (c14 : PySem.W.codeIn K cd14 "Wallet.fitting" = true)
  (k14 : PySem.W.keepIn K (.ref a14) = true)
  (q15 : PySem.W.findIn K (.ref C5) "picks" = some (some (.ref a15)))
  (i15 : PySem.W.isFn K (.ref a15) = true)
  (l15 : K.lookup a15 = some ⟨oc15,od15,.func (PySem.W.fnOf "picks" "Wallet.picks" (defArgs zZf) (defBody zZf) (defScope zZf) .none kV15 dc15 pm15 an15 cd15 ct15),sl15⟩)
  (c15 : PySem.W.codeIn K cd15 "Wallet.picks" = true)
  (k15 : PySem.W.keepIn K (.ref a15) = true)
  (q16 : PySem.W.findIn K (.ref C2) "__init__" = some (some (.ref a16)))
  (i16 : PySem.W.isFn K (.ref a16) = true)
  (l16 : K.lookup a16 = some ⟨oc16,od16,.func (PySem.W.fnOf "__init__" "Policy.__init__" (defArgs zZL) (defBody zZL) (defScope zZL) .none kV16 dc16 pm16 an16 cd16 ct16),sl16⟩)
  (c16 : PySem.W.codeIn K cd16 "Policy.__init__" = true)
  (k16 : PySem.W.keepIn K (.ref a16) = true)
  (q17 : PySem.W.findIn K (.ref C2) "place" = some (some (.ref a17)))
  (i17 : PySem.W.isFn K (.ref a17) = true)
  (l17 : K.lookup a17 = some ⟨oc17,od17,.func (PySem.W.fnOf "place" "Policy.place" (defArgs zZg) (defBody zZg) (defScope zZg) .none kV17 dc17 pm17 an17 cd17 ct17),sl17⟩)
  (c17 : PySem.W.codeIn K cd17 "Policy.place" = true)
  (k17 : PySem.W.keepIn K (.ref a17) = true)
  (q18 : PySem.W.nsIn K mainGlobals "_law_pool" = some (some (.ref a18)))
  (l18 : K.lookup a18 = some ⟨oc18,od18,.func (PySem.W.fnOf "_law_pool" "_law_pool" (defArgs yZB) (defBody yZB) (defScope yZB) .none kV18 dc18 pm18 an18 cd18 ct18),sl18⟩)
  (c18 : PySem.W.codeIn K cd18 "_law_pool" = true)
  (k18 : PySem.W.keepIn K (.ref a18) = true)
  (q19 : PySem.W.nsIn K mainGlobals "_law_draw" = some (some (.ref a19)))
  (l19 : K.lookup a19 = some ⟨oc19,od19,.func (PySem.W.fnOf "_law_draw" "_law_draw" (defArgs yZD) (defBody yZD) (defScope yZD) .none kV19 dc19 pm19 an19 cd19 ct19),sl19⟩)
  (c19 : PySem.W.codeIn K cd19 "_law_draw" = true)
  (k19 : PySem.W.keepIn K (.ref a19) = true)
  (q20 : PySem.W.nsIn K mainGlobals "_law_same" = some (some (.ref a20)))
  (l20 : K.lookup a20 = some ⟨oc20,od20,.func (PySem.W.fnOf "_law_same" "_law_same" (defArgs yZF) (defBody yZF) (defScope yZF) .none kV20 dc20 pm20 an20 cd20 ct20),sl20⟩)
  (c20 : PySem.W.codeIn K cd20 "_law_same" = true)
  (k20 : PySem.W.keepIn K (.ref a20) = true)
  (q21 : PySem.W.nsIn K mainGlobals "_law_power" = some (some (.ref a21)))
  (l21 : K.lookup a21 = some ⟨oc21,od21,.func (PySem.W.fnOf "_law_power" "_law_power" (defArgs zZ0) (defBody zZ0) (defScope zZ0) .none kV21 dc21 pm21 an21 cd21 ct21),sl21⟩)
  (c21 : PySem.W.codeIn K cd21 "_law_power" = true)
  (k21 : PySem.W.keepIn K (.ref a21) = true)
  (q22 : PySem.W.nsIn K mainGlobals "_law_raised" = some (some (.ref a22)))
  (l22 : K.lookup a22 = some ⟨oc22,od22,.func (PySem.W.fnOf "_law_raised" "_law_raised" (defArgs zZs) (defBody zZs) (defScope zZs) .none kV22 dc22 pm22 an22 cd22 ct22),sl22⟩)
  (c22 : PySem.W.codeIn K cd22 "_law_raised" = true)
  (k22 : PySem.W.keepIn K (.ref a22) = true)
  (q23 : PySem.W.nsIn K mainGlobals "_law_product" = some (some (.ref a23)))
  (l23 : K.lookup a23 = some ⟨oc23,od23,.func (PySem.W.fnOf "_law_product" "_law_product" (defArgs zZh) (defBody zZh) (defScope zZh) .none kV23 dc23 pm23 an23 cd23 ct23),sl23⟩)
  (c23 : PySem.W.codeIn K cd23 "_law_product" = true)
  (k23 : PySem.W.keepIn K (.ref a23) = true)
  (q24 : PySem.W.nsIn K mainGlobals "_law_commit" = some (some (.ref a24)))
  (l24 : K.lookup a24 = some ⟨oc24,od24,.func (PySem.W.fnOf "_law_commit" "_law_commit" (defArgs zZp) (defBody zZp) (defScope zZp) .none kV24 dc24 pm24 an24 cd24 ct24),sl24⟩)
  (c24 : PySem.W.codeIn K cd24 "_law_commit" = true)
  (k24 : PySem.W.keepIn K (.ref a24) = true)
  (q25 : PySem.W.nsIn K mainGlobals "_law_group" = some (some (.ref a25)))
  (l25 : K.lookup a25 = some ⟨oc25,od25,.func (PySem.W.fnOf "_law_group" "_law_group" (defArgs zZ5) (defBody zZ5) (defScope zZ5) .none kV25 dc25 pm25 an25 cd25 ct25),sl25⟩)
  (c25 : PySem.W.codeIn K cd25 "_law_group" = true)
  (k25 : PySem.W.keepIn K (.ref a25) = true)
  (q26 : PySem.W.nsIn K mainGlobals "_law_numbers" = some (some (.ref a26)))
  (l26 : K.lookup a26 = some ⟨oc26,od26,.func (PySem.W.fnOf "_law_numbers" "_law_numbers" (defArgs zZi) (defBody zZi) (defScope zZi) .none kV26 dc26 pm26 an26 cd26 ct26),sl26⟩)
  (c26 : PySem.W.codeIn K cd26 "_law_numbers" = true)
  (k26 : PySem.W.keepIn K (.ref a26) = true)
  (q27 : PySem.W.nsIn K mainGlobals "_law_kinds" = some (some (.ref a27)))
  (l27 : K.lookup a27 = some ⟨oc27,od27,.func (PySem.W.fnOf "_law_kinds" "_law_kinds" (defArgs zZw) (defBody zZw) (defScope zZw) .none kV27 dc27 pm27 an27 cd27 ct27),sl27⟩)
  (c27 : PySem.W.codeIn K cd27 "_law_kinds" = true)
  (k27 : PySem.W.keepIn K (.ref a27) = true)
  (q28 : PySem.W.nsIn K mainGlobals "_law_scene" = some (some (.ref a28)))
  (l28 : K.lookup a28 = some ⟨oc28,od28,.func (PySem.W.fnOf "_law_scene" "_law_scene" (defArgs zZ1) (defBody zZ1) (defScope zZ1) .none kV28 dc28 pm28 an28 cd28 ct28),sl28⟩)
  (c28 : PySem.W.codeIn K cd28 "_law_scene" = true)
  (k28 : PySem.W.keepIn K (.ref a28) = true)
  (q29 : PySem.W.nsIn K mainGlobals "_law_rows" = some (some (.ref a29)))
  (l29 : K.lookup a29 = some ⟨oc29,od29,.func (PySem.W.fnOf "_law_rows" "_law_rows" (defArgs yZC) (defBody yZC) (defScope yZC) .none kV29 dc29 pm29 an29 cd29 ct29),sl29⟩)
  (c29 : PySem.W.codeIn K cd29 "_law_rows" = true)
  (k29 : PySem.W.keepIn K (.ref a29) = true)
  (q30 : PySem.W.nsIn K mainGlobals "_law_fields" = some (some (.ref a30)))
  (l30 : K.lookup a30 = some ⟨oc30,od30,.func (PySem.W.fnOf "_law_fields" "_law_fields" (defArgs zZq) (defBody zZq) (defScope zZq) .none kV30 dc30 pm30 an30 cd30 ct30),sl30⟩)
  (c30 : PySem.W.codeIn K cd30 "_law_fields" = true)
  (k30 : PySem.W.keepIn K (.ref a30) = true)
  (q31 : PySem.W.nsIn K mainGlobals "_law_condition" = some (some (.ref a31)))
  (l31 : K.lookup a31 = some ⟨oc31,od31,.func (PySem.W.fnOf "_law_condition" "_law_condition" (defArgs zZP) (defBody zZP) (defScope zZP) .none kV31 dc31 pm31 an31 cd31 ct31),sl31⟩)
  (c31 : PySem.W.codeIn K cd31 "_law_condition" = true)
  (k31 : PySem.W.keepIn K (.ref a31) = true)
  (q32 : PySem.W.nsIn K mainGlobals "_law_question" = some (some (.ref a32)))
  (l32 : K.lookup a32 = some ⟨oc32,od32,.func (PySem.W.fnOf "_law_question" "_law_question" (defArgs zZW) (defBody zZW) (defScope zZW) .none kV32 dc32 pm32 an32 cd32 ct32),sl32⟩)
  (c32 : PySem.W.codeIn K cd32 "_law_question" = true)
  (k32 : PySem.W.keepIn K (.ref a32) = true)
  (q33 : PySem.W.nsIn K mainGlobals "_law_place" = some (some (.ref a33)))
  (l33 : K.lookup a33 = some ⟨oc33,od33,.func (PySem.W.fnOf "_law_place" "_law_place" (defArgs zZ4) (defBody zZ4) (defScope zZ4) .none kV33 dc33 pm33 an33 cd33 ct33),sl33⟩)
  (c33 : PySem.W.codeIn K cd33 "_law_place" = true)
  (k33 : PySem.W.keepIn K (.ref a33) = true)
  (q34 : PySem.W.nsIn K mainGlobals "_law_sizes" = some (some (.ref a34)))
  (l34 : K.lookup a34 = some ⟨oc34,od34,.func (PySem.W.fnOf "_law_sizes" "_law_sizes" (defArgs zZ2) (defBody zZ2) (defScope zZ2) .none kV34 dc34 pm34 an34 cd34 ct34),sl34⟩)
  (c34 : PySem.W.codeIn K cd34 "_law_sizes" = true)
  (k34 : PySem.W.keepIn K (.ref a34) = true)
  (q35 : PySem.W.nsIn K mainGlobals "_law_allowed" = some (some (.ref a35)))
  (l35 : K.lookup a35 = some ⟨oc35,od35,.func (PySem.W.fnOf "_law_allowed" "_law_allowed" (defArgs zZe) (defBody zZe) (defScope zZe) .none kV35 dc35 pm35 an35 cd35 ct35),sl35⟩)
  (c35 : PySem.W.codeIn K cd35 "_law_allowed" = true)
  (k35 : PySem.W.keepIn K (.ref a35) = true)
  (q36 : PySem.W.nsIn K mainGlobals "_law_answers" = some (some (.ref a36)))
  (l36 : K.lookup a36 = some ⟨oc36,od36,.func (PySem.W.fnOf "_law_answers" "_law_answers" (defArgs zZd) (defBody zZd) (defScope zZd) .none kV36 dc36 pm36 an36 cd36 ct36),sl36⟩)
  (c36 : PySem.W.codeIn K cd36 "_law_answers" = true)
  (k36 : PySem.W.keepIn K (.ref a36) = true)
  (q37 : PySem.W.nsIn K mainGlobals "_law_holdings" = some (some (.ref a37)))
  (l37 : K.lookup a37 = some ⟨oc37,od37,.func (PySem.W.fnOf "_law_holdings" "_law_holdings" (defArgs zZX) (defBody zZX) (defScope zZX) .none kV37 dc37 pm37 an37 cd37 ct37),sl37⟩)
  (c37 : PySem.W.codeIn K cd37 "_law_holdings" = true)
  (k37 : PySem.W.keepIn K (.ref a37) = true)
  (q38 : PySem.W.nsIn K mainGlobals "_law_first" = some (some (.ref a38)))
  (l38 : K.lookup a38 = some ⟨oc38,od38,.func (PySem.W.fnOf "_law_first" "_law_first" (defArgs zZ3) (defBody zZ3) (defScope zZ3) .none kV38 dc38 pm38 an38 cd38 ct38),sl38⟩)
  (c38 : PySem.W.codeIn K cd38 "_law_first" = true)
  (k38 : PySem.W.keepIn K (.ref a38) = true)
  (q39 : PySem.W.nsIn K mainGlobals "law" = some (some (.ref a39)))
  (l39 : K.lookup a39 = some ⟨oc39,od39,.func (PySem.W.fnOf "law" "law" (defArgs zZBR) (defBody zZBR) (defScope zZBR) .none kV39 dc39 pm39 an39 cd39 ct39),sl39⟩)
  (c39 : PySem.W.codeIn K cd39 "law" = true)
  (k39 : PySem.W.keepIn K (.ref a39) = true)
  (z0 : PySem.W.nsIn K mainGlobals "bool" = some none)
  (z1 : PySem.W.nsIn K mainGlobals "enumerate" = some none)
  (z2 : PySem.W.nsIn K mainGlobals "int" = some none)
  (z3 : PySem.W.nsIn K mainGlobals "isinstance" = some none)
  (z4 : PySem.W.nsIn K mainGlobals "len" = some none)
  (z5 : PySem.W.nsIn K mainGlobals "list" = some none)
  (z6 : PySem.W.nsIn K mainGlobals "min" = some none)
  (z7 : PySem.W.nsIn K mainGlobals "range" = some none)
  (z8 : PySem.W.nsIn K mainGlobals "str" = some none)
  (z9 : PySem.W.nsIn K mainGlobals "tuple" = some none)
  (gi0 : ∃ t,PySem.W.nsIn K mainGlobals "GREATEST" = some (some (.int 1000000 t)))
  (gi1 : ∃ t,PySem.W.nsIn K mainGlobals "MOST_BASES" = some (some (.int 12 t)))
  (hx : ∀ ns : List Int,ns.length ≤ 63 → ∃ W,(cfgN T 40).call zZJg [.ext ns] [] = .ok (.bl true) W) :
  ∃ fd : FuncData,(∀ (s : Shared) (v : Value),BindsTo s fd ⟨[v],[]⟩ [("_law_script",v)]) ∧ ∀ base : Heap,K.In base → base.Ns mainGlobals mg → FnOk l.prog w K mg base CX0 80 fa fd ["_law_script"] (spLaw K 63):=by
 have e:=hfa.symm.trans (PySem.W.mg_of X G q39)
 cases e
 have K0 : Cls K C0:=⟨pg0,hd0,po0,sa0⟩
 have K1 : Cls K C1:=⟨pg1,hd1,po1,sa1⟩
 have K2 : Cls K C2:=⟨pg2,hd2,po2,sa2⟩
 have K3 : Cls K C3:=⟨pg3,hd3,po3,sa3⟩
 have K4 : Cls K C4:=⟨pg4,hd4,po4,sa4⟩
 have K5 : Cls K C5:=⟨pg5,hd5,po5,sa5⟩
 have F0:=fun_mk (st:=yZK) l0 c0 k0
 have b0:=F0.binds (ps:=["number"]) fun _ _ _ _ _ _ us hl=>match us,hl with | [_],_=>rfl
 have D0 : DefAt Z K zZAP a0:=⟨_,_,yZK,_,["number","divisor"],["number"],F0,zZIu,rfl,rfl,b0,zZIm⟩
 have F1:=fun_mk (st:=xZJ) l1 c1 k1
 have b1:=F1.binds (ps:=["base","exponent","modulus"]) fun _ _ _ _ _ _ us hl=>match us,hl with | [_,_,_],_=>rfl
 have D1 : DefAt Z K zZEA a1:=⟨_,_,xZJ,_,["base","exponent","modulus","result"],["base","exponent","modulus"],F1,zZLp,rfl,rfl,b1,zZLf⟩
 have F2:=fun_mk (st:=zZR) l2 c2 k2
 have b2:=F2.binds (ps:=["self","p","q","bases"]) fun _ _ _ _ _ _ us hl=>match us,hl with | [_,_,_,_],_=>rfl
 have D2 : DefAt Z K yZe a2:=⟨_,_,zZR,_,["self","p","q","bases","index","base"],["self","p","q","bases"],F2,zZEG,rfl,rfl,b2,zZEL⟩
 have F3:=fun_mk (st:=zZT) l3 c3 k3
 have b3:=F3.binds (ps:=["self","name","fields"]) fun _ _ _ _ _ _ us hl=>match us,hl with | [_,_,_],_=>rfl
 have D3 : DefAt Z K yZj a3:=⟨_,_,zZT,_,["self","name","fields"],["self","name","fields"],F3,zZEU,rfl,rfl,b3,zZEt⟩
 have F4:=fun_mk (st:=zZz) l4 c4 k4
 have b4:=F4.binds (ps:=["kinds","name"]) fun _ _ _ _ _ _ us hl=>match us,hl with | [_,_],_=>rfl
 have D4 : DefAt Z K xZM a4:=⟨_,_,zZz,_,["kinds","name","kind"],["kinds","name"],F4,zZHG,rfl,rfl,b4,zZHN⟩
 have F5:=fun_mk (st:=zZH) l5 c5 k5
 have b5:=F5.binds (ps:=["self","group","kinds","policy","rows"]) fun _ _ _ _ _ _ us hl=>match us,hl with | [_,_,_,_,_],_=>rfl
 have D5 : DefAt Z K yZI a5:=⟨_,_,zZH,_,["self","group","kinds","policy","rows","row"],["self","group","kinds","policy","rows"],F5,zZCp,rfl,rfl,b5,zZCo⟩
 have F6:=fun_mk (st:=zZU) l6 c6 k6
 have b6:=F6.binds (ps:=["self","card"]) fun _ _ _ _ _ _ us hl=>match us,hl with | [_,_],_=>rfl
 have D6 : DefAt Z K yZk a6:=⟨_,_,zZU,_,["self","card"],["self","card"],F6,zZEk,rfl,rfl,b6,zZEg⟩
 have F7:=fun_mk (st:=zZO) l7 c7 k7
 have b7:=F7.binds (ps:=["self","card","value"]) fun _ _ _ _ _ _ us hl=>match us,hl with | [_,_,_],_=>rfl
 have D7 : DefAt Z K yZb a7:=⟨_,_,zZO,_,["self","card","value","index","name","_"],["self","card","value"],F7,zZEH,rfl,rfl,b7,zZEE⟩
 have F8:=fun_mk (st:=zZY) l8 c8 k8
 have b8:=F8.binds (ps:=["self","place"]) fun _ _ _ _ _ _ us hl=>match us,hl with | [_,_],_=>rfl
 have D8 : DefAt Z K yZm a8:=⟨_,_,zZY,_,["self","place"],["self","place"],F8,zZEd,rfl,rfl,b8,zZEV⟩
 have F9:=fun_mk (st:=zZ6) l9 c9 k9
 have b9:=F9.binds (ps:=["question","condition"]) fun _ _ _ _ _ _ us hl=>match us,hl with | [_,_],_=>rfl
 have D9 : DefAt Z K yZQ a9:=⟨_,_,zZ6,_,["question","condition"],["question","condition"],F9,zZHJ,rfl,rfl,b9,zZHQ⟩
 have F10:=fun_mk (st:=zZS) l10 c10 k10
 have b10:=F10.binds (ps:=["self","row","randomness","numbers"]) fun _ _ _ _ _ _ us hl=>match us,hl with | [_,_,_,_],_=>rfl
 have D10 : DefAt Z K yZh a10:=⟨_,_,zZS,_,["self","row","randomness","numbers"],["self","row","randomness","numbers"],F10,zZEj,rfl,rfl,b10,zZET⟩
 have F11:=fun_mk (st:=yZX) l11 c11 k11
 have b11:=F11.binds (ps:=["question","picks"]) fun _ _ _ _ _ _ us hl=>match us,hl with | [_,_],_=>rfl
 have D11 : DefAt Z K zZBU a11:=⟨_,_,yZX,_,["question","picks","row","number","card","value","other","place"],["question","picks"],F11,zZJY,rfl,rfl,b11,zZJu⟩
 have F12:=fun_mk (st:=zZK) l12 c12 k12
 have b12:=F12.binds (ps:=["self","group","secret"]) fun _ _ _ _ _ _ us hl=>match us,hl with | [_,_,_],_=>rfl
 have D12 : DefAt Z K yZP a12:=⟨_,_,zZK,_,["self","group","secret"],["self","group","secret"],F12,zZDG,rfl,rfl,b12,zZC8⟩
 have F13:=fun_mk (st:=zZo) l13 c13 k13
 have b13:=F13.binds (ps:=["self","issuer","index","kind","randomness","values"]) fun _ _ _ _ _ _ us hl=>match us,hl with | [_,_,_,_,_,_],_=>rfl
 have D13 : DefAt Z K yZ7 a13:=⟨_,_,zZo,_,["self","issuer","index","kind","randomness","values"],["self","issuer","index","kind","randomness","values"],F13,zZGc,rfl,rfl,b13,zZGg⟩
 have F14:=fun_mk (st:=zZQ) l14 c14 k14
 have b14:=F14.binds (ps:=["self","question","card"]) fun _ _ _ _ _ _ us hl=>match us,hl with | [_,_,_],_=>rfl
 have D14 : DefAt Z K yZd a14:=⟨_,_,zZQ,_,["self","question","card","found","rows","issuer","index","kind","randomness","values","row"],["self","question","card"],F14,zZEI,rfl,rfl,b14,zZEF⟩
 have F15:=fun_mk (st:=zZf) l15 c15 k15
 have b15:=F15.binds (ps:=["self","question"]) fun _ _ _ _ _ _ us hl=>match us,hl with | [_,_],_=>rfl
 have D15 : DefAt Z K yZt a15:=⟨_,_,zZf,_,["self","question","found","card","row","pick"],["self","question"],F15,zZEz,rfl,rfl,b15,zZGJ⟩
 have F16:=fun_mk (st:=zZL) l16 c16 k16
 have b16:=F16.binds (ps:=["self","cards","conditions"]) fun _ _ _ _ _ _ us hl=>match us,hl with | [_,_,_],_=>rfl
 have D16 : DefAt Z K yZN a16:=⟨_,_,zZL,_,["self","cards","conditions"],["self","cards","conditions"],F16,zZDl,rfl,rfl,b16,zZDz⟩
 have F17:=fun_mk (st:=zZg) l17 c17 k17
 have b17:=F17.binds (ps:=["self","card"]) fun _ _ _ _ _ _ us hl=>match us,hl with | [_,_],_=>rfl
 have D17 : DefAt Z K yZv a17:=⟨_,_,zZg,_,["self","card","row"],["self","card"],F17,zZGG,rfl,rfl,b17,zZFA⟩
 have F18:=fun_mk (st:=yZB) l18 c18 k18
 have b18:=F18.binds (ps:=["_law_script","_law_budget"]) fun _ _ _ _ _ _ us hl=>match us,hl with | [_,_],_=>rfl
 have D18 : DefAt Z K xZw a18:=⟨_,_,yZB,_,["_law_script","_law_budget"],["_law_script","_law_budget"],F18,zZIY,rfl,rfl,b18,zZHf⟩
 have F19:=fun_mk (st:=yZD) l19 c19 k19
 have b19:=F19.binds (ps:=["_law_pool_here","_law_size"]) fun _ _ _ _ _ _ us hl=>match us,hl with | [_,_],_=>rfl
 have D19 : DefAt Z K xZv a19:=⟨_,_,yZD,_,["_law_pool_here","_law_size","_law_cell","_law_value"],["_law_pool_here","_law_size"],F19,zZIZ,rfl,rfl,b19,zZH2⟩
 have F20:=fun_mk (st:=yZF) l20 c20 k20
 have b20:=F20.binds (ps:=["_law_actual","_law_due"]) fun _ _ _ _ _ _ us hl=>match us,hl with | [_,_],_=>rfl
 have D20 : DefAt Z K yZE a20:=⟨_,_,yZF,_,["_law_actual","_law_due","_law_k"],["_law_actual","_law_due"],F20,zZHy,rfl,rfl,b20,zZHe⟩
 have F21:=fun_mk (st:=zZ0) l21 c21 k21
 have b21:=F21.binds (ps:=["_law_base","_law_exponent","_law_modulus"]) fun _ _ _ _ _ _ us hl=>match us,hl with | [_,_,_],_=>rfl
 have D21 : DefAt Z K xZN a21:=⟨_,_,zZ0,_,["_law_base","_law_exponent","_law_modulus","_law_result","_law_k"],["_law_base","_law_exponent","_law_modulus"],F21,zZHR,rfl,rfl,b21,zZHD⟩
 have F22:=fun_mk (st:=zZs) l22 c22 k22
 have b22:=F22.binds (ps:=["_law_group_here","_law_element","_law_exponent"]) fun _ _ _ _ _ _ us hl=>match us,hl with | [_,_,_],_=>rfl
 have D22 : DefAt Z K yZ8 a22:=⟨_,_,zZs,_,["_law_group_here","_law_element","_law_exponent"],["_law_group_here","_law_element","_law_exponent"],F22,zZGj,rfl,rfl,b22,zZGf⟩
 have F23:=fun_mk (st:=zZh) l23 c23 k23
 have b23:=F23.binds (ps:=["_law_group_here","_law_pairs"]) fun _ _ _ _ _ _ us hl=>match us,hl with | [_,_],_=>rfl
 have D23 : DefAt Z K yZz a23:=⟨_,_,zZh,_,["_law_group_here","_law_pairs","_law_result","_law_element","_law_exponent"],["_law_group_here","_law_pairs"],F23,zZFR,rfl,rfl,b23,zZFP⟩
 have F24:=fun_mk (st:=zZp) l24 c24 k24
 have b24:=F24.binds (ps:=["_law_group_here","_law_exponents"]) fun _ _ _ _ _ _ us hl=>match us,hl with | [_,_],_=>rfl
 have D24 : DefAt Z K yZ9 a24:=⟨_,_,zZp,_,["_law_group_here","_law_exponents","_law_k"],["_law_group_here","_law_exponents"],F24,zZGi,rfl,rfl,b24,zZGe⟩
 have F25:=fun_mk (st:=zZ5) l25 c25 k25
 have b25:=F25.binds (ps:=["_law_pool_here","_law_count","_law_least"]) fun _ _ _ _ _ _ us hl=>match us,hl with | [_,_,_],_=>rfl
 have D25 : DefAt Z K xZZ a25:=⟨_,_,zZ5,_,["_law_pool_here","_law_count","_law_least","_law_pairs","_law_root","_law_number","_law_bases","_law_at","_law_step","_law_k","_law_exponent","_law_p","_law_q","_law_base","_law_pair"],["_law_pool_here","_law_count","_law_least"],F25,zZHF,rfl,rfl,b25,zZHM⟩
 have F26:=fun_mk (st:=zZi) l26 c26 k26
 have b26:=F26.binds (ps:=["_law_pool_here","_law_group_here","_law_count"]) fun _ _ _ _ _ _ us hl=>match us,hl with | [_,_,_],_=>rfl
 have D26 : DefAt Z K yZx a26:=⟨_,_,zZi,_,["_law_pool_here","_law_group_here","_law_count","_law_k"],["_law_pool_here","_law_group_here","_law_count"],F26,zZFM,rfl,rfl,b26,zZFX⟩
 have F27:=fun_mk (st:=zZw) l27 c27 k27
 have b27:=F27.binds (ps:=["_law_pool_here","_law_most"]) fun _ _ _ _ _ _ us hl=>match us,hl with | [_,_],_=>rfl
 have D27 : DefAt Z K xZd a27:=⟨_,_,zZw,_,["_law_pool_here","_law_most","_law_kinds_here","_law_k","_law_fields_here","_law_place_here"],["_law_pool_here","_law_most"],F27,zZHI,rfl,rfl,b27,zZHU⟩
 have F28:=fun_mk (st:=zZ1) l28 c28 k28
 have b28:=F28.binds (ps:=["_law_pool_here","_law_cards","_law_most"]) fun _ _ _ _ _ _ us hl=>match us,hl with | [_,_,_],_=>rfl
 have D28 : DefAt Z K xZa a28:=⟨_,_,zZ1,_,["_law_pool_here","_law_cards","_law_most","_law_group_here","_law_kinds_here","_law_scene_here","_law_k","_law_turn","_law_issuers","_law_rows_here","_law_found","_law_conditions","_law_kind","_law_fields_here"],["_law_pool_here","_law_cards","_law_most"],F28,zZHP,rfl,rfl,b28,zZHL⟩
 have F29:=fun_mk (st:=yZC) l29 c29 k29
 have b29:=F29.binds (ps:=["_law_pool_here","_law_scene_here","_law_fields_here","_law_issuers"]) fun _ _ _ _ _ _ us hl=>match us,hl with | [_,_,_,_],_=>rfl
 have D29 : DefAt Z K xZy a29:=⟨_,_,yZC,_,["_law_pool_here","_law_scene_here","_law_fields_here","_law_issuers","_law_group_here","_law_numbers_here","_law_count","_law_places","_law_rows_here","_law_place_here","_law_found","_law_name","_law_size","_law_first_here","_law_second","_law_opening","_law_side","_law_picks"],["_law_pool_here","_law_scene_here","_law_fields_here","_law_issuers"],F29,zZIE,rfl,rfl,b29,zZH6⟩
 have F30:=fun_mk (st:=zZq) l30 c30 k30
 have b30:=F30.binds (ps:=["_law_scene_here"]) fun _ _ _ _ _ _ us hl=>match us,hl with | [_],_=>rfl
 have D30 : DefAt Z K yZ6 a30:=⟨_,_,zZq,_,["_law_scene_here","_law_found","_law_card","_law_fields_here","_law_value","_law_names","_law_kind","_law_side"],["_law_scene_here"],F30,zZGW,rfl,rfl,b30,zZGY⟩
 have F31:=fun_mk (st:=zZP) l31 c31 k31
 have b31:=F31.binds (ps:=["_law_pool_here","_law_scene_here"]) fun _ _ _ _ _ _ us hl=>match us,hl with | [_,_],_=>rfl
 have D31 : DefAt Z K yZc a31:=⟨_,_,zZP,_,["_law_pool_here","_law_scene_here","_law_fields_here","_law_way","_law_same_here","_law_names","_law_size","_law_both","_law_numbers_here","_law_other","_law_k","_law_number"],["_law_pool_here","_law_scene_here"],F31,zZEJ,rfl,rfl,b31,zZEK⟩
 have F32:=fun_mk (st:=zZW) l32 c32 k32
 have b32:=F32.binds (ps:=["_law_scene_here"]) fun _ _ _ _ _ _ us hl=>match us,hl with | [_],_=>rfl
 have D32 : DefAt Z K yZl a32:=⟨_,_,zZW,_,["_law_scene_here","_law_group_here","_law_kinds_here","_law_policy","_law_name","_law_fields_here"],["_law_scene_here"],F32,zZEa,rfl,rfl,b32,zZEi⟩
 have F33:=fun_mk (st:=zZ4) l33 c33 k33
 have b33:=F33.binds (ps:=["_law_scene_here","_law_names"]) fun _ _ _ _ _ _ us hl=>match us,hl with | [_,_],_=>rfl
 have D33 : DefAt Z K xZX a33:=⟨_,_,zZ4,_,["_law_scene_here","_law_names","_law_card","_law_fields_here","_law_row","_law_kind","_law_name","_law_size"],["_law_scene_here","_law_names"],F33,zZHS,rfl,rfl,b33,zZHW⟩
 have F34:=fun_mk (st:=zZ2) l34 c34 k34
 have b34:=F34.binds (ps:=["_law_scene_here"]) fun _ _ _ _ _ _ us hl=>match us,hl with | [_],_=>rfl
 have D34 : DefAt Z K xZf a34:=⟨_,_,zZ2,_,["_law_scene_here","_law_sizes_here","_law_card","_law_fields_here","_law_value","_law_kind"],["_law_scene_here"],F34,zZHX,rfl,rfl,b34,zZHV⟩
 have F35:=fun_mk (st:=zZe) l35 c35 k35
 have b35:=F35.binds (ps:=["_law_scene_here","_law_row"]) fun _ _ _ _ _ _ us hl=>match us,hl with | [_,_],_=>rfl
 have D35 : DefAt Z K yZG a35:=⟨_,_,zZe,_,["_law_scene_here","_law_row"],["_law_scene_here","_law_row"],F35,zZFK,rfl,rfl,b35,zZFx⟩
 have F36:=fun_mk (st:=zZd) l36 c36 k36
 have b36:=F36.binds (ps:=["_law_scene_here","_law_picks"]) fun _ _ _ _ _ _ us hl=>match us,hl with | [_,_],_=>rfl
 have D36 : DefAt Z K yZs a36:=⟨_,_,zZd,_,["_law_scene_here","_law_picks","_law_row","_law_number","_law_card","_law_value","_law_other","_law_place_here"],["_law_scene_here","_law_picks"],F36,zZGM,rfl,rfl,b36,zZFO⟩
 have F37:=fun_mk (st:=zZX) l37 c37 k37
 have b37:=F37.binds (ps:=["_law_pool_here","_law_scene_here","_law_side"]) fun _ _ _ _ _ _ us hl=>match us,hl with | [_,_,_],_=>rfl
 have D37 : DefAt Z K yZi a37:=⟨_,_,zZX,_,["_law_pool_here","_law_scene_here","_law_side","_law_holdings_here","_law_turn","_law_card","_law_way","_law_place_here","_law_randomness","_law_numbers_here","_law_fields_here","_law_issuer","_law_index","_law_element","_law_kind","_law_name","_law_size"],["_law_pool_here","_law_scene_here","_law_side"],F37,zZEZ,rfl,rfl,b37,zZEW⟩
 have F38:=fun_mk (st:=zZ3) l38 c38 k38
 have b38:=F38.binds (ps:=["_law_scene_here","_law_holdings_here"]) fun _ _ _ _ _ _ us hl=>match us,hl with | [_,_],_=>rfl
 have D38 : DefAt Z K xZb a38:=⟨_,_,zZ3,_,["_law_scene_here","_law_holdings_here","_law_found","_law_card","_law_picks","_law_more","_law_rows_here","_law_row","_law_issuer","_law_index","_law_kind","_law_randomness","_law_numbers_here"],["_law_scene_here","_law_holdings_here"],F38,zZHE,rfl,rfl,b38,zZHO⟩
 have F39:=fun_mk (st:=zZBR) l39 c39 k39
 have b39:=F39.binds (ps:=["_law_script"]) fun _ _ _ _ _ _ us hl=>match us,hl with | [_],_=>rfl
 have D39 : DefAt Z K zZJx fa:=⟨_,_,zZBR,_,["_law_script","_law_pool_here","_law_scene_here","_law_group_here","_law_side","_law_shutet","_law_holdings_here","_law_actual","_law_due","_law_told","_law_issuer","_law_index","_law_kind","_law_randomness","_law_numbers_here","_law_pick"],["_law_script"],F39,zZKi,rfl,rfl,b39,zZKj⟩
 have S : Sets l.prog Z T (Bt K [C0,C1,C2,C3,C4,C5]) K mg (FL [a0,a1,a4,a6,a7,a8,a9,a11,a13,a14,a15,a17,a18,a19,a20,a21,a22,a23,a24,a25,a26,a27,a28,a29,a30,a31,a32,a33,a34,a35,a36,a37,a38,fa]) (FL [a2,a3,a16,a5,a10,a12]):=by
  refine ⟨fun f F hf => ?_,fun c F hc => ?_,fun f x hf => ?_,fun c m f hm => ?_,fun c x hc => ?_,fun c f hf => ?_,fun x hx => ?_,fun x i hi => ?_,rfl,fun a ns H q=>q H,fun c c' r hr => ?_,fun c c' f hf => ?_,fun c c' f hf => ?_,fun k c b hb => ?_,fun k c b hb => ?_,fun c x hx => ?_,fun c x hx => ?_,fun c x hx w base => ?_,fun f x hf => ?_,fun k f hf => ?_,fun k b hb => ?_⟩
  ·have A : AllD Z K (FL [a0,a1,a4,a6,a7,a8,a9,a11,a13,a14,a15,a17,a18,a19,a20,a21,a22,a23,a24,a25,a26,a27,a28,a29,a30,a31,a32,a33,a34,a35,a36,a37,a38,fa]) 0 fnL:=⟨D0,D1,D4,D6,D7,D8,D9,D11,D13,D14,D15,D17,D18,D19,D20,D21,D22,D23,D24,D25,D26,D27,D28,D29,D30,D31,D32,D33,D34,D35,D36,D37,D38,D39,trivial⟩
   have q:=A.get (j:=f) (F:=F) hf
   rwa [Nat.zero_add] at q
  ·have A : AllD Z K (FL [a2,a3,a16,a5,a10,a12]) 0 iniL:=⟨D2,D3,D16,D5,D10,D12,trivial⟩
   have q:=A.get (j:=c) (F:=F) hc
   rwa [Nat.zero_add] at q
  ·have A : AllN (fun i x=>mg x = some (.ref (FL [a0,a1,a4,a6,a7,a8,a9,a11,a13,a14,a15,a17,a18,a19,a20,a21,a22,a23,a24,a25,a26,a27,a28,a29,a30,a31,a32,a33,a34,a35,a36,a37,a38,fa] i)) ∧ PySem.W.keepIn K (.ref (FL [a0,a1,a4,a6,a7,a8,a9,a11,a13,a14,a15,a17,a18,a19,a20,a21,a22,a23,a24,a25,a26,a27,a28,a29,a30,a31,a32,a33,a34,a35,a36,a37,a38,fa] i)) = true) 0 fnmL:=⟨⟨PySem.W.mg_of X G q0,k0⟩,⟨PySem.W.mg_of X G q1,k1⟩,⟨PySem.W.mg_of X G q4,k4⟩,⟨PySem.W.mg_of X G q9,k9⟩,⟨PySem.W.mg_of X G q11,k11⟩,⟨PySem.W.mg_of X G q18,k18⟩,⟨PySem.W.mg_of X G q19,k19⟩,⟨PySem.W.mg_of X G q20,k20⟩,⟨PySem.W.mg_of X G q21,k21⟩,⟨PySem.W.mg_of X G q22,k22⟩,⟨PySem.W.mg_of X G q23,k23⟩,⟨PySem.W.mg_of X G q24,k24⟩,⟨PySem.W.mg_of X G q25,k25⟩,⟨PySem.W.mg_of X G q26,k26⟩,⟨PySem.W.mg_of X G q27,k27⟩,⟨PySem.W.mg_of X G q28,k28⟩,⟨PySem.W.mg_of X G q29,k29⟩,⟨PySem.W.mg_of X G q30,k30⟩,⟨PySem.W.mg_of X G q31,k31⟩,⟨PySem.W.mg_of X G q32,k32⟩,⟨PySem.W.mg_of X G q33,k33⟩,⟨PySem.W.mg_of X G q34,k34⟩,⟨PySem.W.mg_of X G q35,k35⟩,⟨PySem.W.mg_of X G q36,k36⟩,⟨PySem.W.mg_of X G q37,k37⟩,⟨PySem.W.mg_of X G q38,k38⟩,⟨PySem.W.mg_of X G q39,k39⟩,trivial⟩
   have q:=A.get (j:=f) (x:=x) hf
   rwa [Nat.zero_add] at q
  ·have A : AllP (fun e=>e.1.2 < 68 ∧ Cls K (FL [C0,C1,C2,C3,C4,C5] e.1.1) ∧ Meth K (FL [C0,C1,C2,C3,C4,C5] e.1.1) (anm e.1.2) (FL [a0,a1,a4,a6,a7,a8,a9,a11,a13,a14,a15,a17,a18,a19,a20,a21,a22,a23,a24,a25,a26,a27,a28,a29,a30,a31,a32,a33,a34,a35,a36,a37,a38,fa] e.2)) methL:=⟨⟨by decide,K2,⟨q17,i17,k17⟩⟩,⟨by decide,K3,⟨q7,i7,k7⟩⟩,⟨by decide,K3,⟨q8,i8,k8⟩⟩,⟨by decide,K3,⟨q6,i6,k6⟩⟩,⟨by decide,K5,⟨q13,i13,k13⟩⟩,⟨by decide,K5,⟨q15,i15,k15⟩⟩,⟨by decide,K5,⟨q14,i14,k14⟩⟩,trivial⟩
   exact A.mem (a:=((c,m),f)) (zZM hm)
  ·have A : AllN (fun i x=>mg x = some (.ref (FL [C0,C1,C2,C3,C4,C5] i)) ∧ Mk K (FL [C0,C1,C2,C3,C4,C5] i) (FL [a2,a3,a16,a5,a10,a12] i)) 0 cnmL:=⟨⟨PySem.W.mg_of X G qc0,⟨mk0,q2,i2,kc0⟩⟩,⟨PySem.W.mg_of X G qc1,⟨mk1,q3,i3,kc1⟩⟩,⟨PySem.W.mg_of X G qc2,⟨mk2,q16,i16,kc2⟩⟩,⟨PySem.W.mg_of X G qc3,⟨mk3,q5,i5,kc3⟩⟩,⟨PySem.W.mg_of X G qc4,⟨mk4,q10,i10,kc4⟩⟩,⟨PySem.W.mg_of X G qc5,⟨mk5,q12,i12,kc5⟩⟩,trivial⟩
   have q:=A.get (j:=c) (x:=x) hc
   rwa [Nat.zero_add] at q
  ·have A : AllP (fun e=>e.2 < 68 ∧ Cls K (FL [C0,C1,C2,C3,C4,C5] e.1) ∧ NoAttr K (FL [C0,C1,C2,C3,C4,C5] e.1) (anm e.2)) fldL:=⟨⟨by decide,K0,na0_2⟩,⟨by decide,K0,na0_3⟩,⟨by decide,K0,na0_4⟩,⟨by decide,K1,na1_12⟩,⟨by decide,K1,na1_13⟩,⟨by decide,K2,na2_28⟩,⟨by decide,K2,na2_29⟩,⟨by decide,K3,na3_19⟩,⟨by decide,K3,na3_20⟩,⟨by decide,K3,na3_42⟩,⟨by decide,K3,na3_43⟩,⟨by decide,K4,na4_47⟩,⟨by decide,K4,na4_48⟩,⟨by decide,K4,na4_49⟩,⟨by decide,K5,na5_19⟩,⟨by decide,K5,na5_51⟩,⟨by decide,K5,na5_59⟩,trivial⟩
   exact A.mem (a:=(c,f)) (List.contains_iff_mem.mp hf)
  ·have A : AllP (fun x=>mg x = none) bltL:=⟨PySem.W.mg_none_of X G z0,PySem.W.mg_none_of X G z1,PySem.W.mg_none_of X G z2,PySem.W.mg_none_of X G z3,PySem.W.mg_none_of X G z4,PySem.W.mg_none_of X G z5,PySem.W.mg_none_of X G z6,PySem.W.mg_none_of X G z7,PySem.W.mg_none_of X G z8,PySem.W.mg_none_of X G z9,trivial⟩
   exact A.mem hx
  ·have A : AllP (fun e : Str × Int => ∃ t,mg e.1 = some (.int e.2 t)) giL:=⟨(gi0).imp fun _ z=>PySem.W.mg_of X G z,(gi1).imp fun _ z=>PySem.W.mg_of X G z,trivial⟩
   exact A.mem (a:=(x,i)) (zZM hi)
  ·have A : AllP (fun e : (Nat × Nat) × Bool=>IscAt K (FL [C0,C1,C2,C3,C4,C5] e.1.1) (FL [C0,C1,C2,C3,C4,C5] e.1.2) e.2) iscL:=trivial
   exact A.mem (a:=((c,c'),r)) (zZM hr)
  ·have A : AllP (fun e : (Nat × Nat) × Nat=>(PySem.W.findIn K (.ref (FL [C0,C1,C2,C3,C4,C5] e.1.1)) "__ne__" = some (some (.builtin "object.__ne__")) ∧ PySem.W.mroIn K (FL [C0,C1,C2,C3,C4,C5] e.1.1) (.type "object") = some true ∧ PySem.W.subIn K (.ref (FL [C0,C1,C2,C3,C4,C5] e.1.1)) (.type "NoneType") = some false) ∧ PySem.W.findIn K (.ref (FL [C0,C1,C2,C3,C4,C5] e.1.1)) "__eq__" = some (some (.ref (FL [a0,a1,a4,a6,a7,a8,a9,a11,a13,a14,a15,a17,a18,a19,a20,a21,a22,a23,a24,a25,a26,a27,a28,a29,a30,a31,a32,a33,a34,a35,a36,a37,a38,fa] e.2))) ∧ PySem.W.isFn K (.ref (FL [a0,a1,a4,a6,a7,a8,a9,a11,a13,a14,a15,a17,a18,a19,a20,a21,a22,a23,a24,a25,a26,a27,a28,a29,a30,a31,a32,a33,a34,a35,a36,a37,a38,fa] e.2)) = true ∧ PySem.W.notFirst K (FL [C0,C1,C2,C3,C4,C5] e.1.1) (.ref (FL [C0,C1,C2,C3,C4,C5] e.1.2)) = true) nemL:=trivial
   exact A.mem (a:=((c,c'),f)) (zZM hf)
  ·have A : AllP (fun e : (Nat × Nat) × Nat=>PySem.W.findIn K (.ref (FL [C0,C1,C2,C3,C4,C5] e.1.1)) "__eq__" = some (some (.ref (FL [a0,a1,a4,a6,a7,a8,a9,a11,a13,a14,a15,a17,a18,a19,a20,a21,a22,a23,a24,a25,a26,a27,a28,a29,a30,a31,a32,a33,a34,a35,a36,a37,a38,fa] e.2))) ∧ PySem.W.isFn K (.ref (FL [a0,a1,a4,a6,a7,a8,a9,a11,a13,a14,a15,a17,a18,a19,a20,a21,a22,a23,a24,a25,a26,a27,a28,a29,a30,a31,a32,a33,a34,a35,a36,a37,a38,fa] e.2)) = true ∧ PySem.W.notFirst K (FL [C0,C1,C2,C3,C4,C5] e.1.1) (.ref (FL [C0,C1,C2,C3,C4,C5] e.1.2)) = true) eqmL:=trivial
   exact A.mem (a:=((c,c'),f)) (zZM hf)
  ·have A : AllP (fun e : (Nat × Nat) × Bool=>PySem.W.exmOne K (.ref (FL [C0,C1,C2,C3,C4,C5] e.1.1)) (.ref (FL [C0,C1,C2,C3,C4,C5] e.1.2)) = some e.2) xmL:=trivial
   exact A.mem (a:=((k,c),b)) (zZM hb)
  ·have A : AllP (fun e : (Nat × Nat) × Bool=>L2.ExcC K (FL [C0,C1,C2,C3,C4,C5] e.1.1) ∧ PySem.W.kitOne K (.ref (FL [C0,C1,C2,C3,C4,C5] e.1.1)) (.ref (FL [C0,C1,C2,C3,C4,C5] e.1.2)) = some e.2) xisTL:=trivial
   exact A.mem (a:=((k,c),b)) (zZM hb)
  ·have A : AllP (fun e : Nat × Str=>mg e.2 = some (.ref (FL [C0,C1,C2,C3,C4,C5] e.1))) xnmL:=trivial
   exact A.mem (a:=(c,x)) (zZM hx)
  ·have A : AllP (fun e : Nat × Str=>RaiAt K mg (FL [C0,C1,C2,C3,C4,C5] e.1) e.2) rnmL:=trivial
   exact A.mem (a:=(c,x)) (zZM hx)
  ·have A : AllP (fun e : Nat × Str => ∀ (w : World) (base : Heap),RaeAt (Bt K [C0,C1,C2,C3,C4,C5]) l.prog w K mg base e.1 e.2) enmL:=trivial
   exact A.mem (a:=(c,x)) (zZM hx) w base
  ·have A : AllP (fun e : Nat × Str=>mg e.2 = some (.ref (FL [a0,a1,a4,a6,a7,a8,a9,a11,a13,a14,a15,a17,a18,a19,a20,a21,a22,a23,a24,a25,a26,a27,a28,a29,a30,a31,a32,a33,a34,a35,a36,a37,a38,fa] e.1)) ∧ ∃ F,fnL[e.1]? = some F ∧ DefAtH Z K F (FL [a0,a1,a4,a6,a7,a8,a9,a11,a13,a14,a15,a17,a18,a19,a20,a21,a22,a23,a24,a25,a26,a27,a28,a29,a30,a31,a32,a33,a34,a35,a36,a37,a38,fa] e.1)) hnmL:=trivial
   exact A.mem (a:=(f,x)) (zZM hf)
  ·have A : AllP (fun e : Nat × Nat=>(Bt K [C0,C1,C2,C3,C4,C5]).xf e.1 = e.2 ∧ XfC K (FL [C0,C1,C2,C3,C4,C5] e.1) ∧ PySem.W.findIn K (.ref (FL [C0,C1,C2,C3,C4,C5] e.1)) (anm e.2) = some none) xfL:=trivial
   exact A.mem (a:=(k,f)) (zZM hf)
  ·have A : AllP (fun e : Nat × Bool=>L2.ExcC K (FL [C0,C1,C2,C3,C4,C5] e.1) ∧ PySem.W.kitOne K (.ref (FL [C0,C1,C2,C3,C4,C5] e.1)) (.type "ValueError") = some e.2) xivL:=trivial
   exact A.mem (a:=(k,b)) (zZM hb)
 exact ⟨_,fun s v=>.of_eq rfl,fun base _ _=>zZOV (fa:=FL [a0,a1,a4,a6,a7,a8,a9,a11,a13,a14,a15,a17,a18,a19,a20,a21,a22,a23,a24,a25,a26,a27,a28,a29,a30,a31,a32,a33,a34,a35,a36,a37,a38,fa]) (ia:=FL [a2,a3,a16,a5,a10,a12]) (f:=zZJg) S 39 rfl F39 zZKi rfl rfl zZKj rfl rfl hx⟩
theorem walk {l : PySem.W.OpenLaw} {q : Program} {loose : List Str} {XP : (Str → Option Value) → Heap → Prop} {YP : World → Heap → Prop} {d : DefRec} {K : Params → PySem.W.Frag} (hn : l.most = some 63) (hdf : d.params.defaults = [])
  (hY : ∀ (w : World) (h : Heap),YP w h → (K w.params).In h)
  (F : ∀ (w : World) (mg : Str → Option Value) (fa : Addr) (h : Heap),(K w.params).In h → h.Ns mainGlobals mg → mg d.name = some (.ref fa) →
   ∃ fd : FuncData,(∀ (s : Shared) (u : Value),BindsTo s fd ⟨[u],[]⟩ [("_law_script",u)]) ∧ ∀ base : Heap,(K w.params).In base → base.Ns mainGlobals mg → FnOk l.prog w (K w.params) mg base CX0 80 fa fd ["_law_script"] (spLaw (K w.params) 63)) :
  PySem.W.WalkO q loose XP YP l.row.toRowW d [] (fun f vs=>PySem.call f vs) :=
 L2.walk_of (n:=63) (k:=80) (x := "_law_script") (CX:=fun _=>CX0) (sp:=fun w=>spLaw (K w.params) 63) hn (by decide) hdf ⟨rfl,by decide,by decide⟩ hY F (fun _ _ a ns hl hO hS=>⟨a,ns,rfl,hS,hl,hO,fun _=>rfl⟩) fun _ _ _ _ _ z=>z
end Gen
namespace PL
open DL Gen
open PySem (Str PyData)
local macro_rules | `(tactic| walk_at "ev0") => `(tactic| simp -implicitDefEqProofs (disch:=first | assumption | omega | (simp only [List.length_cons,List.length_nil,List.length_append,List.length_map]; done) | (simp only [List.length_cons,List.length_nil,List.length_append,List.length_map,limI,cap]; omega) | decide) only [zZBa,zZCV,zZBe,zZF4,v_bl,zZFJ,zZFp,zZFC,zZE1,v_in,zZCG,v_eq,v_ne,v_lt,v_le,v_gt,v_ge,v_is,zZB9,
 zZFN,zZCP,zZGR,v_or,zZDs,zZGC,zZDm,zZE5,zZGF,zZFm,zZFj,v_sl,zZFl,zZCI,zZFf,zZDP,zZDX,zZDr,zZDH,zZC9,zZFb,zZCE,zZFQ,zZE9,zZFW,zZF2,zZBc,zZCB,zZBu,zZDC,zZCA,zZBB,zZAo,zZFa,zZGS,E.isVar,zZCW,zZAr,zZB5,zZDV,zZCK,zZAz,zZDJ,
 v_of,zZEy,zZDn,zZCy,zZGE,zZDA,zZCl,zZCc,zZBz,zZB0,zZD5,zZFZ,zZB8,zZDh,zZAk,zZCN,zZFG,zZD2,zZF5,zZF7,zZCi,zZGK,zZBr,zZDj,zZAn,zZBC,zZBD,zZBd,zZCg,zZGT,zZAs,zZAE,zZCx,zZAD,xZh,zZDE,zZCz,zZDZ,zZDq,zZC4,zZC3,zZDv,zZC5,xZl,zZE7,zZAV,zZDY,zZDO,
 zZBl,zZBK,yZ4,xZW,zZFy,zZDK,zZCF,zZCJ,zZA8,zZFU,zZF3,zZEu,zZDy,zZE4,zZFL,c_lt,c_le,c_gt,c_ge,zZGD,zZGP,zZFh,zZFz,zZFH,zZFk,zZFE,zZEx,t_bl,zZFT,zZFn,zZEw,zZF0,zZFd,zZFi,zZFS,zZFc,yZS,zZAH,zZF6,zZDD,zZGH,zZFq,k_bl,
 zZD1,zZAy,zZAU,xZF,zZB3,zZBY,zZBs,zZn,Option.bind_some,Option.map_some,List.getElem?_cons_zero,List.getElem?_cons_succ,List.set_cons_zero,List.set_cons_succ,List.map_cons,List.map_nil,List.length_cons,List.length_nil,List.cons_append,List.nil_append,List.replicate,
 decide_eq_true_eq,Int.reduceSub,Int.reduceAdd,Int.reduceNeg,Int.reduceLT,Int.reduceLE,Int.reduceEq,Nat.reduceAdd,Nat.reduceSub,List.getElem?_set,List.length_set,List.length_map,List.set_set,eq_self,Bool.false_eq_true,Int.reduceToNat,Int.toNat_natCast,Int.reducePow,Option.map_some,tyD,decide_true,decide_false,if_true,if_false,Bool.not_true,Bool.not_false,zZB6,zZCO,zZDb,zZAl,zZDF,zZBZ,zZCj,xZ8,xZY,zZCL,zZBx,zZGB,zZB2,zZCT,zZAh,zZAY,zZCS,zZAF,zZDN,zZDg,zZBj,zZAd,zZCR,xZz,zZBq,Option.isNone_none,Option.isNone_some,Nat.reduceEqDiff,Nat.reduceLT,zZBi,xZL,zZAT,zZBt,xZ6,xZ9,zZBo,zZB1,zZGQ,zZCd,zZBb,xZ4,R.calm_ok,zZDR,zZFI,zZDo,zZAS,zZFe,zZC6,zZDd,zZAB,xZ0,zZGO,zZBw,zZB4,zZCh,zZDT,zZCX,zZBk,zZCZ,zZBn,yZq,zZA3,zZF1,zZFu,zZDS,zZDa,zZAG,zZAC,zZDk,zZE0,zZFB,zZCU,zZB7,zZCQ,zZCe,zZBg,zZC1,zZD3,zZA2,zZBH,zZBE,zZAA,zZAw,zZAg,zZCD,zZC2,dk_v,dk_n,zZCb,zZA4,xZ5,zZE6,zZD0,zZDU,zZDi,zZCw,zZCC,zZBA,zZDI,zZBy,zZFD,zZBv,zZCM,zZCk,zZAj,zZBL,zZBI,zZAu,zZAp,zZAm,zZA5,zZAi,zZAb,zZA7,zZAc,zZA9,zZAv,zZA1,zZAW,zZAZ,zZBJ,zZAx,zZBF,zZBG,zZAf,zZGU,zZFY,zZFw,zZF9,zZGN,zZE8, *])
def poolC (ns : List Int) (i a s k : Int) (b : D) : Cell:=.lst [.lst (ns.map D.int),.int i,.int a,.int s,.int k,b]
theorem zZV {W : Wd} {p : Nat} {c : Cell} (h : W[p]? = some c) : p < W.length:=(List.getElem?_eq_some_iff.mp h).1
theorem zZHv (n : Nat) (W : Wd) (p : Nat) (z : Int) (ns : List Int) (i a s k : Int) (b : D) (h : W[p]? = some (poolC ns i a s k b)) (h0 : 0 ≤ i) (h1 : 0 < z) (h2 : z < 1073741824) :
  ∃ v i' a' s' k',(cfgN T (n + 1)).call zZA [.own p,.int z] W = .ok (.int v) (W.set p (poolC ns i' a' s' k' b)) ∧ 0 ≤ v ∧ v < z ∧ 0 ≤ i':=by
 rw [zZE (F:=xZv) rfl]
 have hp:=zZV h
 unfold poolC at h ⊢
 simp only [xZv,zZBX]
 have hz : 0 < z ∧ z < 1073741824:=⟨h1,h2⟩
 have fin : ∀ (x : Int) (i' a' s' k' : Int),0 ≤ i' → ∃ v j a2 s2 k2,(R.ok (D.int (x % z)) (W.set p (poolC ns i' a' s' k' b)) : R D) = .ok (.int v) (W.set p (poolC ns j a2 s2 k2 b)) ∧ 0 ≤ v ∧ v < z ∧ 0 ≤ j :=
  fun x i' a' s' k' hi=>⟨_,i',a',s',k',rfl,Int.emod_nonneg _ (by omega),Int.emod_lt_of_pos _ h1,hi⟩
 by_cases ca : a ≤ 0
 ·have na : ¬ 0 < a:=by omega
  by_cases ck : k ≤ 0
  ·by_cases ci : i < (ns.length : Int)
   ·by_cases cb : 1000000000000000000 ≤ ns.getD i.toNat 0
    ·have pb : 0 < ns.getD i.toNat 0:=by omega
     walk_at "ev0"
     exact fin _ _ _ _ _ (by omega)
    ·walk_at "ev0"
     exact fin _ _ _ _ _ (by omega)
   ·walk_at "ev0"
    exact fin _ _ _ _ _ (by omega)
  ·walk_at "ev0"
   exact fin _ _ _ _ _ (by omega)
 ·have na : 0 < a:=by omega
  walk_at "ev0"
  exact fin _ _ _ _ _ (by omega)
def whC : S → E
 | .seq (.whil _ c _) _=>c
 | .seq _ b=>whC b
 | _=>.non
def whB : S → S
 | .seq (.whil _ _ b) _=>b
 | .seq _ b=>whB b
 | _=>.skip
theorem zZAQ (m : Int) : ∀ (q : Nat) (x : Int),(x % m) ^ q % m = x ^ q % m
 | 0,x=>by simp
 | q + 1,x=>by
  rw [Int.pow_succ,Int.pow_succ,Int.mul_emod,zZAQ m q x,Int.emod_emod_of_dvd _ (Int.dvd_refl m),← Int.mul_emod]
theorem zZEP (m r x : Int) (q : Nat) : (r * (x % m) ^ q) % m = (r * x ^ q) % m:=by
 rw [Int.mul_emod,zZAQ,← Int.mul_emod]
theorem zZIB (b : Int) : ∀ q : Nat,(b * b) ^ q = b ^ (2 * q)
 | 0=>by simp
 | q + 1=>by
  rw [Int.pow_succ,zZIB b q,show 2 * (q + 1) = 2 * q + 1 + 1 by omega,Int.pow_succ,Int.pow_succ,Int.mul_assoc]
theorem zZMP {m r b e : Int} (h0 : 0 < e) (h : e % 2 = 1) : (r * b % m * (b * b % m) ^ (e / 2).toNat) % m = (r * b ^ e.toNat) % m:=by
 rw [zZEP,zZIB,Int.mul_emod,Int.emod_emod_of_dvd _ (Int.dvd_refl m),← Int.mul_emod,show e.toNat = 2 * (e / 2).toNat + 1 by omega,Int.pow_succ]
 congr 1
 rw [Int.mul_assoc,Int.mul_comm b]
theorem zZK2 {m r b e : Int} (h0 : 0 < e) (h : ¬ e % 2 = 1) : (r * (b * b % m) ^ (e / 2).toNat) % m = (r * b ^ e.toNat) % m:=by
 rw [zZEP,zZIB,show e.toNat = 2 * (e / 2).toNat by omega]
theorem zZMK (n : Nat) (m : Int) (W : Wd) (hm : 0 < m) (hm2 : m < 1073741824) : ∀ (k : Nat) (e b r : Int) (fuel : Nat),0 ≤ e → e.toNat ≤ k → k < fuel → 0 ≤ r → r < m → 0 ≤ b → b < m →
  ∃ b',whileL (evE (cfgN T n) (whC xZk)) (exS (cfgN T n) (whB xZk)) fuel [.val (.int b),.val (.int e),.val (.int m),.val (.int r)] W = .ok (.nx [.val (.int b'),.val (.int 0),.val (.int m),.val (.int (r * b ^ e.toNat % m))]) W:=by
 simp only [xZk,whC,whB]
 intro k
 induction k with
 | zero =>
  intro e b r fuel h1 h2 h3 r0 r1 b0 b1
  obtain ⟨f,rfl⟩ : ∃ f,fuel = f + 1:=⟨fuel - 1,by omega⟩
  obtain rfl : e = 0:=by omega
  rw [yZu]
  walk_at "ev0"
  refine ⟨b, ?_⟩
  simp [Int.emod_eq_of_lt r0 r1]
 | succ k ih =>
  intro e b r fuel h1 h2 h3 r0 r1 b0 b1
  obtain ⟨f,rfl⟩ : ∃ f,fuel = f + 1:=⟨fuel - 1,by omega⟩
  rw [yZu]
  by_cases he : 0 < e
  ·have q1 : 0 ≤ b * b % m:=Int.emod_nonneg _ (by omega)
   have q2 : b * b % m < m:=Int.emod_lt_of_pos _ hm
   have q3 : 0 ≤ r * b % m:=Int.emod_nonneg _ (by omega)
   have q4 : r * b % m < m:=Int.emod_lt_of_pos _ hm
   have g1 : r.natAbs < limI ∨ b.natAbs < limI:=by unfold limI; omega
   have g2 : b.natAbs < limI ∨ b.natAbs < limI:=by unfold limI; omega
   by_cases ho : e % 2 = 1
   ·obtain ⟨b',hb⟩:=ih (e / 2) (b * b % m) (r * b % m) f (by omega) (by omega) (by omega) q3 q4 q1 q2
    rw [zZMP he ho] at hb
    refine ⟨b', ?_⟩
    clear ih
    walk_at "ev0"
   ·obtain ⟨b',hb⟩:=ih (e / 2) (b * b % m) r f (by omega) (by omega) (by omega) r0 r1 q1 q2
    rw [zZK2 he ho] at hb
    refine ⟨b', ?_⟩
    clear ih
    walk_at "ev0"
  ·obtain rfl : e = 0:=by omega
   clear ih
   walk_at "ev0"
   refine ⟨b, ?_⟩
   simp [Int.emod_eq_of_lt r0 r1]
theorem zZKq (n : Nat) (b e m : Int) (W : Wd) (hm : 0 < m) (hm2 : m < 1073741824) (he : 0 ≤ e) (he2 : e < 1000000000) : (cfgN T (n + 1)).call zZI6 [.int b,.int e,.int m] W = .ok (.int (b ^ e.toNat % m)) W:=by
 rw [zZE (F:=zZEA) rfl]
 obtain ⟨b',h⟩:=zZMK n m W hm hm2 e.toNat e (b % m) (1 % m) 1000000007 he (Nat.le_refl _) (by omega) (Int.emod_nonneg _ (by omega)) (Int.emod_lt_of_pos _ hm) (Int.emod_nonneg _ (by omega)) (Int.emod_lt_of_pos _ hm)
 simp only [xZk,whC,whB] at h
 have e2 : 1 % m * (b % m) ^ e.toNat % m = b ^ e.toNat % m:=by
  rw [Int.mul_emod,Int.emod_emod_of_dvd _ (Int.dvd_refl m),← Int.mul_emod,Int.one_mul,zZAQ]
 rw [e2] at h
 simp only [zZEA,xZk]
 walk_at "ev0"
def tri (n : Int) : Int → Nat → Bool
 | _,0=>true
 | d,f + 1=>if d * d ≤ n then (if n % d = 0 then false else tri n (d + 1) f) else tri n (d + 1) f
theorem zZPD (d : Int) (h : 0 ≤ d) : d * d < (d + 1) * (d + 1):=by
 rw [Int.add_mul,Int.mul_add]
 omega
theorem zZJD (n : Int) : ∀ (f : Nat) (d : Int),0 ≤ d → n < d * d → tri n d f = true
 | 0,_,_,_=>rfl
 | f + 1,d,h0,h=>by
  unfold tri
  rw [if_neg (by omega)]
  exact zZJD n f (d + 1) (by omega) (Int.lt_trans h (zZPD d h0))
theorem zZJi (n : Nat) (x : Int) (W : Wd) : ∀ (f : Nat) (d : Int) (fuel : Nat),2 ≤ d → d + f < 1000000 → x < (d + f) * (d + f) → f < fuel → ∃ d',
  whileL (evE (cfgN T n) (whC yZf)) (exS (cfgN T n) (whB yZf)) fuel [.val (.int x),.val (.int d)] W = if tri x d f then .ok (.nx [.val (.int x),.val (.int d')]) W else .ok (.rt (.bl false)) W:=by
 simp only [yZf,whC,whB]
 intro f
 induction f with
 | zero =>
  intro d fuel h1 h2 h4 h5
  obtain ⟨k,rfl⟩ : ∃ k,fuel = k + 1:=⟨fuel - 1,by omega⟩
  have hn : ¬ d * d ≤ x:=by simp at h4; omega
  have g1 : d.natAbs < limI ∨ d.natAbs < limI:=by unfold limI; omega
  rw [yZu]
  refine ⟨d, ?_⟩
  walk_at "ev0"
  simp [tri]
 | succ f ih =>
  intro d fuel h1 h2 h4 h5
  obtain ⟨k,rfl⟩ : ∃ k,fuel = k + 1:=⟨fuel - 1,by omega⟩
  have g1 : d.natAbs < limI ∨ d.natAbs < limI:=by unfold limI; omega
  by_cases hn : d * d ≤ x
  ·by_cases hm : x % d = 0
   ·refine ⟨d, ?_⟩
    rw [yZu]
    clear ih
    have ht : tri x d (f + 1) = false:=by unfold tri; rw [if_pos hn,if_pos hm]
    walk_at "ev0"
   ·have e1 : d + ((f + 1 : Nat) : Int) = d + 1 + (f : Int):=by omega
    rw [e1] at h4
    obtain ⟨d',h⟩:=ih (d + 1) k (by omega) (by omega) h4 (by omega)
    refine ⟨d', ?_⟩
    rw [yZu]
    clear ih
    have ht : tri x d (f + 1) = tri x (d + 1) f:=by rw [tri,if_pos hn,if_neg hm]
    walk_at "ev0"
  ·refine ⟨d, ?_⟩
   rw [yZu]
   clear ih
   have ht : tri x d (f + 1) = true:=zZJD x _ d (by omega) (by omega)
   walk_at "ev0"
theorem zZES (n : Nat) (x : Int) (W : Wd) (h : x < 1002001) : (cfgN T (n + 1)).call zZCn [.int x] W = .ok (.bl (if x < 2 then false else tri x 2 999)) W:=by
 rw [zZE (F:=zZAP) rfl]
 obtain ⟨d',hl⟩:=zZJi n x W 999 2 1000000007 (by omega) (by omega) (by omega) (by omega)
 simp only [yZf,whC,whB] at hl
 simp only [zZAP,yZf]
 by_cases hx : x < 2
 ·walk_at "ev0"
 ·cases ht : tri x 2 999 <;> walk_at "ev0"
def foB : S → S
 | .seq (.forS _ _ b) _=>b
 | .seq _ b=>foB b
 | _=>.skip
def Pool (W : Wd) (p : Nat) : Prop := ∃ ns i a s k b,W[p]? = some (poolC ns i a s k b) ∧ 0 ≤ i
theorem zZBm (n : Nat) (W : Wd) (p : Nat) (z : Int) (h : Pool W p) (h1 : 0 < z) (h2 : z < 1073741824) : ∃ v W',(cfgN T (n + 1)).call zZA [.own p,.int z] W = .ok (.int v) W' ∧ 0 ≤ v ∧ v < z ∧ Pool W' p:=by
 obtain ⟨ns,i,a,s,k,b,h,h0⟩:=h
 obtain ⟨v,i',a',s',k',e,q1,q2,q3⟩:=zZHv n W p z ns i a s k b h h0 h1 h2
 exact ⟨v,_,e,q1,q2,ns,i',a',s',k',b,by rw [List.getElem?_set_self (zZV h)],q3⟩
theorem zZLa (n : Nat) (ns : List Int) (W : Wd) : (cfgN T (n + 1)).call zZEQ [.ext ns,.int 0] W = .ok (.own W.length) (W ++ [poolC ns 0 0 1 0 (.int 0)]):=by
 rw [zZE (F:=xZw) rfl]
 unfold poolC
 simp only [xZw,zZBV]
 have e1 : evF (cfgN T n) (.scr 0) [Slot.val (D.ext ns),Slot.val (D.int 0)] W = .ok (ns.map D.int) W:=zZPH rfl
 walk_at "ev0"
 rfl
def plainD : Nat → D → Bool
 | _,.non=>true
 | _,.bl _=>true
 | _,.int _=>true
 | _,.str _=>true
 | n + 1,.tup xs=>decide (xs.length ≤ cap) && xs.all (plainD n)
 | n + 1,.lst xs=>decide (xs.length ≤ cap) && xs.all (plainD n)
 | _,_=>false
def foS : S → S
 | .seq (.forS _ _ b) _=>b
 | .seq (.ite _ a _) _=>foS a
 | .seq _ b=>foS b
 | _=>.skip
def foS2 : S → S
 | .seq _ (.seq _ (.seq (.forS _ _ b) _))=>b
 | .seq (.ite _ a _) _=>foS2 a
 | _=>.skip
theorem xZ2 (n : Nat) (d : D) (W : Wd) (h : plainD 0 d = true) : (cfgN T (n + 1)).call zZb [d,d] W = .ok (.bl true) W:=by
 rw [zZE (F:=yZE) rfl]
 simp only [yZE,zZZ]
 cases d with
 | non=>walk_at "ev0"
 | bl b=>walk_at "ev0"
 | int i=>walk_at "ev0"
 | str s=>walk_at "ev0"
 | _=>cases h
theorem zZKW (n : Nat) (d : D) (xs : List D) (W : Wd) (hd : d = .tup xs ∨ d = .lst xs) (ih : ∀ x ∈ xs,(cfgN T (n + 1)).call zZb [x,x] W = .ok (.bl true) W) :
  ∀ (k i : Nat) (z : Slot),i + k = xs.length → ∃ z',forL (tgD (.nm 2)) (exS (cfgN T (n + 1)) (foS2 zZZ)) (rangeD (i : Int) k) [.val d,.val d,z] W = .ok (.nx [.val d,.val d,z']) W:=by
 intro k
 induction k with
 | zero=>intro i z h; exact ⟨z,rfl⟩
 | succ k ihk =>
  intro i z h
  obtain ⟨z',hz⟩:=ihk (i + 1) (.val (.int i)) (by omega)
  have hi : i < xs.length:=by omega
  have hx : xs[i]? = some xs[i]:=List.getElem?_eq_getElem hi
  have ha:=zZG hx
  have hs:=ih xs[i] (List.getElem_mem hi)
  generalize xs[i] = x at *
  clear ih ihk
  refine ⟨z', ?_⟩
  rw [range_succ,zZD]
  have e1 : ((i : Int) + 1) = ((i + 1 : Nat) : Int):=by omega
  rw [e1]
  simp only [zZZ,foS2,foS] at hz ⊢
  rcases hd with rfl | rfl
  ·walk_at "ev0"
  ·walk_at "ev0"
theorem zZIb (m : Nat) (d : D) (xs : List D) (W : Wd) (hd : d = .tup xs ∨ d = .lst xs) (hc : xs.length ≤ cap) (ih : ∀ x ∈ xs,(cfgN T (m + 1)).call zZb [x,x] W = .ok (.bl true) W) :
  (cfgN T (m + 1 + 1)).call zZb [d,d] W = .ok (.bl true) W:=by
 obtain ⟨z',hz⟩:=zZKW m d xs W hd ih xs.length 0 .no (by omega)
 have h1:=zZGw hc
 clear hc
 have e0 : ((0 : Nat) : Int) = 0:=rfl
 rw [e0] at hz
 clear ih
 rw [zZE (F:=yZE) rfl]
 simp only [zZZ,foS2,foS] at hz
 simp only [yZE,zZZ]
 rcases hd with rfl | rfl
 ·walk_at "ev0"
 ·walk_at "ev0"
theorem zZG3 (W : Wd) (k : Nat) : ∀ (n : Nat) (d : D),plainD k d = true → k ≤ n → (cfgN T (n + 1)).call zZb [d,d] W = .ok (.bl true) W:=by
 induction k with
 | zero=>exact fun n d h _=>xZ2 n d W h
 | succ k ih =>
  intro n d h hn
  cases n with
  | zero=>omega
  | succ m =>
   have hm : k ≤ m:=by omega
   cases d with
   | tup xs =>
    simp only [plainD,Bool.and_eq_true,decide_eq_true_eq] at h
    exact zZIb m _ xs W (.inl rfl) h.1 fun x hx=>ih m x (List.all_eq_true.mp h.2 x hx) hm
   | lst xs =>
    simp only [plainD,Bool.and_eq_true,decide_eq_true_eq] at h
    exact zZIb m _ xs W (.inr rfl) h.1 fun x hx=>ih m x (List.all_eq_true.mp h.2 x hx) hm
   | non=>exact xZ2 _ _ W rfl
   | bl b=>exact xZ2 _ _ W rfl
   | int i=>exact xZ2 _ _ W rfl
   | str i=>exact xZ2 _ _ W rfl
   | _=>simp [plainD] at h
theorem zZLA (n : Nat) (b e m : Int) (W : Wd) (hm : 0 < m) (hm2 : m < 1073741824) : ∀ (k : Nat) (i r : Int) (z : Slot),0 ≤ r → r < m → ∃ z',
  forL (tgD (.nm 4)) (exS (cfgN T n) (foB yZU)) (rangeD i k) [.val (.int b),.val (.int e),.val (.int m),.val (.int r),z] W = .ok (.nx [.val (.int b),.val (.int e),.val (.int m),.val (.int (r * b ^ k % m)),z']) W:=by
 simp only [yZU,foB]
 intro k
 induction k with
 | zero=>intro i r z h0 h1; exact ⟨z,by simp [range_zero,xZl,Int.emod_eq_of_lt h0 h1]⟩
 | succ k ih =>
  intro i r z h0 h1
  obtain ⟨z',h⟩:=ih (i + 1) (r * b % m) (.val (.int i)) (Int.emod_nonneg _ (by omega)) (Int.emod_lt_of_pos _ hm)
  refine ⟨z', ?_⟩
  have e1 : r * b % m * b ^ k % m = r * b ^ (k + 1) % m:=by
   rw [Int.mul_emod,Int.emod_emod_of_dvd _ (Int.dvd_refl m),← Int.mul_emod,Int.pow_succ,Int.mul_assoc,Int.mul_comm b]
  rw [e1] at h
  have g1 : r.natAbs < limI ∨ b.natAbs < limI:=by unfold limI; omega
  clear ih
  rw [range_succ,zZD]
  walk_at "ev0"
theorem zZAM (n : Nat) (b e m : Int) (W : Wd) (hm : 1 < m) (hm2 : m < 1073741824) (he : 0 ≤ e) (he2 : e < 1000000000) : (cfgN T (n + 1)).call yZn [.int b,.int e,.int m] W = .ok (.int (b ^ e.toNat % m)) W:=by
 rw [zZE (F:=xZN) rfl]
 obtain ⟨z',h⟩:=zZLA n b e m W (by omega) hm2 e.toNat 0 1 .no (by omega) hm
 rw [Int.one_mul] at h
 have g : -4611686018427387904 ≤ e ∧ e < 4611686018427387904:=by omega
 simp only [yZU,foB] at h
 simp only [xZN,yZU]
 walk_at "ev0"
def pairD (x : Int × Int) : D:=.tup [.int x.1,.int x.2]
def foldP (p q : Int) : List (Int × Int) → Int → Int
 | [],r=>r
 | x :: xs,r=>foldP p q xs (r * (x.1 ^ (x.2 % q).toNat % p) % p)
/-- the file's own group,the program's -/
def gT (p q : Int) (bs : List Int) : D:=.tup [.int p,.int q,.lst (bs.map .int)]
def gI (p q : Int) (bs : List Int) : D:=.ins 0 [(2,.int p),(3,.int q),(4,.tup (bs.map .int))]
structure GrOk (p q : Int) : Prop where
 p1 : 1 < p
 p2 : p < 1000000
 q1 : 1 < q
 q2 : q < 1000000
theorem zZIj (n : Nat) (p q x e : Int) (bs : List Int) (W : Wd) (G : GrOk p q) : (cfgN T (n + 2)).call zZCv [gT p q bs,.int x,.int e] W = .ok (.int (x ^ (e % q).toNat % p)) W:=by
 obtain ⟨p1,p2,q1,q2⟩:=G
 have h1 : 0 ≤ e % q:=Int.emod_nonneg _ (by omega)
 have h2 : e % q < q:=Int.emod_lt_of_pos _ (by omega)
 have h:=zZAM n x (e % q) p W p1 (by omega) h1 (by omega)
 have hq : 0 < q:=by omega
 rw [zZE (F:=yZ8) rfl]
 simp only [yZ8,zZAI,gT]
 walk_at "ev0"
theorem zZEM (p q : Int) (hp : 0 < p) : ∀ (xs : List (Int × Int)) (r : Int),0 ≤ r → r < p → 0 ≤ foldP p q xs r ∧ foldP p q xs r < p
 | [],r,h0,h1=>⟨h0,h1⟩
 | x :: xs,r,h0,h1=>zZEM p q hp xs _ (Int.emod_nonneg _ (by omega)) (Int.emod_lt_of_pos _ hp)
theorem zZJV (n : Nat) (p q : Int) (bs : List Int) (W : Wd) (G : GrOk p q) (d : D) : ∀ (xs : List (Int × Int)) (r : Int) (z3 z4 : Slot),0 ≤ r → r < p → ∃ z3' z4',
  forL (tgD (.tup (.cons (.nm 3) (.cons (.nm 4) .nil)))) (exS (cfgN T (n + 2)) (foB yZH)) (xs.map pairD) [.val (gT p q bs),.val d,.val (.int r),z3,z4] W = .ok (.nx [.val (gT p q bs),.val d,.val (.int (foldP p q xs r)),z3',z4']) W:=by
 simp only [yZH,foB]
 intro xs
 induction xs with
 | nil=>intro r z3 z4 h0 h1; exact ⟨z3,z4,rfl⟩
 | cons x xs ih =>
  intro r z3 z4 h0 h1
  have p1:=G.p1
  have p2:=G.p2
  have y0 : 0 ≤ x.1 ^ (x.2 % q).toNat % p:=Int.emod_nonneg _ (by omega)
  have y1 : x.1 ^ (x.2 % q).toNat % p < p:=Int.emod_lt_of_pos _ (by omega)
  obtain ⟨z3',z4',h⟩:=ih (r * (x.1 ^ (x.2 % q).toNat % p) % p) (.val (.int x.1)) (.val (.int x.2)) (Int.emod_nonneg _ (by omega)) (Int.emod_lt_of_pos _ (by omega))
  have hr:=zZIj n p q x.1 x.2 bs W G
  refine ⟨z3',z4', ?_⟩
  have hf : foldP p q (x :: xs) r = foldP p q xs (r * (x.1 ^ (x.2 % q).toNat % p) % p):=rfl
  rw [hf]
  generalize x.1 ^ (x.2 % q).toNat % p = y at *
  have g1 : r.natAbs < limI ∨ y.natAbs < limI:=by unfold limI; omega
  have hp : 0 < p:=by omega
  clear ih hf
  rw [List.map_cons,zZD,pairD]
  simp only [gT] at *
  walk_at "ev0"
theorem zZKV (n : Nat) (p q : Int) (bs : List Int) (W : Wd) (G : GrOk p q) (xs : List (Int × Int)) : (cfgN T (n + 3)).call zZCa [gT p q bs,.lst (xs.map pairD)] W = .ok (.int (foldP p q xs 1)) W:=by
 obtain ⟨z3,z4,h⟩:=zZJV n p q bs W G (.lst (xs.map pairD)) xs 1 .no .no (by omega) G.p1
 rw [zZE (F:=yZz) rfl]
 simp only [yZH,foB] at h
 simp only [yZz,yZH]
 generalize xs.map pairD = ys at *
 walk_at "ev0"
def NPAIRS : List (Nat × Nat):=[(23,11),(47,23),(59,29),(103,17),(83,41),(137,17),(29,7),(607,101),(11,5),(53,13)]
def PAIRS : List (Int × Int):=NPAIRS.map fun x=>((x.1 : Int),(x.2 : Int))
def rootF (p q : Int) : List Int → Int → Int
 | [],r=>r
 | n :: ns,r=>rootF p q ns (if r = 1 then n ^ ((p - 1) / q).toNat % p else r)
def nodB : List Nat → Bool
 | []=>true
 | x :: xs => !xs.contains x && nodB xs
theorem zZJC : ∀ {xs : List Nat},nodB xs = true → xs.Nodup
 | [],_=>List.nodup_nil
 | x :: xs,h=>by
  simp only [nodB,Bool.and_eq_true,Bool.not_eq_true',List.contains_eq_mem,decide_eq_false_iff_not] at h
  exact List.nodup_cons.mpr ⟨h.1,zZJC h.2⟩
def two39 : List Int:=(List.range 38).map fun k : Nat=>(2 + (k : Int) : Int)
def rootN (p q : Nat) : Nat:=(rootF p q two39 1).toNat
/-- what the kernel looks at,pair by pair -/
def grpB (p q : Nat) : Bool :=
 decide (rootF p q two39 1 = (rootN p q : Int)) && (decide (1 < rootN p q) && (decide (rootN p q < p) && ((rootN p q ^ q % p == 1) && ((List.range (q - 1)).all (fun e=>decide (1 < rootN p q ^ (e + 1) % p)) && (nodB ((List.range (q - 1)).map fun e=>rootN p q ^ (e + 1) % p)
  && (((p - 1) % q == 0) && (tri p 2 999 && (tri q 2 999 && ((List.range (q - 1)).all (fun e=>((e + 1) ^ (q - 2) % q * (e + 1)) % q == 1) && (decide (2 < p) && (decide (p < 1000) && (decide (4 < q) && decide (q < 200)))))))))))))
theorem zZMw : NPAIRS.all (fun x=>grpB x.1 x.2) = true:=by decide +kernel
structure GrpN (p q : Nat) : Prop where
 h1 : rootF p q two39 1 = (rootN p q : Int)
 h2 : 1 < rootN p q
 h3 : rootN p q < p
 h4 : rootN p q ^ q % p = 1
 h5 : ∀ e < q - 1,1 < rootN p q ^ (e + 1) % p
 h6 : ((List.range (q - 1)).map fun e=>rootN p q ^ (e + 1) % p).Nodup
 h7 : (p - 1) % q = 0
 h8 : tri p 2 999 = true
 h9 : tri q 2 999 = true
 h10 : ∀ e < q - 1,((e + 1) ^ (q - 2) % q * (e + 1)) % q = 1
 h11 : 2 < p
 h12 : p < 1000
 h13 : 4 < q
 h14 : q < 200
theorem zZCY {p q : Int} (h : (p,q) ∈ PAIRS) : ∃ P Q : Nat,p = P ∧ q = Q ∧ GrpN P Q:=by
 obtain ⟨⟨P,Q⟩,h1,h2⟩:=List.mem_map.mp h
 have h3:=List.all_eq_true.mp zZMw _ h1
 simp only [Prod.mk.injEq] at h2
 refine ⟨P,Q,h2.1.symm,h2.2.symm, ?_⟩
 simp only [grpB,Bool.and_eq_true,decide_eq_true_eq,beq_iff_eq,List.all_eq_true,List.mem_range] at h3
 obtain ⟨a1,a2,a3,a4,a5,a6,a7,a8,a9,a10,a11,a12,a13,a14⟩:=h3
 exact ⟨a1,a2,a3,a4,a5,zZJC a6,a7,a8,a9,a10,a11,a12,a13,a14⟩
theorem zZMB : [D.tup [.int 23,.int 11],.tup [.int 47,.int 23],.tup [.int 59,.int 29],.tup [.int 103,.int 17],.tup [.int 83,.int 41],.tup [.int 137,.int 17],.tup [.int 29,.int 7],.tup [.int 607,.int 101],.tup [.int 11,.int 5],.tup [.int 53,.int 13]] = PAIRS.map pairD:=rfl
theorem zZKF {p a a' b b' : Int} (h1 : a % p = a' % p) (h2 : b % p = b' % p) : a * b % p = a' * b' % p:=by
 rw [Int.mul_emod,h1,h2,← Int.mul_emod]
theorem emm (a p : Int) : a % p % p = a % p:=Int.emod_emod_of_dvd _ (Int.dvd_refl p)
theorem mm1 (a b p : Int) : a % p * b % p = a * b % p:=zZKF (emm a p) rfl
theorem mm2 (a b p : Int) : a * (b % p) % p = a * b % p:=zZKF rfl (emm b p)
def pw (p q x e : Int) : Int:=x ^ (e % q).toNat % p
/-- an element -/
def El (p q x : Int) : Prop:=x ^ q.toNat % p = 1
theorem zZGm {p : Int} (h : 1 < p) : 1 % p = 1:=Int.emod_eq_of_lt (by omega) h
theorem zZKa {p q x : Int} (hp : 1 < p) (h : El p q x) (k : Nat) : x ^ (q.toNat * k) % p = 1:=by
 have h0 : x ^ q.toNat % p = 1:=h
 rw [Int.pow_mul,← zZAQ p k (x ^ q.toNat),h0,Int.one_pow,zZGm hp]
theorem zZNC {p q x : Int} (hp : 1 < p) (h : El p q x) (a : Nat) : x ^ a % p = x ^ (a % q.toNat) % p:=by
 conv=>lhs; rw [← Nat.div_add_mod a q.toNat]
 rw [Int.pow_add,Int.mul_emod,zZKa hp h,Int.one_mul,emm]
theorem zZK7 {e q : Int} (he : 0 ≤ e) (hq : 0 < q) : (e % q).toNat = e.toNat % q.toNat:=by
 obtain ⟨a,rfl⟩:=Int.eq_ofNat_of_zero_le he
 obtain ⟨b,rfl⟩:=Int.eq_ofNat_of_zero_le (Int.le_of_lt hq)
 have : ((a : Int) % (b : Int)) = ((a % b : Nat) : Int):=(Int.natCast_emod a b).symm
 rw [this]
 rfl
theorem zZO7 {p q x : Int} (hp : 1 < p) (hq : 0 < q) (h : El p q x) (a : Nat) : pw p q x (a : Int) = x ^ a % p:=by
 unfold pw
 rw [zZK7 (by omega) hq,zZNC hp h a]
 rfl
theorem zZOj (p q x e : Int) : pw p q x (e % q) = pw p q x e:=by
 unfold pw
 rw [emm]
theorem zZO9 {p q x e : Int} (hp : 0 < p) : pw p q x e < p:=Int.emod_lt_of_pos _ hp
theorem zZOh {e q : Int} (hq : 0 < q) : ∃ a : Nat,e % q = (a : Int):=Int.eq_ofNat_of_zero_le (Int.emod_nonneg _ (by omega))
theorem zZMi {p q x : Int} (hp : 1 < p) (hq : 0 < q) (h : El p q x) (a : Int) : El p q (pw p q x a):=by
 obtain ⟨m,hm⟩:=zZOh (e:=a) hq
 show (pw p q x a) ^ q.toNat % p = 1
 rw [← zZOj,hm,zZO7 hp hq h,zZAQ,← Int.pow_mul,Nat.mul_comm,zZKa hp h]
theorem zZOc {p q x y : Int} (hp : 1 < p) (h1 : El p q x) (h2 : El p q y) : El p q (x * y % p):=by
 have h1' : x ^ q.toNat % p = 1:=h1
 have h2' : y ^ q.toNat % p = 1:=h2
 show (x * y % p) ^ q.toNat % p = 1
 rw [zZAQ,Int.mul_pow,Int.mul_emod,h1',h2',Int.one_mul,zZGm hp]
theorem zZOF {p q : Int} (hp : 1 < p) : El p q 1:=by
 show 1 ^ q.toNat % p = 1
 rw [Int.one_pow,zZGm hp]
theorem zZE2 (p q : Int) : ∀ (xs : List (Int × Int)) (r s : Int),foldP p q xs (r * s % p) = r * foldP p q xs s % p
 | [],r,s=>rfl
 | x :: xs,r,s=>by
  show foldP p q xs (r * s % p * pw p q x.1 x.2 % p) = r * foldP p q xs (s * pw p q x.1 x.2 % p) % p
  rw [← zZE2 p q xs r,mm1,mm2,Int.mul_assoc]
theorem zZKv {p q : Int} (hp : 1 < p) (x : Int × Int) (xs : List (Int × Int)) : foldP p q (x :: xs) 1 = pw p q x.1 x.2 * foldP p q xs 1 % p:=by
 show foldP p q xs (1 * pw p q x.1 x.2 % p) = _
 rw [← zZE2,Int.mul_comm]
theorem zZJK {p q : Int} (hp : 1 < p) (hq : 0 < q) : ∀ (xs : List (Int × Int)),(∀ x ∈ xs,El p q x.1) → El p q (foldP p q xs 1)
 | [],_=>zZOF hp
 | x :: xs,h=>by
  rw [zZKv hp]
  exact zZOc hp (zZMi hp hq (h x List.mem_cons_self) _) (zZJK hp hq xs fun y hy=>h y (List.mem_cons_of_mem _ hy))
theorem zZLj {p q : Int} (hp : 1 < p) (xs : List (Int × Int)) : 0 ≤ foldP p q xs 1 ∧ foldP p q xs 1 < p:=zZEM p q (by omega) xs 1 (by omega) hp
abbrev gB (i : Nat) : S:=(forsS zZy).getD i .skip
theorem zZKm (n : Nat) (p q : Int) (W : Wd) (p1 : 1 < p) (p2 : p < 1000000) (q1 : 1 < q) (q2 : q < 1000000) (s0 s1 s2 s3 s6 s7 s8 s9 s10 s13 s14 : Slot) : ∀ (ns : List Int) (r : Int) (z : Slot),∃ z',
  forL (tgD (.nm 5)) (exS (cfgN T (n + 1)) (gB 0)) (ns.map .int) [s0,s1,s2,s3,.val (.int r),z,s6,s7,s8,s9,s10,.val (.int p),.val (.int q),s13,s14] W =
   .ok (.nx [s0,s1,s2,s3,.val (.int (rootF p q ns r)),z',s6,s7,s8,s9,s10,.val (.int p),.val (.int q),s13,s14]) W:=by
 simp only [gB,zZy,forsS,List.getD_cons_zero,List.getD_cons_succ]
 intro ns
 have e1 : 0 ≤ (p - 1) / q:=Int.ediv_nonneg (by omega) (by omega)
 have e2 : (p - 1) / q ≤ p - 1:=Int.ediv_le_self _ (by omega)
 have hq : 0 < q ∧ q < 1073741824:=by omega
 induction ns with
 | nil=>intro r z; exact ⟨z,rfl⟩
 | cons x ns ih =>
  intro r z
  by_cases hr : r = 1
  ·obtain ⟨z',h⟩:=ih (x ^ ((p - 1) / q).toNat % p) (.val (.int x))
   refine ⟨z', ?_⟩
   have hl:=zZAM n x ((p - 1) / q) p W p1 (by omega) e1 (by omega)
   have hf : rootF p q (x :: ns) r = rootF p q ns (x ^ ((p - 1) / q).toNat % p):=by rw [rootF,if_pos hr]
   rw [hf,List.map_cons,zZD]
   clear ih hf
   generalize x ^ ((p - 1) / q).toNat % p = y at *
   subst hr
   walk_at "ev0"
  ·obtain ⟨z',h⟩:=ih r (.val (.int x))
   refine ⟨z', ?_⟩
   have hf : rootF p q (x :: ns) r = rootF p q ns r:=by rw [rootF,if_neg hr]
   rw [hf,List.map_cons,zZD]
   clear ih hf
   walk_at "ev0"
structure BI (p q r c : Int) (bs : List Int) : Prop where
 nd : bs.Nodup
 le : (bs.length : Int) ≤ c
 pw : ∀ b ∈ bs,∃ e : Int,1 ≤ e ∧ e < q ∧ b = r ^ e.toNat % p
theorem zZJa {xs : List Int} {x : Int} (h : xs.Nodup) (hx : x ∉ xs) : (xs ++ [x]).Nodup:=by
 rw [List.nodup_append]
 refine ⟨h,by simp, ?_⟩
 intro a ha b hb
 rw [List.mem_singleton] at hb
 subst hb
 exact fun e=>hx (e ▸ ha)
theorem BI.push {p q r c : Int} {bs : List Int} (h : BI p q r c bs) {e : Int} (h1 : 1 ≤ e) (h2 : e < q) (h3 : r ^ e.toNat % p ∉ bs) (h4 : (bs.length : Int) < c) : BI p q r c (bs ++ [r ^ e.toNat % p]):=by
 refine ⟨zZJa h.nd h3, ?_, ?_⟩
 ·rw [List.length_append,List.length_singleton]
  omega
 ·intro b hb
  rcases List.mem_append.mp hb with hb | hb
  ·exact h.pw b hb
  ·exact ⟨e,h1,h2,List.mem_singleton.mp hb⟩
theorem zZKw (n : Nat) (p q r c a st : Int) (W : Wd) (p1 : 1 < p) (p2 : p < 1000000) (q1 : 2 < q) (q2 : q < 1000000) (hc : c < 100) (s0 s2 s3 s5 s14 : Slot) :
  ∀ (xs : List Nat) (hx : ∀ x ∈ xs,(x : Int) < q) (bs : List Int) (z9 z10 z13 : Slot),BI p q r c bs → ∃ bs' z9' z10' z13',BI p q r c bs' ∧
  forL (tgD (.nm 9)) (exS (cfgN T (n + 1)) (gB 1)) (xs.map fun k : Nat=>D.int (0 + (k : Int))) [s0,.val (.int c),s2,s3,.val (.int r),s5,.ol (bs.map .int),.val (.int a),.val (.int st),z9,z10,.val (.int p),.val (.int q),z13,s14] W =
   .ok (.nx [s0,.val (.int c),s2,s3,.val (.int r),s5,.ol (bs'.map .int),.val (.int a),.val (.int st),z9',z10',.val (.int p),.val (.int q),z13',s14]) W:=by
 simp only [gB,zZy,forsS,List.getD_cons_zero,List.getD_cons_succ]
 intro xs
 induction xs with
 | nil=>intro _ bs z9 z10 z13 h; exact ⟨bs,z9,z10,z13,h,rfl⟩
 | cons x xs ih =>
  intro hx bs z9 z10 z13 hb
  have hx1 : (x : Int) < q:=hx x List.mem_cons_self
  have ih:=ih fun y hy=>hx y (List.mem_cons_of_mem _ hy)
  clear hx
  by_cases hl : (bs.length : Int) < c
  ·have m0 : 0 ≤ (a + (0 + (x : Int)) * st) % (q - 1):=Int.emod_nonneg _ (by omega)
   have m1 : (a + (0 + (x : Int)) * st) % (q - 1) < q - 1:=Int.emod_lt_of_pos _ (by omega)
   have g1 : ((0 : Int) + (x : Int)).natAbs < limI ∨ st.natAbs < limI:=by unfold limI; omega
   have hq : 0 < q - 1:=by omega
   have hp:=zZAM n r (1 + (a + (0 + (x : Int)) * st) % (q - 1)) p W p1 (by omega) (by omega) (by omega)
   by_cases hm : r ^ (1 + (a + (0 + (x : Int)) * st) % (q - 1)).toNat % p ∈ bs
   ·obtain ⟨bs',z9',z10',z13',h1,h2⟩:=ih bs (.val (.int (0 + (x : Int)))) (.val (.int (1 + (a + (0 + (x : Int)) * st) % (q - 1)))) (.val (.int (r ^ (1 + (a + (0 + (x : Int)) * st) % (q - 1)).toNat % p))) hb
    refine ⟨bs',z9',z10',z13',h1, ?_⟩
    rw [List.map_cons,zZD]
    clear ih m0 m1 h1
    generalize r ^ (1 + (a + (0 + (x : Int)) * st) % (q - 1)).toNat % p = y at *
    walk_at "ev0"
   ·obtain ⟨bs',z9',z10',z13',h1,h2⟩:=ih _ (.val (.int (0 + (x : Int)))) (.val (.int (1 + (a + (0 + (x : Int)) * st) % (q - 1)))) (.val (.int (r ^ (1 + (a + (0 + (x : Int)) * st) % (q - 1)).toNat % p))) (hb.push (by omega) (by omega) hm hl)
    refine ⟨bs',z9',z10',z13',h1, ?_⟩
    rw [List.map_cons,zZD]
    clear ih m0 m1 h1
    generalize r ^ (1 + (a + (0 + (x : Int)) * st) % (q - 1)).toNat % p = y at *
    rw [List.map_append,List.map_cons,List.map_nil] at h2
    walk_at "ev0"
  ·obtain ⟨bs',z9',z10',z13',h1,h2⟩:=ih bs (.val (.int (0 + (x : Int)))) z10 z13 hb
   refine ⟨bs',z9',z10',z13',h1, ?_⟩
   rw [List.map_cons,zZD]
   clear ih h1
   walk_at "ev0"
theorem zZJ4 (n : Nat) (p q r c : Int) (W : Wd) (p1 : 1 < p) (p2 : p < 1000000) (q1 : 2 < q) (q2 : q < 1000000) (hc : c < 100) (s0 s2 s3 s5 s7 s8 s9 s14 : Slot) :
  ∀ (xs : List Nat) (hx : ∀ x ∈ xs,(x : Int) < q - 1) (bs : List Int) (z10 z13 : Slot),BI p q r c bs → (∀ e : Nat,1 ≤ e → (e : Int) < q → (∃ x ∈ xs,e = x + 1) ∨ (bs.length : Int) = c ∨ r ^ e % p ∈ bs) →
  ∃ bs' z10' z13',BI p q r c bs' ∧ (∀ e : Nat,1 ≤ e → (e : Int) < q → (bs'.length : Int) = c ∨ r ^ e % p ∈ bs') ∧
  forL (tgD (.nm 10)) (exS (cfgN T (n + 1)) (gB 2)) (xs.map fun k : Nat=>D.int (1 + (k : Int))) [s0,.val (.int c),s2,s3,.val (.int r),s5,.ol (bs.map .int),s7,s8,s9,z10,.val (.int p),.val (.int q),z13,s14] W =
   .ok (.nx [s0,.val (.int c),s2,s3,.val (.int r),s5,.ol (bs'.map .int),s7,s8,s9,z10',.val (.int p),.val (.int q),z13',s14]) W:=by
 simp only [gB,zZy,forsS,List.getD_cons_zero,List.getD_cons_succ]
 intro xs
 induction xs with
 | nil =>
  intro _ bs z10 z13 h hd
  refine ⟨bs,z10,z13,h,fun e h1 h2 => ?_,rfl⟩
  rcases hd e h1 h2 with ⟨x,hx,_⟩ | h
  ·cases hx
  ·exact h
 | cons x xs ih =>
  intro hx bs z10 z13 hb hd
  have hx1 : (x : Int) < q - 1:=hx x List.mem_cons_self
  have ih:=ih fun y hy=>hx y (List.mem_cons_of_mem _ hy)
  clear hx
  have hp:=zZAM n r (1 + (x : Int)) p W p1 (by omega) (by omega) (by omega)
  have et : (1 + (x : Int)).toNat = x + 1:=by omega
  by_cases hm : r ^ (1 + (x : Int)).toNat % p ∈ bs
  ·obtain ⟨bs',z10',z13',h1,h3,h2⟩:=ih bs (.val (.int (1 + (x : Int)))) (.val (.int (r ^ (1 + (x : Int)).toNat % p))) hb (fun e h1 h2=>by
    rcases hd e h1 h2 with ⟨y,hy,e1⟩ | h
    ·rcases List.mem_cons.mp hy with rfl | hy
     ·rw [et,← e1] at hm
      exact .inr (.inr hm)
     ·exact .inl ⟨y,hy,e1⟩
    ·exact .inr h)
   refine ⟨bs',z10',z13',h1,h3, ?_⟩
   rw [List.map_cons,zZD]
   clear ih h1 h3 et hd
   generalize r ^ (1 + (x : Int)).toNat % p = y at *
   walk_at "ev0"
  ·by_cases hl : (bs.length : Int) < c
   ·obtain ⟨bs',z10',z13',h1,h3,h2⟩:=ih _ (.val (.int (1 + (x : Int)))) (.val (.int (r ^ (1 + (x : Int)).toNat % p))) (hb.push (by omega) (by omega) hm hl) (fun e h1 h2=>by
     rcases hd e h1 h2 with ⟨y,hy,e1⟩ | h | h
     ·rcases List.mem_cons.mp hy with rfl | hy
      ·rw [et,← e1]
       exact .inr (.inr (List.mem_append_right _ (List.mem_singleton.mpr rfl)))
      ·exact .inl ⟨y,hy,e1⟩
     ·omega
     ·exact .inr (.inr (List.mem_append_left _ h)))
    refine ⟨bs',z10',z13',h1,h3, ?_⟩
    rw [List.map_cons,zZD]
    clear ih h1 h3 et hd
    generalize r ^ (1 + (x : Int)).toNat % p = y at *
    rw [List.map_append,List.map_cons,List.map_nil] at h2
    walk_at "ev0"
   ·obtain ⟨bs',z10',z13',h1,h3,h2⟩:=ih bs (.val (.int (1 + (x : Int)))) (.val (.int (r ^ (1 + (x : Int)).toNat % p))) hb (fun e h1 h2=>.inr (.inl (by have:=hb.le; omega)))
    refine ⟨bs',z10',z13',h1,h3, ?_⟩
    rw [List.map_cons,zZD]
    clear ih h1 h3 et hd
    generalize r ^ (1 + (x : Int)).toNat % p = y at *
    walk_at "ev0"
local macro_rules | `(tactic| walk_at "ev1") => `(tactic| simp -implicitDefEqProofs (disch:=first | assumption | omega | (simp only [List.length_cons,List.length_nil,List.length_append,List.length_map]; done) | (simp only [List.length_cons,List.length_nil,List.length_append,List.length_map,limI,cap]; omega) | decide) only [zZBa,zZCV,zZBe,zZF4,v_bl,zZFJ,zZFp,zZFC,zZE1,v_in,zZCG,v_eq,v_ne,v_lt,v_le,v_gt,v_ge,v_is,zZB9,
 zZFN,zZCP,zZGR,v_or,zZDs,zZGC,zZDm,zZE5,zZGF,zZFm,zZFj,v_sl,zZFl,zZCI,zZFf,zZDP,zZDX,zZDr,zZDH,zZC9,zZFb,zZCE,zZFQ,zZE9,zZFW,zZF2,zZBc,zZCB,zZBu,zZDC,zZCA,zZBB,zZAo,zZFa,zZGS,E.isVar,zZCW,zZAr,zZB5,zZDV,zZCK,zZAz,zZDJ,
 v_of,zZEy,zZDn,zZCy,zZGE,zZDA,zZCl,zZCc,zZBz,zZB0,zZD5,zZFZ,zZB8,zZDh,zZAk,zZCN,zZFG,zZD2,zZF5,zZF7,zZCi,zZGK,zZBr,zZDj,zZAn,zZBC,zZBD,zZBd,zZCg,zZGT,zZAs,zZAE,zZCx,zZAD,xZh,zZDE,zZCz,zZDZ,zZDq,zZC4,zZC3,zZDv,zZC5,xZl,zZE7,zZAV,zZDY,zZDO,
 zZBl,zZBK,yZ4,xZW,zZFy,zZDK,zZCF,zZCJ,zZA8,zZFU,zZF3,zZEu,zZDy,zZE4,zZFL,c_lt,c_le,c_gt,c_ge,zZGD,zZGP,zZFh,zZFz,zZFH,zZFk,zZFE,zZEx,t_bl,zZFT,zZFn,zZEw,zZF0,zZFd,zZFi,zZFS,zZFc,yZS,zZAH,zZF6,zZDD,zZGH,zZFq,k_bl,
 zZD1,zZAy,zZAU,xZF,zZB3,zZBY,zZBs,zZn,Option.bind_some,Option.map_some,List.getElem?_cons_zero,List.getElem?_cons_succ,List.set_cons_zero,List.set_cons_succ,List.map_cons,List.map_nil,List.length_cons,List.length_nil,List.cons_append,List.nil_append,List.replicate,
 decide_eq_true_eq,Int.reduceSub,Int.reduceAdd,Int.reduceNeg,Int.reduceLT,Int.reduceLE,Int.reduceEq,Nat.reduceAdd,Nat.reduceSub,List.getElem?_set,List.length_set,List.length_map,List.set_set,eq_self,Bool.false_eq_true,Int.reduceToNat,Int.toNat_natCast,Int.reducePow,Option.map_some,tyD,decide_true,decide_false,if_true,if_false,Bool.not_true,Bool.not_false,zZB6,zZCO,zZDb,zZAl,zZDF,zZBZ,zZCj,xZ8,xZY,zZCL,zZBx,zZGB,zZB2,zZCT,zZAh,zZAY,zZCS,zZAF,zZDN,zZDg,zZBj,zZAd,zZCR,xZz,zZBq,Option.isNone_none,Option.isNone_some,Nat.reduceEqDiff,Nat.reduceLT,zZBi,xZL,zZAT,zZBt,xZ6,xZ9,zZBo,zZB1,zZGQ,zZCd,zZBb,xZ4,R.calm_ok,zZDR,zZFI,zZDo,zZAS,zZFe,zZC6,zZDd,zZAB,xZ0,zZGO,zZBw,zZB4,zZCh,zZDT,zZCX,zZBk,zZCZ,zZBn,yZq,zZA3,zZF1,zZFu,zZDS,zZDa,zZAG,zZAC,zZDk,zZE0,zZFB,zZCU,zZB7,zZCQ,zZCe,zZBg,zZC1,zZD3,zZA2,zZBH,zZBE,zZAA,zZAw,zZAg,zZCD,zZC2,dk_v,dk_n,zZCb,zZA4,xZ5,zZE6,zZD0,zZDU,zZDi,zZCw,zZCC,zZBA,zZDI,zZBy,zZFD,zZBv,zZCM,zZCk,zZAj,zZBL,zZBI,zZAu,zZAp,zZAm,zZA5,zZAi,zZAb,zZA7,zZAc,zZA9,zZAv,zZA1,zZAW,zZAZ,zZBJ,zZAx,zZBF,zZBG,zZAf,zZGU,zZFY,zZFw,zZF9,zZGN,zZE8,pairD, *])
structure GOK (p q : Int) (bs : List Int) : Prop where
 mem : (p,q) ∈ PAIRS
 nd : bs.Nodup
 pw : ∀ b ∈ bs,∃ e : Int,1 ≤ e ∧ e < q ∧ b = rootF p q two39 1 ^ e.toNat % p
theorem GOK.rng {p q : Int} {bs : List Int} (G : GOK p q bs) : 2 < p ∧ p < 1000 ∧ 4 < q ∧ q < 200:=by
 obtain ⟨P,Q,rfl,rfl,g⟩:=zZCY G.mem
 have:=g.h11
 have:=g.h12
 have:=g.h13
 have:=g.h14
 omega
theorem GOK.gr {p q : Int} {bs : List Int} (G : GOK p q bs) : GrOk p q:=by
 have:=G.rng
 exact ⟨by omega,by omega,by omega,by omega⟩
theorem zZJo (n p0 : Nat) (W : Wd) (c least : Int) (hP : Pool W p0) (c0 : 1 ≤ c) (c1 : c ≤ 12) (l1 : least ≤ 101) : ∃ p q bs W',GOK p q bs ∧ (bs.length : Int) = c ∧ least ≤ q ∧ c < q ∧ Pool W' p0 ∧
  (cfgN T (n + 2)).call zZDW [.own p0,.int c,.int least] W = .ok (gT p q bs) W':=by
 have hf : ((607 : Int),(101 : Int)) ∈ PAIRS.filter (fun x=>decide (least ≤ x.2) && decide (c < x.2)):=by
  rw [List.mem_filter]
  refine ⟨List.mem_map.mpr ⟨(607,101),by decide,rfl⟩, ?_⟩
  simp only [Bool.and_eq_true,decide_eq_true_eq]
  omega
 have hl : (PAIRS.filter (fun x=>decide (least ≤ x.2) && decide (c < x.2))).length ≤ 10:=List.length_filter_le _ _
 have hl0 : 0 < (PAIRS.filter (fun x=>decide (least ≤ x.2) && decide (c < x.2))).length:=List.length_pos_of_mem hf
 have hm : ∀ x ∈ PAIRS.filter (fun x=>decide (least ≤ x.2) && decide (c < x.2)),x ∈ PAIRS ∧ least ≤ x.2 ∧ c < x.2:=by
  intro x hx
  rw [List.mem_filter] at hx
  simpa only [Bool.and_eq_true,decide_eq_true_eq] using hx
 have hcomp : ∀ s3 : Slot,compR (cfgN T (n + 1)) (.var 14) (.nm 14) (.cons (.and (.cons (.cmp .ge (.idx (.var 14) (.int 1)) (.var 2)) (.cons (.cmp .gt (.idx (.var 14) (.int 1)) (.var 1)) .nil))) .nil) [.val (.own p0),.val (.int c),.val (.int least),s3,.no,.no,.no,.no,.no,.no,.no,.no,.no,.no,.no] (PAIRS.map pairD,false) W =
   .ok ((PAIRS.filter (fun x=>decide (least ≤ x.2) && decide (c < x.2))).map pairD) W:=by
  intro s3
  refine zZm pairD pairD _ PAIRS (by decide) fun x hx=>⟨_,rfl, ?_,fun _ => ?_⟩
  ·show evTs _ _ [.val (.own p0),.val (.int c),.val (.int least),s3,.no,.no,.no,.no,.no,.no,.no,.no,.no,.no,.val (pairD x)] W = _
   by_cases a1 : least ≤ x.2 <;> by_cases a2 : c < x.2 <;> walk_at "ev1" <;> rfl
  ·rfl
 rw [← zZMB] at hcomp
 generalize PAIRS.filter (fun x=>decide (least ≤ x.2) && decide (c < x.2)) = F at *
 obtain ⟨v1,W1,d1,a1,b1,P1⟩:=zZBm n W p0 F.length hP (by omega) (by omega)
 obtain ⟨⟨p,q⟩,hF,hat⟩:=zZDc pairD F a1 b1
 obtain ⟨m1,m2,m3⟩:=hm _ hF
 simp only [] at m2 m3
 have G0 : GOK p q []:=⟨m1,List.nodup_nil,fun _ h=>by cases h⟩
 obtain ⟨p1,p2,q1,q2⟩:=G0.rng
 obtain ⟨v2,W2,d2,a2,b2,P2⟩:=zZBm n W1 p0 (q - 1) P1 (by omega) (by omega)
 obtain ⟨v3,W3,d3,a3,b3,P3⟩:=zZBm n W2 p0 (q - 2) P2 (by omega) (by omega)
 obtain ⟨z5,hroot⟩:=zZKm n p q W1 (by omega) (by omega) (by omega) (by omega) (.val (.own p0)) (.val (.int c)) (.val (.int least)) (.val (.lst (F.map pairD))) .no .no .no .no .no .no .no two39 1 .no
 have ht : two39.map D.int = rangeD 2 38:=rfl
 rw [ht] at hroot
 obtain ⟨bs1,z9,z10,z13,B1,hb1⟩:=zZKw n p q (rootF p q two39 1) c v2 (1 + v3) W3 (by omega) (by omega) (by omega) (by omega) (by omega) (.val (.own p0)) (.val (.int least)) (.val (.lst (F.map pairD))) z5 .no (List.range (q - 1).toNat)
  (fun x hx=>by rw [List.mem_range] at hx; omega) [] .no .no .no ⟨List.nodup_nil,by simp; omega,fun _ h=>by cases h⟩
 obtain ⟨bs,z10',z13',B2,hall,hb2⟩:=zZJ4 n p q (rootF p q two39 1) c W3 (by omega) (by omega) (by omega) (by omega) (by omega) (.val (.own p0)) (.val (.int least)) (.val (.lst (F.map pairD))) z5 (.val (.int v2)) (.val (.int (1 + v3))) z9 .no (List.range (q - 1).toNat)
  (fun x hx=>by rw [List.mem_range] at hx; omega) bs1 z10 z13 B1 (fun e h1 h2=>.inl ⟨e - 1,by rw [List.mem_range]; omega,by omega⟩)
 have hlen : (bs.length : Int) = c:=by
  obtain ⟨P,Q,hP',hQ',g⟩:=zZCY m1
  by_cases hc : (bs.length : Int) = c
  ·exact hc
  ·exfalso
   have hsub : ((List.range (Q - 1)).map fun e=>((rootN P Q ^ (e + 1) % P : Nat) : Int)) ⊆ bs:=by
    intro y hy
    obtain ⟨e,he,rfl⟩:=List.mem_map.mp hy
    rw [List.mem_range] at he
    have h:=(hall (e + 1) (by omega) (by omega)).resolve_left hc
    rw [hP',hQ',g.h1] at h
    exact_mod_cast h
   have hnd : ((List.range (Q - 1)).map fun e=>((rootN P Q ^ (e + 1) % P : Nat) : Int)).Nodup:=by
    have:=List.Pairwise.map (R:=fun a b : Nat=>a ≠ b) (S:=fun a b : Int=>a ≠ b) (fun k : Nat=>(k : Int)) (fun a b h e=>h (by omega)) g.h6
    rw [List.map_map] at this
    exact this
   have:=hnd.length_le_of_subset hsub
   rw [List.length_map,List.length_range] at this
   have:=B2.le
   omega
 refine ⟨p,q,bs,W3,⟨m1,B2.nd,B2.pw⟩,hlen,m2,m3,P3, ?_⟩
 have hb1' : forL (tgD (.nm 9)) (exS (cfgN T (n + 1)) (gB 1)) (rangeD 0 (q - 1).toNat) _ _ = _:=hb1
 have hb2' : forL (tgD (.nm 10)) (exS (cfgN T (n + 1)) (gB 2)) (rangeD 1 (q - 1).toNat) _ _ = _:=hb2
 clear hb1 hb2 hP P1 P2 P3 hall B1 B2 G0 hm hF hl hl0 m1 hf
 have g1 : -4611686018427387904 ≤ q - 1 ∧ q - 1 < 4611686018427387904:=by omega
 have g2 : -4611686018427387904 ≤ q ∧ q < 4611686018427387904:=by omega
 have hcap : 10 ≤ cap:=by decide
 simp only [gB,zZy,forsS,List.getD_cons_zero,List.getD_cons_succ,List.map_nil] at hroot hb1' hb2'
 rw [zZE (F:=xZZ) rfl]
 simp only [xZZ,zZy,gT]
 walk_at "ev1"
theorem GOK.facts {p q : Int} {bs : List Int} (G : GOK p q bs) : tri p 2 999 = true ∧ tri q 2 999 = true ∧ (p - 1) % q = 0:=by
 obtain ⟨P,Q,rfl,rfl,g⟩:=zZCY G.mem
 refine ⟨g.h8,g.h9, ?_⟩
 have h:=g.h7
 have h1:=g.h11
 rw [show ((P : Int) - 1) = ((P - 1 : Nat) : Int) by omega]
 exact_mod_cast h
theorem GOK.root {p q : Int} {bs : List Int} (G : GOK p q bs) : El p q (rootF p q two39 1):=by
 obtain ⟨P,Q,rfl,rfl,g⟩:=zZCY G.mem
 have h:=g.h4
 show rootF P Q two39 1 ^ (Q : Int).toNat % (P : Int) = 1
 rw [g.h1,Int.toNat_natCast]
 exact_mod_cast h
theorem GOK.els {p q : Int} {bs : List Int} (G : GOK p q bs) : ∀ b ∈ bs,El p q b ∧ 1 < b ∧ b < p:=by
 intro b hb
 obtain ⟨r1,r2,r3,r4⟩:=G.rng
 obtain ⟨e,h1,h2,h3⟩:=G.pw b hb
 have e1 : b = PL.pw p q (rootF p q two39 1) e:=by
  rw [h3]
  unfold PL.pw
  rw [Int.emod_eq_of_lt (by omega) h2]
 refine ⟨?_, ?_, ?_⟩
 ·rw [e1]
  exact zZMi (by omega) (by omega) G.root e
 ·obtain ⟨P,Q,hP,hQ,g⟩:=zZCY G.mem
  have h:=g.h5 (e.toNat - 1) (by omega)
  rw [show e.toNat - 1 + 1 = e.toNat by omega] at h
  rw [h3,hP,hQ,g.h1]
  exact_mod_cast h
 ·rw [e1]
  exact zZO9 (by omega)
theorem zZJX (n : Nat) (p q : Int) (bs : List Int) (W : Wd) (G : GOK p q bs) (s0 : Slot) : ∀ (ys pre : List Int) (z4 z5 : Slot),bs = pre ++ ys → ∃ z4' z5',
  forL (tgD (.tup (.cons (.nm 4) (.cons (.nm 5) .nil)))) (exS (cfgN T (n + 1)) ((forsS zZv).getD 0 .skip)) (enumD pre.length (ys.map .int)) [s0,.val (.int p),.val (.int q),.val (.lst (bs.map .int)),z4,z5] W =
   .ok (.nx [s0,.val (.int p),.val (.int q),.val (.lst (bs.map .int)),z4',z5']) W:=by
 simp only [zZv,forsS,List.getD_cons_zero]
 intro ys
 induction ys with
 | nil=>intro pre z4 z5 h; exact ⟨z4,z5,rfl⟩
 | cons b ys ih =>
  intro pre z4 z5 h
  obtain ⟨r1,r2,r3,r4⟩:=G.rng
  have hb : b ∈ bs:=by rw [h]; simp
  obtain ⟨b1,b2,b3⟩:=G.els b hb
  have hn : b ∉ pre:=by
   have:=G.nd
   rw [h,List.nodup_append] at this
   intro hm
   exact this.2.2 b hm b List.mem_cons_self rfl
  obtain ⟨z4',z5',h2⟩:=ih (pre ++ [b]) (.val (.int pre.length)) (.val (.int b)) (by rw [h]; simp)
  refine ⟨z4',z5', ?_⟩
  have hp:=zZKq n b q p W (by omega) (by omega) (by omega) (by omega)
  have b1' : b ^ q.toNat % p = 1:=b1
  rw [b1'] at hp
  have hc:=zZLq (bs.map D.int) pre.length
  have ht : (bs.map D.int).take pre.length = pre.map .int:=by rw [h,List.map_append,List.take_left' (by simp)]
  rw [ht] at hc
  rw [List.length_append,List.length_singleton] at h2
  rw [List.map_cons,zZKd,zZD]
  clear ih ht b1 b1' h
  walk_at "ev0"
theorem zZG8 (n : Nat) (p q : Int) (bs : List Int) (W : Wd) (G : GOK p q bs) (h1 : 2 ≤ (bs.length : Int)) (h2 : (bs.length : Int) ≤ 12) :
  (cfgN T (n + 2)).init 0 [.int p,.int q,.lst (bs.map .int)] W = .ok [(2,.int p),(3,.int q),(4,.tup (bs.map .int))] W:=by
 obtain ⟨r1,r2,r3,r4⟩:=G.rng
 obtain ⟨t1,t2,t3⟩:=G.facts
 have pp:=zZES n p W (by omega)
 have pq:=zZES n q W (by omega)
 rw [if_neg (by omega),t1] at pp
 rw [if_neg (by omega),t2] at pq
 obtain ⟨z4,z5,hl⟩:=zZJX n p q bs W G (.oi 0 []) bs [] .no .no rfl
 simp only [List.length_nil,zZv,forsS,List.getD_cons_zero] at hl
 rw [zZAR (F:=yZe) rfl]
 have hq : 0 < q:=by omega
 have g1 : ¬ q < 2:=by omega
 have g2 : p ≤ 1000000:=by omega
 clear G
 simp only [yZe,zZv]
 walk_at "ev0"
local macro_rules | `(tactic| walk_at "ev2") => `(tactic| simp -implicitDefEqProofs (disch:=first | assumption | omega | (simp only [List.length_cons,List.length_nil,List.length_append,List.length_map]; done) | (simp only [List.length_cons,List.length_nil,List.length_append,List.length_map,limI,cap]; omega) | decide) only [zZBa,zZCV,zZBe,zZF4,v_bl,zZFJ,zZFp,zZFC,zZE1,v_in,zZCG,v_eq,v_ne,v_lt,v_le,v_gt,v_ge,v_is,zZB9,
 zZFN,zZCP,zZGR,v_or,zZDs,zZGC,zZDm,zZE5,zZGF,zZFm,zZFj,v_sl,zZFl,zZCI,zZFf,zZDP,zZDX,zZDr,zZDH,zZC9,zZFb,zZCE,zZFQ,zZE9,zZFW,zZF2,zZBc,zZCB,zZBu,zZDC,zZCA,zZBB,zZAo,zZFa,zZGS,E.isVar,zZCW,zZAr,zZB5,zZDV,zZCK,zZAz,zZDJ,
 v_of,zZEy,zZDn,zZCy,zZGE,zZDA,zZCl,zZCc,zZBz,zZB0,zZD5,zZFZ,zZB8,zZDh,zZAk,zZCN,zZFG,zZD2,zZF5,zZF7,zZCi,zZGK,zZBr,zZDj,zZAn,zZBC,zZBD,zZBd,zZCg,zZGT,zZAs,zZAE,zZCx,zZAD,xZh,zZDE,zZCz,zZDZ,zZDq,zZC4,zZC3,zZDv,zZC5,xZl,zZE7,zZAV,zZDY,zZDO,
 zZBl,zZBK,yZ4,xZW,zZFy,zZDK,zZCF,zZCJ,zZA8,zZFU,zZF3,zZEu,zZDy,zZE4,zZFL,c_lt,c_le,c_gt,c_ge,zZGD,zZGP,zZFh,zZFz,zZFH,zZFk,zZFE,zZEx,t_bl,zZFT,zZFn,zZEw,zZF0,zZFd,zZFi,zZFS,zZFc,yZS,zZAH,zZF6,zZDD,zZGH,zZFq,k_bl,
 zZD1,zZAy,zZAU,xZF,zZB3,zZBY,zZBs,zZn,Option.bind_some,Option.map_some,List.getElem?_cons_zero,List.getElem?_cons_succ,List.set_cons_zero,List.set_cons_succ,List.map_cons,List.map_nil,List.length_cons,List.length_nil,List.cons_append,List.nil_append,List.replicate,
 decide_eq_true_eq,Int.reduceSub,Int.reduceAdd,Int.reduceNeg,Int.reduceLT,Int.reduceLE,Int.reduceEq,Nat.reduceAdd,Nat.reduceSub,List.getElem?_set,List.length_set,List.length_map,List.set_set,eq_self,Bool.false_eq_true,Int.reduceToNat,Int.toNat_natCast,Int.reducePow,Option.map_some,tyD,decide_true,decide_false,if_true,if_false,Bool.not_true,Bool.not_false,zZB6,zZCO,zZDb,zZAl,zZDF,zZBZ,zZCj,xZ8,xZY,zZCL,zZBx,zZGB,zZB2,zZCT,zZAh,zZAY,zZCS,zZAF,zZDN,zZDg,zZBj,zZAd,zZCR,xZz,zZBq,Option.isNone_none,Option.isNone_some,Nat.reduceEqDiff,Nat.reduceLT,zZBi,xZL,zZAT,zZBt,xZ6,xZ9,zZBo,zZB1,zZGQ,zZCd,zZBb,xZ4,R.calm_ok,zZDR,zZFI,zZDo,zZAS,zZFe,zZC6,zZDd,zZAB,xZ0,zZGO,zZBw,zZB4,zZCh,zZDT,zZCX,zZBk,zZCZ,zZBn,yZq,zZA3,zZF1,zZFu,zZDS,zZDa,zZAG,zZAC,zZDk,zZE0,zZFB,zZCU,zZB7,zZCQ,zZCe,zZBg,zZC1,zZD3,zZA2,zZBH,zZBE,zZAA,zZAw,zZAg,zZCD,zZC2,dk_v,dk_n,zZCb,zZA4,xZ5,zZE6,zZD0,zZDU,zZDi,zZCw,zZCC,zZBA,zZDI,zZBy,zZFD,zZBv,zZCM,zZCk,zZAj,zZBL,zZBI,zZAu,zZAp,zZAm,zZA5,zZAi,zZAb,zZA7,zZAc,zZA9,zZAv,zZA1,zZAW,zZAZ,zZBJ,zZAx,zZBF,zZBG,zZAf,zZGU,zZFY,zZFw,zZF9,zZGN,zZE8,keyD, *])
theorem zZIU : ∀ {us : List Str} {j : Nat} {u : Str},us.Nodup → us[j]? = some u → (us.map D.str).findIdx? (fun y=>eqVD y (.str u)) = some j
 | [],_,_,_,h=>by simp at h
 | w :: us,0,u,_,h1=>by
  simp at h1
  subst h1
  have e : eqVD (.str w) (.str w) = true:=by show (w == w) = true; simp
  rw [List.map_cons,List.findIdx?_cons,if_pos e]
 | w :: us,j + 1,u,hn,h1=>by
  simp only [List.getElem?_cons_succ] at h1
  rw [List.nodup_cons] at hn
  have hne : w ≠ u:=fun e=>hn.1 (e ▸ List.mem_of_getElem? h1)
  have ih:=zZIU hn.2 h1
  have e : eqVD (.str w) (.str u) = false:=by show (w == u) = false; simp [hne]
  rw [List.map_cons,List.findIdx?_cons,e,ih]
  rfl
theorem zZLC (us : List Str) : (us.map D.str).all flatD = true:=by
 induction us with
 | nil=>rfl
 | cons u us ih=>simp [flatD,ih]
def nb : Nat → D → Bool
 | _,.non=>true
 | _,.int _=>true
 | _,.str s=>PyData.strOk s
 | n + 1,.tup xs=>xs.all (nb n)
 | n + 1,.lst xs=>xs.all (nb n)
 | _,_=>false
def dq (x y : D) : Bool:=(eqD x y).getD false
theorem zZGh {f : D → Option PyData} : ∀ {xs : List D},(∀ x ∈ xs,∃ p,f x = some p) → ∃ ps,xs.mapM f = some ps
 | [],_=>⟨[],rfl⟩
 | x :: xs,h=>by
  obtain ⟨p,hp⟩:=h x List.mem_cons_self
  obtain ⟨ps,hps⟩:=zZGh fun y hy=>h y (List.mem_cons_of_mem _ hy)
  exact ⟨p :: ps,by simp [List.mapM_cons,hp,hps]⟩
theorem zZD7 : ∀ n x,nb n x = true → ∃ p,pd n x = some p:=by
 intro n
 induction n with
 | zero =>
  intro x h
  cases x <;> first | exact ⟨_,rfl⟩ | (simp only [nb] at h; exact ⟨_,by simp [pd,h]; rfl⟩) | (simp [nb] at h)
 | succ n ih =>
  intro x h
  cases x with
  | tup xs =>
   simp only [nb,List.all_eq_true] at h
   obtain ⟨ps,hp⟩:=zZGh fun y hy=>ih y (h y hy)
   exact ⟨.tuple ps,by simp [pd,hp]⟩
  | lst xs =>
   simp only [nb,List.all_eq_true] at h
   obtain ⟨ps,hp⟩:=zZGh fun y hy=>ih y (h y hy)
   exact ⟨.list ps,by simp [pd,hp]⟩
  | str s =>
   simp only [nb] at h
   exact ⟨.str s,by simp [pd,h]⟩
  | non=>exact ⟨_,rfl⟩
  | int i=>exact ⟨_,rfl⟩
  | _=>simp [nb] at h
theorem zZDu {n : Nat} (ih : ∀ x y p q,nb n x = true → nb n y = true → pd n x = some p → pd n y = some q → (PyData.eqv p q = true ↔ x = y)) :
  ∀ (xs ys : List D) (ps qs : List PyData),(∀ x ∈ xs,nb n x = true) → (∀ y ∈ ys,nb n y = true) → xs.mapM (pd n) = some ps → ys.mapM (pd n) = some qs → (PyData.eqvAll ps qs = true ↔ xs = ys)
 | [],[],ps,qs,_,_,h1,h2=>by
  simp at h1 h2
  subst h1 h2
  simp [PyData.eqvAll]
 | [],y :: ys,ps,qs,_,_,h1,h2=>by
  simp only [List.mapM_nil,List.mapM_cons,bind,pure,Option.bind_eq_some_iff] at h1 h2
  obtain ⟨q,_,qs',_,h3⟩:=h2
  cases h1; cases h3
  simp [PyData.eqvAll]
 | x :: xs,[],ps,qs,_,_,h1,h2=>by
  simp only [List.mapM_nil,List.mapM_cons,bind,pure,Option.bind_eq_some_iff] at h1 h2
  obtain ⟨q,_,qs',_,h3⟩:=h1
  cases h2; cases h3
  simp [PyData.eqvAll]
 | x :: xs,y :: ys,ps,qs,hx,hy,h1,h2=>by
  simp only [List.mapM_cons,bind,pure,Option.bind_eq_some_iff] at h1 h2
  obtain ⟨p,hp,ps',hps,h3⟩:=h1
  obtain ⟨q,hq,qs',hqs,h4⟩:=h2
  cases h3; cases h4
  have i1:=ih x y p q (hx x List.mem_cons_self) (hy y List.mem_cons_self) hp hq
  have i2:=zZDu ih xs ys ps' qs' (fun z hz=>hx z (List.mem_cons_of_mem _ hz)) (fun z hz=>hy z (List.mem_cons_of_mem _ hz)) hps hqs
  rw [show PyData.eqvAll (p :: ps') (q :: qs') = (PyData.eqv p q && PyData.eqvAll ps' qs') by simp [PyData.eqvAll]]
  rw [Bool.and_eq_true,i1,i2,List.cons_eq_cons]
theorem zZHs : ∀ n x y p q,nb n x = true → nb n y = true → pd n x = some p → pd n y = some q → (PyData.eqv p q = true ↔ x = y):=by
 intro n
 induction n with
 | zero =>
  intro x y p q hx hy h1 h2
  cases x <;> first | (simp [nb] at hx; done) | skip
  all_goals cases y <;> first | (simp [nb] at hy; done) | skip
  all_goals simp only [nb] at hx hy
  all_goals simp [pd, *] at h1 h2
  all_goals subst h1 h2
  all_goals simp [PyData.eqv]
 | succ n ih =>
  intro x y p q hx hy h1 h2
  cases x with
  | tup xs =>
   simp only [nb,List.all_eq_true] at hx
   simp only [pd,Option.map_eq_some_iff] at h1
   obtain ⟨ps,hps,rfl⟩:=h1
   cases y with
   | tup ys =>
    simp only [nb,List.all_eq_true] at hy
    simp only [pd,Option.map_eq_some_iff] at h2
    obtain ⟨qs,hqs,rfl⟩:=h2
    rw [show PyData.eqv (.tuple ps) (.tuple qs) = PyData.eqvAll ps qs by simp [PyData.eqv],zZDu ih xs ys ps qs hx hy hps hqs]
    simp
   | lst ys =>
    simp only [pd,Option.map_eq_some_iff] at h2
    obtain ⟨qs,hqs,rfl⟩:=h2
    simp [PyData.eqv]
   | non=>simp [pd] at h2; subst h2; simp [PyData.eqv]
   | int i=>simp [pd] at h2; subst h2; simp [PyData.eqv]
   | str s=>simp [pd] at h2; obtain ⟨_,rfl⟩:=h2; simp [PyData.eqv]
   | _=>simp [nb] at hy
  | lst xs =>
   simp only [nb,List.all_eq_true] at hx
   simp only [pd,Option.map_eq_some_iff] at h1
   obtain ⟨ps,hps,rfl⟩:=h1
   cases y with
   | lst ys =>
    simp only [nb,List.all_eq_true] at hy
    simp only [pd,Option.map_eq_some_iff] at h2
    obtain ⟨qs,hqs,rfl⟩:=h2
    rw [show PyData.eqv (.list ps) (.list qs) = PyData.eqvAll ps qs by simp [PyData.eqv],zZDu ih xs ys ps qs hx hy hps hqs]
    simp
   | tup ys =>
    simp only [pd,Option.map_eq_some_iff] at h2
    obtain ⟨qs,hqs,rfl⟩:=h2
    simp [PyData.eqv]
   | non=>simp [pd] at h2; subst h2; simp [PyData.eqv]
   | int i=>simp [pd] at h2; subst h2; simp [PyData.eqv]
   | str s=>simp [pd] at h2; obtain ⟨_,rfl⟩:=h2; simp [PyData.eqv]
   | _=>simp [nb] at hy
  | non =>
   simp [pd] at h1; subst h1
   cases y with
   | tup ys=>simp only [pd,Option.map_eq_some_iff] at h2; obtain ⟨qs,hqs,rfl⟩:=h2; simp [PyData.eqv]
   | lst ys=>simp only [pd,Option.map_eq_some_iff] at h2; obtain ⟨qs,hqs,rfl⟩:=h2; simp [PyData.eqv]
   | non=>simp [pd] at h2; subst h2; simp [PyData.eqv]
   | int i=>simp [pd] at h2; subst h2; simp [PyData.eqv]
   | str s=>simp [pd] at h2; obtain ⟨_,rfl⟩:=h2; simp [PyData.eqv]
   | _=>simp [nb] at hy
  | int i =>
   simp [pd] at h1; subst h1
   cases y with
   | tup ys=>simp only [pd,Option.map_eq_some_iff] at h2; obtain ⟨qs,hqs,rfl⟩:=h2; simp [PyData.eqv]
   | lst ys=>simp only [pd,Option.map_eq_some_iff] at h2; obtain ⟨qs,hqs,rfl⟩:=h2; simp [PyData.eqv]
   | non=>simp [pd] at h2; subst h2; simp [PyData.eqv]
   | int i=>simp [pd] at h2; subst h2; simp [PyData.eqv]
   | str s=>simp [pd] at h2; obtain ⟨_,rfl⟩:=h2; simp [PyData.eqv]
   | _=>simp [nb] at hy
  | str s =>
   simp [pd] at h1; obtain ⟨_,rfl⟩:=h1
   cases y with
   | tup ys=>simp only [pd,Option.map_eq_some_iff] at h2; obtain ⟨qs,hqs,rfl⟩:=h2; simp [PyData.eqv]
   | lst ys=>simp only [pd,Option.map_eq_some_iff] at h2; obtain ⟨qs,hqs,rfl⟩:=h2; simp [PyData.eqv]
   | non=>simp [pd] at h2; subst h2; simp [PyData.eqv]
   | int i=>simp [pd] at h2; subst h2; simp [PyData.eqv]
   | str s=>simp [pd] at h2; obtain ⟨_,rfl⟩:=h2; simp [PyData.eqv]
   | _=>simp [nb] at hy
  | _=>simp [nb] at hx
theorem zZOY {x y : D} {b : Bool} (hx : nb 60 x = true) (hy : nb 60 y = true) (h : eqF x y = some b) : b = true ↔ x = y:=by
 cases x <;> cases y <;> simp [nb,eqF] at * <;> first | (subst h; simp; done) | (simp [h]; done) | (simp [← h]; done)
theorem zZJd {x y : D} (hx : nb 60 x = true) (hy : nb 60 y = true) : eqD x y = some (dq x y) ∧ (dq x y = true ↔ x = y):=by
 obtain ⟨p,hp⟩:=zZD7 60 x hx
 obtain ⟨q,hq⟩:=zZD7 60 y hy
 have h:=zZHs 60 x y p q hx hy hp hq
 unfold dq
 cases he : eqF x y with
 | some b =>
  have e : eqD x y = some b:=by unfold eqD; rw [he]
  rw [e]
  exact ⟨rfl,zZOY hx hy he⟩
 | none =>
  have e : eqD x y = some (PyData.eqv p q):=by
   unfold eqD
   rw [he]
   simp only []
   rw [hp,hq]
   rfl
  rw [e]
  exact ⟨rfl,h⟩
theorem zZPI {x y : D} (hx : nb 60 x = true) (hy : nb 60 y = true) : cmpD .eq x y = some (.bl (dq x y)):=by
 show (eqD x y).map D.bl = _
 rw [(zZJd hx hy).1]
 rfl
theorem zZPG {x y : D} (hx : nb 60 x = true) (hy : nb 60 y = true) : cmpD .ne x y = some (.bl (!dq x y)):=by
 show (eqD x y).map (fun b=>D.bl (!b)) = _
 rw [(zZJd hx hy).1]
 rfl
theorem zZKz {x y : D} (hx : nb 60 x = true) (hy : nb 60 y = true) : dq x y = true ↔ x = y:=(zZJd hx hy).2
theorem zZIw {xs ys : List Int} : xs.map D.int = ys.map D.int ↔ xs = ys:=by
 constructor
 ·intro h
  exact (List.map_inj_right (f:=D.int) (fun a b e=>by cases e; rfl)).mp h
 ·intro h; rw [h]
def Kp (p0 : Nat) (W W' : Wd) : Prop:=W.length ≤ W'.length ∧ ∀ a,a ≠ p0 → a < W.length → W'[a]? = W[a]?
theorem Kp.refl (p0 : Nat) (W : Wd) : Kp p0 W W:=⟨Nat.le_refl _,fun _ _ _=>rfl⟩
theorem Kp.trans {p0 : Nat} {A B C : Wd} (h1 : Kp p0 A B) (h2 : Kp p0 B C) : Kp p0 A C :=
 ⟨Nat.le_trans h1.1 h2.1,fun a ha hl=>(h2.2 a ha (Nat.lt_of_lt_of_le hl h1.1)).trans (h1.2 a ha hl)⟩
theorem Kp.setp (p0 : Nat) (W : Wd) (c : Cell) : Kp p0 W (W.set p0 c):=⟨by simp,fun a ha _=>List.getElem?_set_ne (Ne.symm ha)⟩
theorem Kp.get {p0 : Nat} {W W' : Wd} (h : Kp p0 W W') {a : Nat} {c : Cell} (ha : a ≠ p0) (hc : W[a]? = some c) : W'[a]? = some c:=(h.2 a ha (zZV hc)).trans hc
def PoolK (W0 W : Wd) (p0 : Nat) : Prop:=Pool W p0 ∧ Kp p0 W0 W
theorem xZ7 (n : Nat) (W0 W : Wd) (p : Nat) (z : Int) (h : PoolK W0 W p) (h1 : 0 < z) (h2 : z < 1073741824) : ∃ v W',(cfgN T (n + 1)).call zZA [.own p,.int z] W = .ok (.int v) W' ∧ 0 ≤ v ∧ v < z ∧ PoolK W0 W' p:=by
 obtain ⟨⟨ns,i,a,s,k,b,h,h0⟩,hk⟩:=h
 obtain ⟨v,i',a',s',k',e,q1,q2,q3⟩:=zZHv n W p z ns i a s k b h h0 h1 h2
 exact ⟨v,_,e,q1,q2,⟨ns,i',a',s',k',b,by rw [List.getElem?_set_self (zZV h)],q3⟩,hk.trans (Kp.setp p W _)⟩
theorem Pool.lt {W : Wd} {p0 : Nat} (h : Pool W p0) : p0 < W.length:=by
 obtain ⟨ns,i,a,s,k,b,h,h0⟩:=h
 exact zZV h
theorem Pool.push {W : Wd} {p0 : Nat} (h : Pool W p0) (X : Wd) : Pool (W ++ X) p0:=by
 obtain ⟨ns,i,a,s,k,b,h,h0⟩:=h
 exact ⟨ns,i,a,s,k,b,by rw [List.getElem?_append_left (zZV h)]; exact h,h0⟩
theorem Pool.set {W : Wd} {p0 a : Nat} (h : Pool W p0) (ha : a ≠ p0) (c : Cell) : Pool (W.set a c) p0:=by
 obtain ⟨ns,i,a,s,k,b,h,h0⟩:=h
 exact ⟨ns,i,a,s,k,b,by rw [List.getElem?_set_ne ha]; exact h,h0⟩
/-- a list of numbers,in any form -/
def IsL (W : Wd) (d : D) (es : List Int) : Prop:=d = .lst (es.map .int) ∨ d = .tup (es.map .int) ∨ ∃ c,d = .own c ∧ W[c]? = some (.lst (es.map .int))
theorem zZK5 (n : Nat) (p q : Int) (bs es : List Int) (d : D) (W : Wd) (hd : IsL W d es) (hl : es.length ≤ bs.length) (hb : bs.length ≤ 1000) :
  compR (cfgN T n) (.tup (.cons (.idx (.idx (.var 0) (.int 2)) (.var 2)) (.cons (.idx (.var 1) (.var 2)) .nil))) (.nm 2) .nil [.val (gT p q bs),.val d,.no] (rangeD 0 es.length,false) W = .ok ((bs.zip es).map pairD) W:=by
 have e1 : (bs.zip es).map pairD = (List.range es.length).map fun j=>pairD (bs.getD j 0,es.getD j 0):=by
  apply List.ext_getElem
  ·simp; omega
  ·intro i h1 h2
   simp at h1 h2
   have h3 : i < bs.length:=by omega
   simp [List.getD,h2,h3]
 rw [e1]
 unfold rangeD
 refine yZV _ _ _ (by simp [cap]; omega) fun j hj=>⟨_,rfl, ?_⟩
 rw [List.mem_range] at hj
 show evE _ _ [.val (gT p q bs),.val d,.val (.int (0 + (j : Int)))] W = _
 have a1 : atD (bs.map .int) (.int (j : Int)) = some (.int (bs.getD j 0)):=zZG (by simp [List.getD]; rw [List.getElem?_eq_getElem (by omega)]; simp)
 have a2 : atD (es.map .int) (.int (j : Int)) = some (.int (es.getD j 0)):=zZG (by simp [List.getD]; rw [List.getElem?_eq_getElem (by omega)]; simp)
 rw [Int.zero_add]
 have hc2 : 2 ≤ cap:=by decide
 generalize bs.getD j 0 = x at *
 generalize es.getD j 0 = y at *
 simp only [gT,pairD]
 clear hl e1 hb hj
 rcases hd with rfl | rfl | ⟨c,rfl,hc⟩
 ·walk_at "ev0"
 ·walk_at "ev0"
 ·walk_at "ev0"
theorem zZIt (n : Nat) (p q : Int) (bs es : List Int) (d : D) (W : Wd) (G : GrOk p q) (hd : IsL W d es) (hl : es.length ≤ bs.length) (hb : bs.length ≤ 1000) : (cfgN T (n + 4)).call zZCu [gT p q bs,d] W = .ok (.int (foldP p q (bs.zip es) 1)) W:=by
 have hp:=zZKV n p q bs W G (bs.zip es)
 have hc:=zZK5 (n + 3) p q bs es d W hd hl hb
 have hg : -4611686018427387904 ≤ (es.length : Int) ∧ (es.length : Int) < 4611686018427387904:=by omega
 rw [zZE (F:=yZ9) rfl]
 simp only [gT] at hp hc ⊢
 simp only [yZ9,zZAJ]
 clear hl hb
 rcases hd with rfl | rfl | ⟨c,rfl,hc'⟩
 ·walk_at "ev0"
 ·walk_at "ev0"
 ·walk_at "ev0"
theorem cast0 : ((0 : Nat) : Int) = 0:=rfl
theorem cast1 : ((1 : Nat) : Int) = 1:=rfl
theorem cast2 : ((2 : Nat) : Int) = 2:=rfl
theorem cast3 : ((3 : Nat) : Int) = 3:=rfl
theorem cast4 : ((4 : Nat) : Int) = 4:=rfl
theorem cast5 : ((5 : Nat) : Int) = 5:=rfl
abbrev Kd:=Str × List (Str × Int)
def flD (f : Str × Int) : D:=.tup [.str f.1,.int f.2]
def flsD (fs : List (Str × Int)) : D:=.tup (fs.map flD)
def kT (k : Kd) : D:=.tup [.str k.1,flsD k.2]
def kI (k : Kd) : D:=.ins zZFV [(12,.str k.1),(13,flsD k.2)]
theorem zZKX (n : Nat) (nm : Str) (fs : List (Str × Int)) (d : D) (W : Wd) (hd : d = flsD fs ∨ d = .lst (fs.map flD)) : (cfgN T (n + 1)).init zZFV [.str nm,d] W = .ok [(12,.str nm),(13,flsD fs)] W:=by
 rw [zZAR (F:=yZj) rfl]
 simp only [yZj,xZP,flsD] at *
 rcases hd with rfl | rfl <;> walk_at "ev0"
def kfind (ks : List Kd) (nm : Str) : Option Kd:=ks.find? fun k=>decide (k.1 = nm)
def kopt : Option Kd → D
 | none=>.non
 | some k=>kI k
theorem zZIv (n : Nat) (nm : Str) (s0 : Slot) (W : Wd) : ∀ (ks : List Kd) (z : Slot),∃ z',forL (tgD (.nm 2)) (exS (cfgN T n) ((forsS yZT).getD 0 .skip)) (ks.map kI) [s0,.val (.str nm),z] W =
  (match kfind ks nm with | none=>.ok (.nx [s0,.val (.str nm),z']) W | some k=>.ok (.rt (kI k)) W):=by
 simp only [yZT,forsS,List.getD_cons_zero]
 intro ks
 induction ks with
 | nil=>intro z; exact ⟨z,rfl⟩
 | cons k ks ih =>
  intro z
  obtain ⟨z',h⟩:=ih (.val (kI k))
  refine ⟨z', ?_⟩
  by_cases e : k.1 = nm
  ·have hk : kfind (k :: ks) nm = some k:=by simp [kfind,e]
   rw [hk,List.map_cons,zZD]
   clear ih h
   simp only [kI]
   walk_at "ev0"
  ·have hk : kfind (k :: ks) nm = kfind ks nm:=by simp [kfind,e]
   rw [hk,List.map_cons,zZD]
   clear ih
   simp only [kI] at h ⊢
   walk_at "ev0"
theorem zZJk (n : Nat) (ks : List Kd) (nm : Str) (d : D) (W : Wd) (hd : d = .tup (ks.map kI) ∨ d = .lst (ks.map kI)) : (cfgN T (n + 1)).call zZC0 [d,.str nm] W = .ok (kopt (kfind ks nm)) W:=by
 rw [zZE (F:=xZM) rfl]
 obtain ⟨z',h⟩:=zZIv n nm (.val d) W ks .no
 simp only [yZT,forsS,List.getD_cons_zero] at h
 simp only [xZM,yZT]
 cases hk : kfind ks nm with
 | none =>
  rw [hk] at h
  simp only [kopt]
  rcases hd with rfl | rfl <;> walk_at "ev0"
 | some k =>
  rw [hk] at h
  simp only [kopt]
  rcases hd with rfl | rfl <;> walk_at "ev0"
def fnm (i : Nat) : Str:=([("a" : Str),"b","c","d"]).getD i ""
def knm (i : Nat) : Str:=([("person" : Str),"club"]).getD i ""
/-- what the file's kinds are -/
structure KdOK (m : Int) (i : Nat) (k : Kd) : Prop where
 nm : k.1 = knm i
 le : k.2.length ≤ 4
 fs : ∀ j f,k.2[j]? = some f → f.1 = fnm j ∧ 1 ≤ f.2 ∧ f.2 ≤ m
def KsOK (m : Int) (ks : List Kd) : Prop:=ks.length ≤ 2 ∧ ∀ i k,ks[i]? = some k → KdOK m i k
theorem zZIl (n p0 : Nat) (m : Int) (s2 s3 s4 : Slot) (m0 : 0 < m) (m1 : m ≤ 1000) (W0 : Wd) : ∀ (k i : Nat) (W : Wd),i + k ≤ 4 → PoolK W0 W p0 → ∃ (fs : List (Str × Int)) (W' : Wd),fs.length = k ∧ (∀ j f,fs[j]? = some f → f.1 = fnm (i + j) ∧ 1 ≤ f.2 ∧ f.2 ≤ m) ∧ PoolK W0 W' p0 ∧
  compL (fun d=>tgD (.nm 5) d [.val (.own p0),.val (.int m),s2,s3,s4,.no]) (evTs (cfgN T (n + 1)) .nil) (evE (cfgN T (n + 1)) (.tup (.cons (.idx (.str "abcd") (.var 5)) (.cons (.bin .add (.int 1) (.call zZA (.cons (.var 0) (.cons (.var 1) .nil)))) .nil)))) (rangeD i k) W = .ok (fs.map flD) W':=by
 intro k
 induction k with
 | zero=>intro i W _ hP; exact ⟨[],W,rfl,(fun j f h=>by simp at h),hP,rfl⟩
 | succ k ih =>
  intro i W hi hP
  obtain ⟨v,W1,d1,a1,b1,P1⟩:=xZ7 n W0 W p0 m hP m0 (by omega)
  obtain ⟨fs,W',h1,h2,h3,h4⟩:=ih (i + 1) W1 (by omega) P1
  refine ⟨(fnm i,1 + v) :: fs,W',by simp [h1],fun j f hj => ?_,h3, ?_⟩
  ·cases j with
   | zero =>
    simp at hj
    subst hj
    exact ⟨rfl,by simp only []; omega,by simp only []; omega⟩
   | succ j =>
    have:=h2 j f (by simpa using hj)
    rw [show i + (j + 1) = i + 1 + j by omega]
    exact this
  ·rw [range_succ,List.map_cons]
   have e1 : ((i : Int) + 1) = ((i + 1 : Nat) : Int):=by omega
   rw [e1]
   refine yZZ (e1:=[.val (.own p0),.val (.int m),s2,s3,s4,.val (.int (i : Int))]) rfl xZO ?_ h4
   have hit : items W (.str "abcd") = some [.str "a",.str "b",.str "c",.str "d"]:=by
    show (if ("abcd" : Str).length ≤ cap then some (("abcd" : Str).cps.toList.map fun c=>D.str ⟨#[c]⟩) else none) = _
    rw [if_pos (by decide)]
    rfl
   have hat : atD [D.str "a",.str "b",.str "c",.str "d"] (.int (i : Int)) = some (.str (fnm i)):=by
    have : i = 0 ∨ i = 1 ∨ i = 2 ∨ i = 3:=by omega
    rcases this with rfl | rfl | rfl | rfl <;> rfl
   have hc2 : 2 ≤ cap:=by decide
   clear ih h4 hP P1 hi
   simp only [flD]
   walk_at "ev0"
theorem zZJh (n p0 : Nat) (m : Int) (m0 : 0 < m) (m1 : m ≤ 1000) (W0 : Wd) : ∀ (k i : Nat) (ks : List Kd) (z3 z4 : Slot) (W : Wd),i + k ≤ 2 → ks.length = i → (∀ j x,ks[j]? = some x → KdOK m j x) → PoolK W0 W p0 → ∃ (ks' : List Kd) (z3' z4' : Slot) (W' : Wd),ks'.length = i + k ∧ (∀ j x,ks'[j]? = some x → KdOK m j x) ∧ PoolK W0 W' p0 ∧
  forL (tgD (.nm 3)) (exS (cfgN T (n + 1)) ((forsS yZR).getD 0 .skip)) (rangeD (i : Int) k) [.val (.own p0),.val (.int m),.ol (ks.map kT),z3,z4,.no] W =
   .ok (.nx [.val (.own p0),.val (.int m),.ol (ks'.map kT),z3',z4',.no]) W':=by
 simp only [yZR,forsS,List.getD_cons_zero]
 intro k
 induction k with
 | zero=>intro i ks z3 z4 W _ hl hk hP; exact ⟨ks,z3,z4,W,by omega,hk,hP,rfl⟩
 | succ k ih =>
  intro i ks z3 z4 W hi hl hk hP
  obtain ⟨v,W1,d1,a1,b1,P1⟩:=xZ7 n W0 W p0 5 hP (by omega) (by omega)
  obtain ⟨c,rfl⟩:=Int.eq_ofNat_of_zero_le a1
  obtain ⟨fs,W2,h1,h2,P2,hc⟩:=zZIl n p0 m (.ol (ks.map kT)) (.val (.int (i : Int))) z4 m0 m1 W0 c 0 W1 (by omega) P1
  have e0 : ((0 : Nat) : Int) = 0:=rfl
  rw [e0] at hc
  have hcomp : compR (cfgN T (n + 1)) (.tup (.cons (.idx (.str "abcd") (.var 5)) (.cons (.bin .add (.int 1) (.call zZA (.cons (.var 0) (.cons (.var 1) .nil)))) .nil))) (.nm 5) .nil [.val (.own p0),.val (.int m),.ol (ks.map kT),.val (.int (i : Int)),z4,.no] (rangeD 0 c,false) W1 = .ok (fs.map flD) W2:=by
   rw [yZa (by rw [zZBP]; unfold cap; omega)]
   exact hc
  obtain ⟨ks',z3',z4',W',g1,g2,P',hz⟩:=ih (i + 1) (ks ++ [(knm i,fs)]) (.val (.int (i : Int))) (.val (.lst (fs.map flD))) W2 (by omega) (by simp [hl]) (fun j x hj=>by
   by_cases hji : j < ks.length
   ·rw [List.getElem?_append_left hji] at hj
    exact hk j x hj
   ·rw [List.getElem?_append_right (by omega)] at hj
    have : j - ks.length = 0:=by
     cases q : j - ks.length with
     | zero=>rfl
     | succ _=>rw [q] at hj; simp at hj
    rw [this] at hj
    simp at hj
    subst hj
    have : j = i:=by omega
    subst this
    refine ⟨rfl,by show fs.length ≤ 4; omega,fun j' f hf => ?_⟩
    have:=h2 j' f hf
    rw [Nat.zero_add] at this
    exact this) P2
  refine ⟨ks',z3',z4',W',by omega,g2,P', ?_⟩
  have hat : atD [D.str "person",.str "club"] (.int (i : Int)) = some (.str (knm i)):=by
   have : i = 0 ∨ i = 1:=by omega
   rcases this with rfl | rfl <;> rfl
  have hlen : ((ks.map kT).length) < cap:=by simp; unfold cap; omega
  have hc2 : 2 ≤ cap:=by decide
  have hg : -4611686018427387904 ≤ (c : Int) ∧ (c : Int) < 4611686018427387904:=by omega
  rw [List.map_append] at hz
  rw [range_succ,zZD]
  have e1 : ((i : Int) + 1) = ((i + 1 : Nat) : Int):=by omega
  rw [e1]
  clear ih hk hP P1 P2 P' hc g2 h2 h1 b1
  simp only [kT,flsD,List.map_cons,List.map_nil] at hz ⊢
  walk_at "ev0"
theorem zZJy (n p0 : Nat) (m : Int) (m0 : 0 < m) (m1 : m ≤ 1000) (W0 W : Wd) (hP : PoolK W0 W p0) : ∃ (ks : List Kd) (W' : Wd),1 ≤ ks.length ∧ KsOK m ks ∧ PoolK W0 W' p0 ∧
  (cfgN T (n + 2)).call zZC7 [.own p0,.int m] W = .ok (.lst (ks.map kT)) W':=by
 obtain ⟨v,W1,d1,a1,b1,P1⟩:=xZ7 n W0 W p0 2 hP (by omega) (by omega)
 obtain ⟨ks,z3,z4,W',h1,h2,P',hz⟩:=zZJh n p0 m m0 m1 W0 (1 + v).toNat 0 [] .no .no W1 (by omega) rfl (fun j x h=>by simp at h) P1
 refine ⟨ks,W',by omega,⟨by omega,h2⟩,P', ?_⟩
 have e0 : ((0 : Nat) : Int) = 0:=rfl
 have hg : -4611686018427387904 ≤ 1 + v ∧ 1 + v < 4611686018427387904:=by omega
 have hc0 : 0 ≤ cap:=by decide
 rw [e0] at hz
 rw [zZE (F:=xZd) rfl]
 simp only [yZR,forsS,List.getD_cons_zero,List.map_nil] at hz
 simp only [xZd,yZR]
 clear hP P1 P' h2 a1 b1
 walk_at "ev0"
theorem KsOK.get {m : Int} {ks : List Kd} (h : KsOK m ks) {k : Kd} (hk : k ∈ ks) : ∃ i,ks[i]? = some k ∧ KdOK m i k:=by
 obtain ⟨i,hi⟩:=List.getElem?_of_mem hk
 exact ⟨i,hi,h.2 i k hi⟩
theorem KsOK.find {m : Int} {ks : List Kd} (h : KsOK m ks) {k : Kd} (hk : k ∈ ks) : kfind ks k.1 = some k:=by
 obtain ⟨i,hi,ok⟩:=h.get hk
 have hl:=h.1
 have hi2:=(List.getElem?_eq_some_iff.mp hi).1
 unfold kfind
 match ks,hi,hl,h.2 with
 | [],hi,_,_=>simp at hi
 | [a],hi,_,_ =>
  have : i = 0:=by simp at hi2; omega
  subst this
  simp at hi
  subst hi
  simp
 | [a,b],hi,_,h2 =>
  have : i = 0 ∨ i = 1:=by simp at hi2; omega
  rcases this with rfl | rfl
  ·simp at hi
   subst hi
   simp
  ·simp at hi
   subst hi
   have h0:=(h2 0 a rfl).nm
   have h1:=(h2 1 b rfl).nm
   have : ¬ a.1 = b.1:=by
    rw [h0,h1]
    decide
   simp [this]
 | a :: b :: c :: r,_,hl,_=>simp at hl
theorem zZMk {g : Cfg} {e : Env} {W : Wd} {a : E} : evE g (.b1 .min a) e W = bnd (srcOf a (evE g a) e W) (fun s W=>opt (b1D W .min s) W) .mk:=rfl
theorem zZKK {g : Cfg} {e : Env} {W : Wd} {a : E} : evE g (.b1 .str a) e W = bnd (evE g a e W) (fun x W=>opt (conv .str x) W) .mk:=zZOD rfl
theorem zZI5 {xs ys : List D} {m : Nat} {W : Wd} : addR (.frz xs (.lst ys)) (.cell m) W = bnd (opt (cellO W[m]?) W) (fun zs W=>catR xs zs W) .mk:=by
 show bnd (opt (items W (.cell m)) W) (fun ys W=>if xs.length + ys.length ≤ cap then R.ok (xs ++ ys) W else .st) .mk = _
 rw [yZS]
 rfl
theorem zZKl {n : Nat} {W : Wd} : b1D W .tuple (.cell n) = (cellO W[n]?).map D.tup:=by
 show (items W (.cell n)).map D.tup = _
 rw [yZS]
theorem zZIP (s : Nat) (xs : List D) (d i : D) (e : Env) (W : Wd) : idxR d (.slot s xs) i e W = bnd (opt (setAt xs i d) W) (fun ys W=>.ok (.nx (e.set s (.ol ys))) W) .mk:=rfl
theorem s_te : (("tell" : Str) = "equal") = False:=eq_false (by decide)
theorem s_tl : (("tell" : Str) = "least") = False:=eq_false (by decide)
theorem s_ta : (("tell" : Str) = "among") = False:=eq_false (by decide)
theorem s_ts : (("tell" : Str) = "same") = False:=eq_false (by decide)
theorem s_et : (("equal" : Str) = "tell") = False:=eq_false (by decide)
theorem s_el : (("equal" : Str) = "least") = False:=eq_false (by decide)
theorem s_ea : (("equal" : Str) = "among") = False:=eq_false (by decide)
theorem s_es : (("equal" : Str) = "same") = False:=eq_false (by decide)
theorem s_lt : (("least" : Str) = "tell") = False:=eq_false (by decide)
theorem s_le : (("least" : Str) = "equal") = False:=eq_false (by decide)
theorem s_la : (("least" : Str) = "among") = False:=eq_false (by decide)
theorem s_ls : (("least" : Str) = "same") = False:=eq_false (by decide)
theorem s_at : (("among" : Str) = "tell") = False:=eq_false (by decide)
theorem s_ae : (("among" : Str) = "equal") = False:=eq_false (by decide)
theorem s_al : (("among" : Str) = "least") = False:=eq_false (by decide)
theorem s_as : (("among" : Str) = "same") = False:=eq_false (by decide)
theorem s_st : (("same" : Str) = "tell") = False:=eq_false (by decide)
theorem s_se : (("same" : Str) = "equal") = False:=eq_false (by decide)
theorem s_sl : (("same" : Str) = "least") = False:=eq_false (by decide)
theorem s_sa : (("same" : Str) = "among") = False:=eq_false (by decide)
theorem zZKk (W : Wd) (d : D) : inG false W (.str "least") (.frz [.str "least",.str "among"] d) = some (.bl true):=rfl
theorem zZLK (W : Wd) (d : D) : inG false W (.str "among") (.frz [.str "least",.str "among"] d) = some (.bl true):=rfl
theorem zZKD (W : Wd) (d : D) : inG false W (.str "tell") (.frz [.str "least",.str "among"] d) = some (.bl false):=rfl
theorem zZKt (W : Wd) (d : D) : inG false W (.str "equal") (.frz [.str "least",.str "among"] d) = some (.bl false):=rfl
theorem zZKs (W : Wd) (d : D) : inG false W (.str "same") (.frz [.str "least",.str "among"] d) = some (.bl false):=rfl
def extR (s s2 : Src) (e : Env) (W : Wd) : R Fl:=(opt (items W s) W).bind fun xs W=>match s2 with
  | .frz ys _=>if xs.length + ys.length ≤ cap then putList s (xs ++ ys) e W else .st
  | _=>.st
theorem zZII {g : Cfg} {e : Env} {W : Wd} {a x : E} : exS g (.extend a x) e W = bnd (srcOf a (evE g a) e W) (fun s W=>if !lstSrc W s then .st else bnd (srcOf x (evE g x) e W) (fun s2 W=>extR s s2 e W) .mk) .mk:=rfl
theorem zZIz {e : Env} {W : Wd} {i : Nat} {xs ys : List D} {d : D} (h : xs.length + ys.length ≤ cap) : extR (.slot i xs) (.frz ys d) e W = .ok (.nx (e.set i (.ol (xs ++ ys)))) W:=if_pos h
local macro_rules | `(tactic| walk_at "ev3") => `(tactic| simp -implicitDefEqProofs (disch:=first | assumption | omega | (simp only [List.length_cons,List.length_nil,List.length_append,List.length_map]; done) | (simp only [List.length_cons,List.length_nil,List.length_append,List.length_map,limI,cap]; omega) | decide) only [zZBa,zZCV,zZBe,zZF4,v_bl,zZFJ,zZFp,zZFC,zZE1,v_in,zZCG,v_eq,v_ne,v_lt,v_le,v_gt,v_ge,v_is,zZB9,
 zZFN,zZCP,zZGR,v_or,zZDs,zZGC,zZDm,zZE5,zZGF,zZFm,zZFj,v_sl,zZFl,zZCI,zZFf,zZDP,zZDX,zZDr,zZDH,zZC9,zZFb,zZCE,zZFQ,zZE9,zZFW,zZF2,zZBc,zZCB,zZBu,zZDC,zZCA,zZBB,zZAo,zZFa,zZGS,E.isVar,zZCW,zZAr,zZB5,zZDV,zZCK,zZAz,zZDJ,
 v_of,zZEy,zZDn,zZCy,zZGE,zZDA,zZCl,zZCc,zZBz,zZB0,zZD5,zZFZ,zZB8,zZDh,zZAk,zZCN,zZFG,zZD2,zZF5,zZF7,zZCi,zZGK,zZBr,zZDj,zZAn,zZBC,zZBD,zZBd,zZCg,zZGT,zZAs,zZAE,zZCx,zZAD,xZh,zZDE,zZCz,zZDZ,zZDq,zZC4,zZC3,zZDv,zZC5,xZl,zZE7,zZAV,zZDY,zZDO,
 zZBl,zZBK,yZ4,xZW,zZFy,zZDK,zZCF,zZCJ,zZA8,zZFU,zZF3,zZEu,zZDy,zZE4,zZFL,c_lt,c_le,c_gt,c_ge,zZGD,zZGP,zZFh,zZFz,zZFH,zZFk,zZFE,zZEx,t_bl,zZFT,zZFn,zZEw,zZF0,zZFd,zZFi,zZFS,zZFc,yZS,zZAH,zZF6,zZDD,zZGH,zZFq,k_bl,
 zZD1,zZAy,zZAU,xZF,zZB3,zZBY,zZBs,zZn,Option.bind_some,Option.map_some,List.getElem?_cons_zero,List.getElem?_cons_succ,List.set_cons_zero,List.set_cons_succ,List.map_cons,List.map_nil,List.length_cons,List.length_nil,List.cons_append,List.nil_append,List.replicate,
 decide_eq_true_eq,Int.reduceSub,Int.reduceAdd,Int.reduceNeg,Int.reduceLT,Int.reduceLE,Int.reduceEq,Nat.reduceAdd,Nat.reduceSub,List.getElem?_set,List.length_set,List.length_map,List.set_set,eq_self,Bool.false_eq_true,Int.reduceToNat,Int.toNat_natCast,Int.reducePow,Option.map_some,tyD,decide_true,decide_false,if_true,if_false,Bool.not_true,Bool.not_false,zZB6,zZCO,zZDb,zZAl,zZDF,zZBZ,zZCj,xZ8,xZY,zZCL,zZBx,zZGB,zZB2,zZCT,zZAh,zZAY,zZCS,zZAF,zZDN,zZDg,zZBj,zZAd,zZCR,xZz,zZBq,Option.isNone_none,Option.isNone_some,Nat.reduceEqDiff,Nat.reduceLT,zZBi,xZL,zZAT,zZBt,xZ6,xZ9,zZBo,zZB1,zZGQ,zZCd,zZBb,xZ4,R.calm_ok,zZDR,zZFI,zZDo,zZAS,zZFe,zZC6,zZDd,zZAB,xZ0,zZGO,zZBw,zZB4,zZCh,zZDT,zZCX,zZBk,zZCZ,zZBn,yZq,zZA3,zZF1,zZFu,zZDS,zZDa,zZAG,zZAC,zZDk,zZE0,zZFB,zZCU,zZB7,zZCQ,zZCe,zZBg,zZC1,zZD3,zZA2,zZBH,zZBE,zZAA,zZAw,zZAg,zZCD,zZC2,dk_v,dk_n,zZCb,zZA4,xZ5,zZE6,zZD0,zZDU,zZDi,zZCw,zZCC,zZBA,zZDI,zZBy,zZFD,zZBv,zZCM,zZCk,zZAj,zZBL,zZBI,zZAu,zZAp,zZAm,zZA5,zZAi,zZAb,zZA7,zZAc,zZA9,zZAv,zZA1,zZAW,zZAZ,zZBJ,zZAx,zZBF,zZBG,zZAf,zZGU,zZFY,zZFw,zZF9,zZGN,zZE8,zZMk,zZKK,zZI5,zZKl,zZII,zZIz,Option.map_some,cast0,cast1,cast2,cast3,cast4,cast5,List.append_nil,zZIP,xZF,Int.zero_sub,s_te,s_tl,s_ta,s_ts,s_et,s_el,s_ea,s_es,s_lt,s_le,s_la,s_ls,s_at,s_ae,s_al,s_as,s_st,s_se,s_sl,s_sa,Option.isSome_none,Option.isSome_some,Bool.not_true,Bool.not_false,zZKk,zZLK,zZKD,zZKt,zZKs,Bool.or_false,Bool.or_self,Bool.true_or,Bool.true_eq_false, *])
def forCB : S → S
 | .seq (.forC _ _ _ b) _=>b
 | .seq _ b=>forCB b
 | s=>s
def headS : S → S
 | .seq a _=>a
 | s=>s
def dropS : Nat → S → S
 | n + 1,.seq _ b=>dropS n b
 | _,s=>s
structure Tr3 where
 nm : Str
 ix : Int
 el : Int
def trD (t : Tr3) : D:=.tup [.str t.nm,.int t.ix,.int t.el]
def trsD (l : List Tr3) : D:=.tup (l.map trD)
structure Cd where
 nm : Str
 k : Str
 ns : List Str
def cdD (c : Cd) : D:=.tup [.str c.nm,.str c.k,.tup (c.ns.map .str)]
def mowS (i : Nat) : Str:=([("m" : Str),"o","w"]).getD i ""
/-- a card and one of its values -/
abbrev Pl:=Nat × Nat
def plD (a : Pl) : D:=.tup [.int (a.1 : Int),.int (a.2 : Int)]
def plK (a : Pl) : List Int:=[(a.1 : Int),(a.2 : Int)]
def nmD (a : Pl) : D:=.tup [.str (mowS a.1),.str (fnm a.2)]
inductive Cn where
 | tell (a : Pl)
 | equal (a : Pl) (v : Int)
 | least (a : Pl) (v : Int)
 | among (a : Pl) (vs : List Int)
 | same (a b : Pl)
def cnD : Cn → D
 | .tell a=>.tup [.str "tell",.str (mowS a.1),.str (fnm a.2)]
 | .equal a v=>.tup [.str "equal",.str (mowS a.1),.str (fnm a.2),.int v]
 | .least a v=>.tup [.str "least",.str (mowS a.1),.str (fnm a.2),.int v]
 | .among a vs=>.tup [.str "among",.str (mowS a.1),.str (fnm a.2),.tup (vs.map .int)]
 | .same a b=>.tup [.str "same",.str (mowS a.1),.str (fnm a.2),.str (mowS b.1),.str (fnm b.2)]
/-- a pick: the place of the row,its randomness,the values -/
structure Pk where
 i : Int
 r : Int
 vs : List Int
def pkD (k : Pk) : D:=.tup [.int k.i,.int k.r,.tup (k.vs.map .int)]
structure Sc where
 p : Int
 q : Int
 bs : List Int
 ks : List Kd
 cs : List Cd
 cn : List Cn
 rows : List (List Tr3)
 pk1 : List Pk
 pk2 : List Pk
 s1 : Int
 s2 : Int
/-- where the scene's lists are -/
structure Ad where
 c : Nat
 n : Nat
 r : Nat
 p1 : Nat
 p2 : Nat
def scL (S : Sc) (d : Ad) : List (D × D):=[(.str "group",gT S.p S.q S.bs),(.str "kinds",.lst (S.ks.map kT)),(.str "cards",.own d.c),(.str "conditions",.own d.n),(.str "rows",.own d.r),(.str "picks",.lst [.own d.p1,.own d.p2]),(.str "secrets",.lst [.int S.s1,.int S.s2])]
abbrev scC (S : Sc) (d : Ad) : Cell:=.dct (scL S d)
theorem zZEl (S : Sc) (d : Ad) : lookK (.inr "group") (scL S d) = some (gT S.p S.q S.bs):=rfl
theorem zZA6 (S : Sc) (d : Ad) : lookK (.inr "kinds") (scL S d) = some (.lst (S.ks.map kT)):=rfl
theorem zZ9 (S : Sc) (d : Ad) : lookK (.inr "cards") (scL S d) = some (.own d.c):=rfl
theorem zZEp (S : Sc) (d : Ad) : lookK (.inr "conditions") (scL S d) = some (.own d.n):=rfl
theorem zZCf (S : Sc) (d : Ad) : lookK (.inr "rows") (scL S d) = some (.own d.r):=rfl
theorem zZEb (S : Sc) (d : Ad) : lookK (.inr "picks") (scL S d) = some (.lst [.own d.p1,.own d.p2]):=rfl
theorem zZGL (S : Sc) (d : Ad) : lookK (.inr "secrets") (scL S d) = some (.lst [.int S.s1,.int S.s2]):=rfl
structure ScAt (W : Wd) (a : Nat) (d : Ad) (S : Sc) : Prop where
 sc : W[a]? = some (scC S d)
 c : W[d.c]? = some (.lst (S.cs.map cdD))
 n : W[d.n]? = some (.lst (S.cn.map cnD))
 r : W[d.r]? = some (.lst (S.rows.map trsD))
 p1 : W[d.p1]? = some (.lst (S.pk1.map pkD))
 p2 : W[d.p2]? = some (.lst (S.pk2.map pkD))
/-- the fields of a card -/
def fl (ks : List Kd) (cs : List Cd) (i : Nat) : List (Str × Int):=match cs[i]? with
 | none=>[]
 | some c=>match kfind ks c.k with
  | none=>[]
  | some k=>k.2
def PlOK (ks : List Kd) (cs : List Cd) (a : Pl) : Prop:=a.1 < cs.length ∧ a.2 < (fl ks cs a.1).length
def CnOK (ks : List Kd) (cs : List Cd) : Cn → Prop
 | .tell a=>PlOK ks cs a
 | .equal a v=>PlOK ks cs a ∧ 0 ≤ v ∧ v < 16
 | .least a v=>PlOK ks cs a ∧ 0 ≤ v ∧ v < 16
 | .among a vs=>PlOK ks cs a ∧ vs.length ≤ 16 ∧ ∀ v ∈ vs,0 ≤ v ∧ v < 16
 | .same a b=>PlOK ks cs a ∧ PlOK ks cs b
structure CsOK (ks : List Kd) (cs : List Cd) : Prop where
 kk : KsOK 16 ks
 l0 : 1 ≤ cs.length
 l3 : cs.length ≤ 3
 c : ∀ i c,cs[i]? = some c → c.nm = mowS i ∧ (∃ k ∈ ks,c.k = k.1) ∧ c.ns.length ≤ 3 ∧ ∀ s ∈ c.ns,PySem.PyData.strOk s = true
theorem zZI8 {i j : Nat} (hi : i < 3) (hj : j < 3) (h : mowS i = mowS j) : i = j:=by
 have a : i = 0 ∨ i = 1 ∨ i = 2:=by omega
 have b : j = 0 ∨ j = 1 ∨ j = 2:=by omega
 rcases a with rfl | rfl | rfl <;> rcases b with rfl | rfl | rfl <;> first | rfl | exact absurd h (by decide)
theorem zZJH {i j : Nat} (hi : i < 4) (hj : j < 4) (h : fnm i = fnm j) : i = j:=by
 have a : i = 0 ∨ i = 1 ∨ i = 2 ∨ i = 3:=by omega
 have b : j = 0 ∨ j = 1 ∨ j = 2 ∨ j = 3:=by omega
 rcases a with rfl | rfl | rfl | rfl <;> rcases b with rfl | rfl | rfl | rfl <;> first | rfl | exact absurd h (by decide)
theorem CsOK.kd {ks : List Kd} {cs : List Cd} (K : CsOK ks cs) {i : Nat} (hi : i < cs.length) : ∃ c k,cs[i]? = some c ∧ k ∈ ks ∧ c.nm = mowS i ∧ c.k = k.1 ∧ kfind ks k.1 = some k ∧ fl ks cs i = k.2:=by
 have hc : cs[i]? = some cs[i]:=List.getElem?_eq_getElem hi
 obtain ⟨h1,⟨k,hk,h2⟩,_⟩:=K.c i _ hc
 have hf:=K.kk.find hk
 refine ⟨_,k,hc,hk,h1,h2,hf, ?_⟩
 unfold fl
 rw [hc]
 simp only [h2,hf]
theorem CsOK.fl_le {ks : List Kd} {cs : List Cd} (K : CsOK ks cs) (i : Nat) : (fl ks cs i).length ≤ 4:=by
 by_cases hi : i < cs.length
 ·obtain ⟨c,k,_,hk,_,_,_,h⟩:=K.kd hi
  rw [h]
  obtain ⟨j,_,ok⟩:=K.kk.get hk
  exact ok.le
 ·have : cs[i]? = none:=List.getElem?_eq_none (by omega)
  unfold fl
  rw [this]
  simp
theorem CsOK.fl_get {ks : List Kd} {cs : List Cd} (K : CsOK ks cs) {i j : Nat} {f : Str × Int} (h : (fl ks cs i)[j]? = some f) : f.1 = fnm j ∧ 1 ≤ f.2 ∧ f.2 ≤ 16:=by
 by_cases hi : i < cs.length
 ·obtain ⟨c,k,_,hk,_,_,_,e⟩:=K.kd hi
  rw [e] at h
  obtain ⟨t,_,ok⟩:=K.kk.get hk
  exact ok.fs j f h
 ·have : cs[i]? = none:=List.getElem?_eq_none (by omega)
  unfold fl at h
  rw [this] at h
  simp at h
theorem zZHA {us : List Str} (h : ∀ i j : Nat,i < us.length → j < us.length → us[i]? = us[j]? → i = j) : us.Nodup:=by
 refine List.pairwise_iff_getElem.mpr fun i j hi hj hij e => ?_
 have:=h i j hi hj (by rw [List.getElem?_eq_getElem hi,List.getElem?_eq_getElem hj,e])
 omega
theorem CsOK.nd {ks : List Kd} {cs : List Cd} (K : CsOK ks cs) : (cs.map fun c=>c.nm).Nodup:=by
 have h3:=K.l3
 refine zZHA fun i j hi hj e => ?_
 rw [List.length_map] at hi hj
 obtain ⟨c,_,h1,_,h2,_⟩:=K.kd hi
 obtain ⟨c',_,h1',_,h2',_⟩:=K.kd hj
 rw [List.getElem?_map,List.getElem?_map,h1,h1'] at e
 simp only [Option.map_some,Option.some.injEq] at e
 rw [h2,h2'] at e
 exact zZI8 (by omega) (by omega) e
theorem CsOK.fnd {ks : List Kd} {cs : List Cd} (K : CsOK ks cs) (i : Nat) : ((fl ks cs i).map fun f=>f.1).Nodup:=by
 have h3:=K.fl_le i
 refine zZHA fun j j' hi hj e => ?_
 rw [List.length_map] at hi hj
 have a1 : (fl ks cs i)[j]? = some (fl ks cs i)[j]:=List.getElem?_eq_getElem hi
 have a2 : (fl ks cs i)[j']? = some (fl ks cs i)[j']:=List.getElem?_eq_getElem hj
 rw [List.getElem?_map,List.getElem?_map,a1,a2] at e
 simp only [Option.map_some,Option.some.injEq] at e
 rw [(K.fl_get a1).1,(K.fl_get a2).1] at e
 exact zZJH (by omega) (by omega) e
theorem zZE3 {us : List Str} {j : Nat} {u : Str} (hn : us.Nodup) (h1 : us[j]? = some u) : indexD (.str u) (us.map .str) = some j:=by
 unfold indexD
 rw [zZLC]
 exact zZIU hn h1
theorem CsOK.ixc {ks : List Kd} {cs : List Cd} (K : CsOK ks cs) {i : Nat} (hi : i < cs.length) : indexD (.str (mowS i)) (cs.map fun c=>.str c.nm) = some i:=by
 obtain ⟨c,_,h1,_,h2,_⟩:=K.kd hi
 have : (cs.map fun c=>D.str c.nm) = (cs.map fun c=>c.nm).map .str:=by rw [List.map_map]; rfl
 rw [this]
 refine zZE3 K.nd ?_
 rw [List.getElem?_map,h1,← h2]
 rfl
theorem CsOK.ixf {ks : List Kd} {cs : List Cd} (K : CsOK ks cs) {i j : Nat} (hj : j < (fl ks cs i).length) : indexD (.str (fnm j)) ((fl ks cs i).map fun f=>.str f.1) = some j:=by
 have a1 : (fl ks cs i)[j]? = some (fl ks cs i)[j]:=List.getElem?_eq_getElem hj
 have : ((fl ks cs i).map fun f=>D.str f.1) = ((fl ks cs i).map fun f=>f.1).map .str:=by rw [List.map_map]; rfl
 rw [this]
 refine zZE3 (K.fnd i) ?_
 rw [List.getElem?_map,a1,← (K.fl_get a1).1]
 rfl
/-- the kinds of a name: the one that is found is the first -/
theorem kfilter {ks : List Kd} {k : Kd} (h : kfind ks k.1 = some k) : ∃ r,(ks.filter fun x=>decide (x.1 = k.1)) = k :: r:=by
 unfold kfind at h
 rw [← List.head?_filter] at h
 cases hf : ks.filter fun x=>decide (x.1 = k.1) with
 | nil=>rw [hf] at h; simp at h
 | cons a r =>
  rw [hf] at h
  simp only [List.head?_cons,Option.some.injEq] at h
  exact ⟨r,by rw [h]⟩
theorem zZD6 {ks : List Kd} {cs : List Cd} (_ : CsOK ks cs) {i : Nat} {c : Cd} (h : cs[i]? = some c) : atD (cs.map cdD) (.int (i : Int)) = some (cdD c):=zZG (by rw [List.getElem?_map,h]; rfl)
theorem idx0 (a : D) (r : List D) : atD (a :: r) (.int 0) = some a:=zZG (n:=0) rfl
theorem idx1 (a b : D) (r : List D) : atD (a :: b :: r) (.int 1) = some b:=zZG (n:=1) rfl
theorem idx2 (a b c : D) (r : List D) : atD (a :: b :: c :: r) (.int 2) = some c:=zZG (n:=2) rfl
theorem idx3 (a b c d : D) (r : List D) : atD (a :: b :: c :: d :: r) (.int 3) = some d:=zZG (n:=3) rfl
theorem idx4 (a b c d x : D) (r : List D) : atD (a :: b :: c :: d :: x :: r) (.int 4) = some x:=zZG (n:=4) rfl
theorem xZi (n : Nat) (S : Sc) (d : Ad) (a0 : Nat) (W : Wd) (h : ScAt W a0 d S) (K : CsOK S.ks S.cs) (a : Pl) (ha : PlOK S.ks S.cs a) : (cfgN T (n + 1)).call xZQ [.own a0,nmD a] W = .ok (plD a) W:=by
 obtain ⟨hsc,hc,-,-,-,-⟩:=h
 have lk:=zZA6 S d
 have lc:=zZ9 S d
 simp only [scC] at hsc
 generalize scL S d = SL at *
 obtain ⟨ai,aj⟩:=a
 obtain ⟨h1,h2⟩:=ha
 obtain ⟨c,k,e1,hk,e2,e3,e4,e5⟩:=K.kd h1
 have hl3:=K.l3
 have hkl:=K.kk.1
 have ix1:=K.ixc h1
 have ix2:=K.ixf h2
 have hca:=zZD6 K e1
 have hfl:=K.fl_le ai
 obtain ⟨rk,hfk⟩:=kfilter e4
 simp only [] at *
 rw [e5] at ix2 hfl
 have hc1 : ∀ y0 y1 y2 y3 y5 y6 y7 : Slot,compCR (cfgN T n) (.idx (.var 4) (.int 0)) (.nm 4) .nil [y0,y1,y2,y3,.no,y5,y6,y7] false (d.c,S.cs.map cdD) W = .ok (S.cs.map fun c=>.str c.nm) W:=by
  intro y0 y1 y2 y3 y5 y6 y7
  refine zZFs cdD (fun c=>.str c.nm) S.cs hc (by unfold cap; omega) fun c _=>⟨_,rfl, ?_⟩
  show evE _ _ [y0,y1,y2,y3,.val (cdD c),y5,y6,y7] W = _
  simp only [cdD]
  have:=idx0
  clear hsc hc hca e1
  walk_at "ev3"
 have hc2 : ∀ y1 y4 y6 y7 : Slot,compR (cfgN T n) (.var 3) (.tup (.cons (.nm 5) (.cons (.nm 3) .nil))) (.cons (.cmp .eq (.var 5) (.idx (.idx (.dgc (.var 0) (.str "cards")) (.var 2)) (.int 1))) .nil) [.val (.own a0),y1,.val (.int (ai : Int)),.no,y4,.no,y6,y7] (S.ks.map kT,false) W =
   .ok (flsD k.2 :: rk.map fun k=>flsD k.2) W:=by
  intro y1 y4 y6 y7
  have:=zZm (g:=cfgN T n) (elt:=.var 3) (t:=.tup (.cons (.nm 5) (.cons (.nm 3) .nil))) (ifs:=.cons (.cmp .eq (.var 5) (.idx (.idx (.dgc (.var 0) (.str "cards")) (.var 2)) (.int 1))) .nil) (e:=[.val (.own a0),y1,.val (.int (ai : Int)),.no,y4,.no,y6,y7]) (b:=false) (W:=W) kT (fun k=>flsD k.2) (fun x=>decide (x.1 = k.1)) S.ks (by unfold cap; omega) fun x _=>⟨_,rfl, ?_,fun _=>rfl⟩
  ·rw [this,hfk]
   rfl
  show evTs _ _ [.val (.own a0),y1,.val (.int (ai : Int)),.val (flsD x.2),y4,.val (.str x.1),y6,y7] W = _
  simp only [cdD] at *
  rw [e3] at hca
  generalize S.cs.map cdD = CS at *
  have:=idx1
  clear hc1 e1 e4 ix1 ix2 hfk e2 e3 e5
  walk_at "ev3"
 have hc3 : ∀ y0 y1 y2 y3 y4 y5 : Slot,compR (cfgN T n) (.var 6) (.tup (.cons (.nm 6) (.cons (.nm 7) .nil))) .nil [y0,y1,y2,y3,y4,y5,.no,.no] (k.2.map flD,false) W = .ok (k.2.map fun f=>.str f.1) W:=by
  intro y0 y1 y2 y3 y4 y5
  refine yZV flD (fun f=>.str f.1) k.2 (by unfold cap; omega) fun f _=>⟨_,rfl, ?_⟩
  rfl
 have hi1 : ∀ W d,idxG W (.frz (S.cs.map fun c=>D.str c.nm) d) (.str (mowS ai)) = some (.int (ai : Int)):=fun W d=>by
  show (indexD _ _).map _ = _
  rw [ix1]
  rfl
 have hi2 : ∀ W d,idxG W (.frz (k.2.map fun f=>D.str f.1) d) (.str (fnm aj)) = some (.int (aj : Int)):=fun W d=>by
  show (indexD _ _).map _ = _
  rw [ix2]
  rfl
 have q0:=idx0
 have q1:=idx1
 have hc2' : 2 ≤ cap:=by decide
 rw [zZE (F:=xZX) rfl]
 simp only [xZX,zZBM,nmD,plD,cdD,flsD] at *
 clear e1 e2 e3 e4 e5 ix1 ix2 hfk
 generalize S.cs.map cdD = CS at *
 generalize (S.cs.map fun c=>D.str c.nm) = NS at *
 generalize (k.2.map fun f=>D.str f.1) = FS at *
 generalize k.2.map flD = KF at *
 generalize S.ks.map kT = KT at *
 walk_at "ev3"
def plsN (ks : List Kd) (cs : List Cd) : Nat → List Pl
 | 0=>[]
 | n + 1=>plsN ks cs n ++ (List.range (fl ks cs n).length).map fun j=>(n,j)
def pls (ks : List Kd) (cs : List Cd) : List Pl:=plsN ks cs cs.length
def sz (ks : List Kd) (cs : List Cd) (a : Pl) : Int:=(((fl ks cs a.1)[a.2]?).map fun f=>f.2).getD 0
def szE (ks : List Kd) (cs : List Cd) (a : Pl) : List Int × D:=(plK a,.int (sz ks cs a))
theorem mem_plsN {ks : List Kd} {cs : List Cd} {a : Pl} : ∀ {n : Nat},a ∈ plsN ks cs n ↔ a.1 < n ∧ a.2 < (fl ks cs a.1).length
 | 0=>by simp [plsN]
 | n + 1=>by
  rw [plsN,List.mem_append,mem_plsN]
  obtain ⟨i,j⟩:=a
  simp only [List.mem_map,List.mem_range,Prod.mk.injEq]
  constructor
  ·rintro (⟨h1,h2⟩ | ⟨j',h1,h2,h3⟩)
   ·exact ⟨by omega,h2⟩
   ·subst h2
    subst h3
    exact ⟨by omega,h1⟩
  ·rintro ⟨h1,h2⟩
   by_cases e : i < n
   ·exact .inl ⟨e,h2⟩
   ·have : i = n:=by omega
    subst this
    exact .inr ⟨j,h2,rfl,rfl⟩
theorem mem_pls {ks : List Kd} {cs : List Cd} {a : Pl} : a ∈ pls ks cs ↔ PlOK ks cs a:=mem_plsN
theorem zZCm {ks : List Kd} {cs : List Cd} (K : CsOK ks cs) : ∀ n : Nat,(plsN ks cs n).length ≤ 4 * n
 | 0=>by simp [plsN]
 | n + 1=>by
  have:=zZCm K n
  have:=K.fl_le n
  rw [plsN,List.length_append,List.length_map,List.length_range]
  omega
theorem zZI9 {a b : Pl} (h : plK a = plK b) : a = b:=by
 obtain ⟨a1,a2⟩:=a
 obtain ⟨b1,b2⟩:=b
 simp only [plK,List.cons.injEq,and_true] at h
 rw [show a1 = b1 by omega,show a2 = b2 by omega]
theorem zZJl {k : List Int} {kvs : List (List Int × D)} (h : ∀ p ∈ kvs,p.1 ≠ k) : lookT k kvs = none:=by
 unfold lookT
 rw [List.find?_eq_none.mpr fun p hp=>by simpa using h p hp]
 rfl
theorem zZMX {k : List Int} {d : D} {kvs : List (List Int × D)} (h : ∀ p ∈ kvs,p.1 ≠ k) : putT k d kvs = kvs ++ [(k,d)]:=by
 unfold putT
 rw [zZJl h]
 rfl
def szB : S:=(forsS ((forsS zZ7).getD 0 .skip)).getD 0 .skip
theorem zZJb {ks : List Kd} {cs : List Cd} {i j : Nat} {f : Str × Int} (h : (fl ks cs i)[j]? = some f) : atD ((fl ks cs i).map flD) (.int (j : Int)) = some (flD f):=zZG (by rw [List.getElem?_map,h]; rfl)
theorem zZLV (n : Nat) (ks : List Kd) (cs : List Cd) (K : CsOK ks cs) (i : Nat) (hi : i < 3) (y0 z5 : Slot) (W : Wd) : ∀ (m j : Nat) (z4 : Slot),j + m = (fl ks cs i).length → ∃ z4',
  forL (tgD (.nm 4)) (exS (cfgN T n) szB) (rangeD (j : Int) m) [y0,.od ((plsN ks cs i ++ (List.range j).map fun j=>(i,j)).map (szE ks cs)),.val (.int (i : Int)),.val (flsD (fl ks cs i)),z4,z5] W =
   .ok (.nx [y0,.od ((plsN ks cs (i + 1)).map (szE ks cs)),.val (.int (i : Int)),.val (flsD (fl ks cs i)),z4',z5]) W:=by
 simp only [szB,zZ7,forsS,List.getD_cons_zero]
 intro m
 induction m with
 | zero =>
  intro j z4 hj
  refine ⟨z4, ?_⟩
  have : j = (fl ks cs i).length:=by omega
  subst this
  rfl
 | succ m ih =>
  intro j z4 hj
  obtain ⟨z4',hz⟩:=ih (j + 1) (.val (.int (j : Int))) (by omega)
  refine ⟨z4', ?_⟩
  have hjl : j < (fl ks cs i).length:=by omega
  have hf : (fl ks cs i)[j]? = some (fl ks cs i)[j]:=List.getElem?_eq_getElem hjl
  generalize (fl ks cs i)[j] = f at *
  have hat:=zZJb hf
  have hsz : sz ks cs (i,j) = f.2:=by unfold sz; simp only [hf]; rfl
  have hnew : ∀ p ∈ ((plsN ks cs i ++ (List.range j).map fun j=>(i,j)).map (szE ks cs)),p.1 ≠ [(i : Int),(j : Int)]:=by
   intro p hp e
   obtain ⟨a,ha,rfl⟩:=List.mem_map.mp hp
   have : a = (i,j):=zZI9 e
   subst this
   rcases List.mem_append.mp ha with h | h
   ·have:=(mem_plsN.mp h).1
    simp at this
   ·simp at h
  have hput:=zZMX (d:=.int f.2) hnew
  have e2 : ((plsN ks cs i ++ (List.range j).map fun j=>(i,j)).map (szE ks cs)) ++ [([(i : Int),(j : Int)],D.int f.2)] = (plsN ks cs i ++ (List.range (j + 1)).map fun j=>(i,j)).map (szE ks cs):=by
   have h3 : szE ks cs (i,j) = ([(i : Int),(j : Int)],D.int f.2):=by unfold szE; rw [hsz]; rfl
   simp only [List.range_succ,List.map_append,List.map_cons,List.map_nil,h3,List.append_assoc]
  rw [e2] at hput
  have hlen : ((plsN ks cs i ++ (List.range j).map fun j=>(i,j)).map (szE ks cs)).length < cap:=by
   have h1:=zZCm K i
   have h2:=K.fl_le i
   rw [List.length_map,List.length_append,List.length_map,List.length_range]
   unfold cap
   omega
  have q1:=idx1
  have hc2 : 2 ≤ cap:=by decide
  have e1 : ((j : Int) + 1) = ((j + 1 : Nat) : Int):=by omega
  rw [range_succ,zZD,e1]
  simp only [flsD] at *
  generalize ((plsN ks cs i ++ (List.range j).map fun j=>(i,j)).map (szE ks cs)) = KV at *
  generalize ((plsN ks cs i ++ (List.range (j + 1)).map fun j=>(i,j)).map (szE ks cs)) = KV' at *
  generalize (plsN ks cs (i + 1)).map (szE ks cs) = KV2 at *
  generalize (fl ks cs i).map flD = FL at *
  clear ih hnew e2 hsz hf hjl hj
  simp only [flD] at *
  walk_at "ev3"
theorem zZNt (n : Nat) (S : Sc) (d : Ad) (a0 : Nat) (W : Wd) (h : ScAt W a0 d S) (K : CsOK S.ks S.cs) (i : Nat) (hi : i < S.cs.length) : ∃ r : List D,∀ y1 y3 y4 y5 : Slot,compR (cfgN T n) (.var 3) (.tup (.cons (.nm 5) (.cons (.nm 3) .nil))) (.cons (.cmp .eq (.var 5) (.idx (.idx (.dgc (.var 0) (.str "cards")) (.var 2)) (.int 1))) .nil) [.val (.own a0),y1,.val (.int (i : Int)),y3,y4,y5] (S.ks.map kT,false) W =
   .ok (flsD (fl S.ks S.cs i) :: r) W:=by
 obtain ⟨hsc,hc,-,-,-,-⟩:=h
 have lc:=zZ9 S d
 simp only [scC] at hsc
 generalize scL S d = SL at *
 obtain ⟨c,k,e1,hk,e2,e3,e4,e5⟩:=K.kd hi
 have hkl:=K.kk.1
 have hca:=zZD6 K e1
 obtain ⟨rk,hfk⟩:=kfilter e4
 refine ⟨rk.map fun k=>flsD k.2,fun y1 y3 y4 y5 => ?_⟩
 have:=zZm (g:=cfgN T n) (elt:=.var 3) (t:=.tup (.cons (.nm 5) (.cons (.nm 3) .nil))) (ifs:=.cons (.cmp .eq (.var 5) (.idx (.idx (.dgc (.var 0) (.str "cards")) (.var 2)) (.int 1))) .nil) (e:=[.val (.own a0),y1,.val (.int (i : Int)),y3,y4,y5]) (b:=false) (W:=W) kT (fun k=>flsD k.2) (fun x=>decide (x.1 = k.1)) S.ks (by unfold cap; omega) fun x _=>⟨_,rfl, ?_,fun _=>rfl⟩
 ·rw [this,hfk,e5]
  rfl
 show evTs _ _ [.val (.own a0),y1,.val (.int (i : Int)),.val (flsD x.2),y4,.val (.str x.1)] W = _
 simp only [cdD] at *
 rw [e3] at hca
 generalize S.cs.map cdD = CS at *
 have:=idx1
 clear e1 e4 hfk e2 e3 e5
 walk_at "ev3"
theorem zZMW (n : Nat) (S : Sc) (d : Ad) (a0 : Nat) (W : Wd) (h : ScAt W a0 d S) (K : CsOK S.ks S.cs) : ∀ (m i : Nat) (z2 z3 z4 : Slot),i + m = S.cs.length → ∃ z2' z3' z4',
  forL (tgD (.nm 2)) (exS (cfgN T n) ((forsS zZ7).getD 0 .skip)) (rangeD (i : Int) m) [.val (.own a0),.od ((plsN S.ks S.cs i).map (szE S.ks S.cs)),z2,z3,z4,.no] W =
   .ok (.nx [.val (.own a0),.od ((pls S.ks S.cs).map (szE S.ks S.cs)),z2',z3',z4',.no]) W:=by
 have hl3:=K.l3
 simp only [zZ7,forsS,List.getD_cons_zero]
 intro m
 induction m with
 | zero =>
  intro i z2 z3 z4 hi
  refine ⟨z2,z3,z4, ?_⟩
  have : i = S.cs.length:=by omega
  subst this
  rfl
 | succ m ih =>
  intro i z2 z3 z4 hi
  obtain ⟨r,hcomp⟩:=zZNt n S d a0 W h K i (by omega)
  obtain ⟨w4,hin⟩:=zZLV n S.ks S.cs K i (by omega) (.val (.own a0)) .no W (fl S.ks S.cs i).length 0 z4 (by omega)
  obtain ⟨z2',z3',z4',hz⟩:=ih (i + 1) (.val (.int (i : Int))) (.val (flsD (fl S.ks S.cs i))) w4 (by omega)
  refine ⟨z2',z3',z4', ?_⟩
  obtain ⟨hsc,hc,-,-,-,-⟩:=h
  have lk:=zZA6 S d
  simp only [scC] at hsc
  generalize scL S d = SL at *
  have q0:=idx0
  have e0 : ((0 : Nat) : Int) = 0:=rfl
  have hg : -4611686018427387904 ≤ ((fl S.ks S.cs i).length : Int) ∧ ((fl S.ks S.cs i).length : Int) < 4611686018427387904:=by have:=K.fl_le i; omega
  have e1 : ((i : Int) + 1) = ((i + 1 : Nat) : Int):=by omega
  rw [range_succ,zZD,e1]
  simp only [List.range_zero,List.map_nil,List.append_nil,e0] at hin
  simp only [szB,zZ7,forsS,List.getD_cons_zero] at hin
  generalize (plsN S.ks S.cs i).map (szE S.ks S.cs) = K1 at *
  generalize (plsN S.ks S.cs (i + 1)).map (szE S.ks S.cs) = K2 at *
  generalize (pls S.ks S.cs).map (szE S.ks S.cs) = K3 at *
  simp only [flsD] at *
  have hfl : ((fl S.ks S.cs i).map flD).length = (fl S.ks S.cs i).length:=List.length_map _
  generalize (fl S.ks S.cs i).length = L at *
  generalize (fl S.ks S.cs i).map flD = FL at *
  subst hfl
  clear ih hi
  walk_at "ev3"
theorem zZJT (n : Nat) (S : Sc) (d : Ad) (a0 : Nat) (W : Wd) (h : ScAt W a0 d S) (K : CsOK S.ks S.cs) : (cfgN T (n + 1)).call zZDL [.own a0] W = .ok (.dtt ((pls S.ks S.cs).map (szE S.ks S.cs))) W:=by
 obtain ⟨z2,z3,z4,hz⟩:=zZMW n S d a0 W h K S.cs.length 0 .no .no .no (by omega)
 have hl3:=K.l3
 obtain ⟨hsc,hc,-,-,-,-⟩:=h
 have lc:=zZ9 S d
 simp only [scC] at hsc
 generalize scL S d = SL at *
 have e0 : ((0 : Nat) : Int) = 0:=rfl
 have hg : -4611686018427387904 ≤ (S.cs.length : Int) ∧ (S.cs.length : Int) < 4611686018427387904:=by omega
 rw [zZE (F:=xZf) rfl]
 simp only [plsN,List.map_nil,e0] at hz
 simp only [xZf,zZ7,forsS,List.getD_cons_zero] at *
 have hcl : (S.cs.map cdD).length = S.cs.length:=List.length_map _
 generalize S.cs.length = L at *
 generalize S.cs.map cdD = CS at *
 generalize (pls S.ks S.cs).map (szE S.ks S.cs) = K3 at *
 subst hcl
 walk_at "ev3"
def pv (pk : List Pk) (a : Pl) : Int:=((pk[a.1]?).bind fun k=>k.vs[a.2]?).getD 0
structure PkOK (ks : List Kd) (cs : List Cd) (pk : List Pk) : Prop where
 l : pk.length = cs.length
 v : ∀ i k,pk[i]? = some k → k.vs.length = (fl ks cs i).length ∧ 0 ≤ k.i ∧ k.i < 4 ∧ ∀ j v,k.vs[j]? = some v → 0 ≤ v ∧ v < sz ks cs (i,j)
theorem PkOK.get {ks : List Kd} {cs : List Cd} {pk : List Pk} (P : PkOK ks cs pk) {a : Pl} (h : PlOK ks cs a) : ∃ k,pk[a.1]? = some k ∧ k.vs[a.2]? = some (pv pk a) ∧ 0 ≤ pv pk a ∧ pv pk a < sz ks cs a:=by
 obtain ⟨i,j⟩:=a
 obtain ⟨h1,h2⟩:=h
 simp only [] at h1 h2
 have e1 : pk[i]? = some (pk[i]'(by rw [P.l]; exact h1)):=List.getElem?_eq_getElem _
 generalize pk[i]'(by rw [P.l]; exact h1) = k at *
 obtain ⟨h3,_,_,h4⟩:=P.v i _ e1
 have e2 : k.vs[j]? = some (k.vs[j]'(by omega)):=List.getElem?_eq_getElem _
 generalize k.vs[j]'(by omega) = v at *
 have e3 : pv pk (i,j) = v:=by
  unfold pv
  simp only [e1,Option.bind_some,e2,Option.getD_some]
 rw [e3]
 exact ⟨_,e1,e2,h4 j _ e2⟩
def fdD (S : Sc) (a : Pl) : D:=.tup [nmD a,.int (sz S.ks S.cs a),.lst [.int (pv S.pk1 a),.int (pv S.pk2 a)]]
def fdB : S:=(forsS ((forsS zZr).getD 0 .skip)).getD 0 .skip
theorem zZLx (n : Nat) (S : Sc) (d : Ad) (a0 : Nat) (W : Wd) (h : ScAt W a0 d S) (K : CsOK S.ks S.cs) (P1 : PkOK S.ks S.cs S.pk1) (P2 : PkOK S.ks S.cs S.pk2) (i : Nat) (hi : i < S.cs.length) (z6 : Slot) : ∀ (m j : Nat) (z4 z5 : Slot),j + m = (fl S.ks S.cs i).length → ∃ z4' z5',
  forL (tgD (.nm 4)) (exS (cfgN T n) fdB) (rangeD (j : Int) m) [.val (.own a0),.ol ((plsN S.ks S.cs i ++ (List.range j).map fun j=>(i,j)).map (fdD S)),.val (.int (i : Int)),.val (flsD (fl S.ks S.cs i)),z4,z5,z6,.no] W =
   .ok (.nx [.val (.own a0),.ol ((plsN S.ks S.cs (i + 1)).map (fdD S)),.val (.int (i : Int)),.val (flsD (fl S.ks S.cs i)),z4',z5',z6,.no]) W:=by
 obtain ⟨hsc,hc,-,-,hp1,hp2⟩:=h
 have lc:=zZ9 S d
 have lp:=zZEb S d
 simp only [scC] at hsc
 generalize scL S d = SL at *
 simp only [fdB,zZr,forsS,List.getD_cons_zero]
 intro m
 induction m with
 | zero =>
  intro j z4 z5 hj
  refine ⟨z4,z5, ?_⟩
  have : j = (fl S.ks S.cs i).length:=by omega
  subst this
  rfl
 | succ m ih =>
  intro j z4 z5 hj
  obtain ⟨z4',z5',hz⟩:=ih (j + 1) (.val (.int (j : Int))) (.val (nmD (i,j))) (by omega)
  refine ⟨z4',z5', ?_⟩
  have hjl : j < (fl S.ks S.cs i).length:=by omega
  have hf : (fl S.ks S.cs i)[j]? = some (fl S.ks S.cs i)[j]:=List.getElem?_eq_getElem hjl
  generalize (fl S.ks S.cs i)[j] = f at *
  have hat:=zZJb hf
  have hsz : sz S.ks S.cs (i,j) = f.2:=by unfold sz; simp only [hf]; rfl
  have hfn:=(K.fl_get hf).1
  obtain ⟨k1,b1,b2,_⟩:=P1.get (a:=(i,j)) ⟨hi,hjl⟩
  obtain ⟨k2,c1,c2,_⟩:=P2.get (a:=(i,j)) ⟨hi,hjl⟩
  simp only [] at b1 b2 c1 c2
  obtain ⟨c,_,e1,_,e2,_,_,_⟩:=K.kd hi
  have hca:=zZD6 K e1
  have e3 : ((plsN S.ks S.cs i ++ (List.range j).map fun j=>(i,j)).map (fdD S)) ++ [fdD S (i,j)] = (plsN S.ks S.cs i ++ (List.range (j + 1)).map fun j=>(i,j)).map (fdD S):=by
   simp only [List.range_succ,List.map_append,List.map_cons,List.map_nil,List.append_assoc]
  rw [← e3] at hz
  have hlen : ((plsN S.ks S.cs i ++ (List.range j).map fun j=>(i,j)).map (fdD S)).length < cap:=by
   have h1:=zZCm K i
   have h2:=K.fl_le i
   have h3:=K.l3
   rw [List.length_map,List.length_append,List.length_map,List.length_range]
   unfold cap
   omega
  have hb1 : atD (S.pk1.map pkD) (.int (i : Int)) = some (pkD k1):=zZG (by rw [List.getElem?_map,b1]; rfl)
  have hb2 : atD (S.pk2.map pkD) (.int (i : Int)) = some (pkD k2):=zZG (by rw [List.getElem?_map,c1]; rfl)
  have hv1 : atD (k1.vs.map .int) (.int (j : Int)) = some (.int (pv S.pk1 (i,j))):=zZG (by rw [List.getElem?_map,b2]; rfl)
  have hv2 : atD (k2.vs.map .int) (.int (j : Int)) = some (.int (pv S.pk2 (i,j))):=zZG (by rw [List.getElem?_map,c2]; rfl)
  have hcomp : ∀ y1 y3 y5 y6 : Slot,compR (cfgN T n) (.idx (.idx (.idx (.idx (.dgc (.var 0) (.str "picks")) (.var 7)) (.var 2)) (.int 2)) (.var 4)) (.nm 7) .nil [.val (.own a0),y1,.val (.int (i : Int)),y3,.val (.int (j : Int)),y5,y6,.no] (rangeD 0 2,false) W =
    .ok [.int (pv S.pk1 (i,j)),.int (pv S.pk2 (i,j))] W:=by
   intro y1 y3 y5 y6
   have hr : rangeD 0 2 = [D.int 0,D.int 1]:=rfl
   rw [hr,yZa (by unfold cap; simp)]
   have q0:=idx0
   have q1:=idx1
   have q2:=idx2
   simp only [pkD] at *
   generalize S.pk1.map pkD = PA at *
   generalize S.pk2.map pkD = PB at *
   clear ih hz hat hca
   refine yZZ (e1:=[.val (.own a0),y1,.val (.int (i : Int)),y3,.val (.int (j : Int)),y5,y6,.val (.int 0)]) rfl xZO (W1:=W) ?_ (yZZ (e1:=[.val (.own a0),y1,.val (.int (i : Int)),y3,.val (.int (j : Int)),y5,y6,.val (.int 1)]) rfl xZO (W1:=W) ?_ zZMZ)
   ·walk_at "ev3"
   ·walk_at "ev3"
  have q0:=idx0
  have q1:=idx1
  have hc2 : 2 ≤ cap:=by decide
  have hc3 : 3 ≤ cap:=by decide
  have e1 : ((j : Int) + 1) = ((j + 1 : Nat) : Int):=by omega
  rw [range_succ,zZD,e1]
  obtain ⟨fn,fz⟩:=f
  simp only [] at hfn
  subst hfn
  have hfd : fdD S (i,j) = .tup [nmD (i,j),.int fz,.lst [.int (pv S.pk1 (i,j)),.int (pv S.pk2 (i,j))]]:=by unfold fdD; rw [hsz]
  rw [hfd] at hz
  simp only [flsD,nmD,flD] at *
  generalize ((plsN S.ks S.cs i ++ (List.range j).map fun j=>(i,j)).map (fdD S)) = KV at *
  generalize (plsN S.ks S.cs (i + 1)).map (fdD S) = KV2 at *
  clear ih e3 hsz hf hjl hj b1 b2 c1 c2 hb1 hb2 hv1 hv2 hfd hp1 hp2
  simp only [cdD] at *
  rw [e2] at hca
  generalize (fl S.ks S.cs i).map flD = FL at *
  generalize S.cs.map cdD = CS at *
  clear e2
  walk_at "ev3"
theorem zZMv (n : Nat) (S : Sc) (d : Ad) (a0 : Nat) (W : Wd) (h : ScAt W a0 d S) (K : CsOK S.ks S.cs) (i : Nat) (hi : i < S.cs.length) : ∃ r : List D,∀ y1 y3 y4 y5 y6 y7 : Slot,compR (cfgN T n) (.var 3) (.tup (.cons (.nm 6) (.cons (.nm 3) .nil))) (.cons (.cmp .eq (.var 6) (.idx (.idx (.dgc (.var 0) (.str "cards")) (.var 2)) (.int 1))) .nil) [.val (.own a0),y1,.val (.int (i : Int)),y3,y4,y5,y6,y7] (S.ks.map kT,false) W =
   .ok (flsD (fl S.ks S.cs i) :: r) W:=by
 obtain ⟨hsc,hc,-,-,-,-⟩:=h
 have lc:=zZ9 S d
 simp only [scC] at hsc
 generalize scL S d = SL at *
 obtain ⟨c,k,e1,hk,e2,e3,e4,e5⟩:=K.kd hi
 have hkl:=K.kk.1
 have hca:=zZD6 K e1
 obtain ⟨rk,hfk⟩:=kfilter e4
 refine ⟨rk.map fun k=>flsD k.2,fun y1 y3 y4 y5 y6 y7 => ?_⟩
 have:=zZm (g:=cfgN T n) (elt:=.var 3) (t:=.tup (.cons (.nm 6) (.cons (.nm 3) .nil))) (ifs:=.cons (.cmp .eq (.var 6) (.idx (.idx (.dgc (.var 0) (.str "cards")) (.var 2)) (.int 1))) .nil) (e:=[.val (.own a0),y1,.val (.int (i : Int)),y3,y4,y5,y6,y7]) (b:=false) (W:=W) kT (fun k=>flsD k.2) (fun x=>decide (x.1 = k.1)) S.ks (by unfold cap; omega) fun x _=>⟨_,rfl, ?_,fun _=>rfl⟩
 ·rw [this,hfk,e5]
  rfl
 show evTs _ _ [.val (.own a0),y1,.val (.int (i : Int)),.val (flsD x.2),y4,y5,.val (.str x.1),y7] W = _
 simp only [cdD] at *
 rw [e3] at hca
 generalize S.cs.map cdD = CS at *
 have:=idx1
 clear e1 e4 hfk e2 e3 e5
 walk_at "ev3"
theorem zZMJ (n : Nat) (S : Sc) (d : Ad) (a0 : Nat) (W : Wd) (h : ScAt W a0 d S) (K : CsOK S.ks S.cs) (P1 : PkOK S.ks S.cs S.pk1) (P2 : PkOK S.ks S.cs S.pk2) : ∀ (m i : Nat) (z2 z3 z4 z5 : Slot),i + m = S.cs.length → ∃ z2' z3' z4' z5',
  forL (tgD (.nm 2)) (exS (cfgN T n) ((forsS zZr).getD 0 .skip)) (rangeD (i : Int) m) [.val (.own a0),.ol ((plsN S.ks S.cs i).map (fdD S)),z2,z3,z4,z5,.no,.no] W =
   .ok (.nx [.val (.own a0),.ol ((pls S.ks S.cs).map (fdD S)),z2',z3',z4',z5',.no,.no]) W:=by
 have hl3:=K.l3
 simp only [zZr,forsS,List.getD_cons_zero]
 intro m
 induction m with
 | zero =>
  intro i z2 z3 z4 z5 hi
  refine ⟨z2,z3,z4,z5, ?_⟩
  have : i = S.cs.length:=by omega
  subst this
  rfl
 | succ m ih =>
  intro i z2 z3 z4 z5 hi
  obtain ⟨r,hcomp⟩:=zZMv n S d a0 W h K i (by omega)
  obtain ⟨w4,w5,hin⟩:=zZLx n S d a0 W h K P1 P2 i (by omega) .no (fl S.ks S.cs i).length 0 z4 z5 (by omega)
  obtain ⟨z2',z3',z4',z5',hz⟩:=ih (i + 1) (.val (.int (i : Int))) (.val (flsD (fl S.ks S.cs i))) w4 w5 (by omega)
  refine ⟨z2',z3',z4',z5', ?_⟩
  obtain ⟨hsc,hc,-,-,-,-⟩:=h
  have lk:=zZA6 S d
  simp only [scC] at hsc
  generalize scL S d = SL at *
  have q0:=idx0
  have e0 : ((0 : Nat) : Int) = 0:=rfl
  have hg : -4611686018427387904 ≤ ((fl S.ks S.cs i).length : Int) ∧ ((fl S.ks S.cs i).length : Int) < 4611686018427387904:=by have:=K.fl_le i; omega
  have e1 : ((i : Int) + 1) = ((i + 1 : Nat) : Int):=by omega
  rw [range_succ,zZD,e1]
  simp only [List.range_zero,List.map_nil,List.append_nil,e0] at hin
  simp only [fdB,zZr,forsS,List.getD_cons_zero] at hin
  generalize (plsN S.ks S.cs i).map (fdD S) = K1 at *
  generalize (plsN S.ks S.cs (i + 1)).map (fdD S) = K2 at *
  generalize (pls S.ks S.cs).map (fdD S) = K3 at *
  simp only [flsD] at *
  have hfl : ((fl S.ks S.cs i).map flD).length = (fl S.ks S.cs i).length:=List.length_map _
  generalize (fl S.ks S.cs i).length = L at *
  generalize (fl S.ks S.cs i).map flD = FL at *
  subst hfl
  clear ih hi
  walk_at "ev3"
theorem zZIi (n : Nat) (S : Sc) (d : Ad) (a0 : Nat) (W : Wd) (h : ScAt W a0 d S) (K : CsOK S.ks S.cs) (P1 : PkOK S.ks S.cs S.pk1) (P2 : PkOK S.ks S.cs S.pk2) : (cfgN T (n + 1)).call zZCs [.own a0] W = .ok (.lst ((pls S.ks S.cs).map (fdD S))) W:=by
 obtain ⟨z2,z3,z4,z5,hz⟩:=zZMJ n S d a0 W h K P1 P2 S.cs.length 0 .no .no .no .no (by omega)
 have hl3:=K.l3
 obtain ⟨hsc,hc,-,-,-,-⟩:=h
 have lc:=zZ9 S d
 simp only [scC] at hsc
 generalize scL S d = SL at *
 have e0 : ((0 : Nat) : Int) = 0:=rfl
 have hc0 : 0 ≤ cap:=by decide
 have hg : -4611686018427387904 ≤ (S.cs.length : Int) ∧ (S.cs.length : Int) < 4611686018427387904:=by omega
 rw [zZE (F:=yZ6) rfl]
 simp only [plsN,List.map_nil,e0] at hz
 simp only [yZ6,zZr,forsS,List.getD_cons_zero] at *
 have hcl : (S.cs.map cdD).length = S.cs.length:=List.length_map _
 generalize S.cs.length = L at *
 generalize S.cs.map cdD = CS at *
 generalize (pls S.ks S.cs).map (fdD S) = K3 at *
 subst hcl
 walk_at "ev3"
def polD (cs : List Cd) (cn : List Cn) : D:=.ins zZEf [(28,.tup (cs.map cdD)),(29,.tup (cn.map cnD))]
def qD (p q : Int) (bs : List Int) (ks : List Kd) (cs : List Cd) (cn : List Cn) (rows : List (List Tr3)) : D:=.ins zZCq [(19,gI p q bs),(20,.tup (ks.map kI)),(42,polD cs cn),(43,.tup (rows.map trsD))]
theorem zZJz (n : Nat) (ks : List Kd) (cs : List Cd) (cn : List Cn) (W : Wd) (K : CsOK ks cs) (i : Nat) (hi : i < cs.length) : (cfgN T (n + 1)).call xZq [polD cs cn,.str (mowS i)] W = .ok (.int (i : Int)) W:=by
 have hl3:=K.l3
 have ix:=K.ixc hi
 have hc1 : ∀ y0 y1 : Slot,compR (cfgN T n) (.idx (.var 2) (.int 0)) (.nm 2) .nil [y0,y1,.no] (cs.map cdD,false) W = .ok (cs.map fun c=>.str c.nm) W:=by
  intro y0 y1
  refine yZV cdD (fun c=>.str c.nm) cs (by unfold cap; omega) fun c _=>⟨_,rfl, ?_⟩
  show evE _ _ [y0,y1,.val (cdD c)] W = _
  have q0:=idx0
  clear ix hi K
  simp only [cdD]
  walk_at "ev3"
 have hi1 : ∀ W d,idxG W (.frz (cs.map fun c=>D.str c.nm) d) (.str (mowS i)) = some (.int (i : Int)):=fun W d=>by
  show (indexD _ _).map _ = _
  rw [ix]
  rfl
 rw [zZE (F:=yZv) rfl]
 simp only [yZv,xZo,polD] at *
 clear ix hi
 generalize cs.map cdD = CS at *
 generalize (cs.map fun c=>D.str c.nm) = NS at *
 walk_at "ev3"
theorem zZG1 (n : Nat) (p q : Int) (bs : List Int) (ks : List Kd) (cs : List Cd) (cn : List Cn) (rows : List (List Tr3)) (W : Wd) (K : CsOK ks cs) (i : Nat) (hi : i < cs.length) : ∃ k,fl ks cs i = k.2 ∧ (cfgN T (n + 2)).call xZR [qD p q bs ks cs cn rows,.int (i : Int)] W = .ok (kI k) W:=by
 obtain ⟨c,k,e1,hk,e2,e3,e4,e5⟩:=K.kd hi
 refine ⟨k,e5, ?_⟩
 have hca:=zZD6 K e1
 have k2:=zZJk n ks k.1 (.tup (ks.map kI)) W (.inl rfl)
 rw [e4] at k2
 have ek : kopt (some k) = kI k:=rfl
 rw [ek] at k2
 have q1:=idx1
 rw [zZE (F:=yZk) rfl]
 simp only [yZk,xZU,qD,polD,cdD] at *
 rw [e3] at hca
 generalize cs.map cdD = CS at *
 generalize ks.map kI = KI at *
 generalize kI k = KK at *
 generalize gI p q bs = GI at *
 clear e1 e2 e3 e4 e5
 walk_at "ev3"
theorem yZ3 (n : Nat) (p q : Int) (bs : List Int) (ks : List Kd) (cs : List Cd) (cn : List Cn) (rows : List (List Tr3)) (W : Wd) (K : CsOK ks cs) (a : Pl) (ha : PlOK ks cs a) : (cfgN T (n + 3)).call xZA [qD p q bs ks cs cn rows,.str (mowS a.1),.str (fnm a.2)] W = .ok (plD a) W:=by
 obtain ⟨ai,aj⟩:=a
 obtain ⟨h1,h2⟩:=ha
 simp only [] at h1 h2
 obtain ⟨k,e5,hk⟩:=zZG1 n p q bs ks cs cn rows W K ai h1
 have hp:=zZJz (n + 1) ks cs cn W K ai h1
 have ix2:=K.ixf h2
 have hfl:=K.fl_le ai
 rw [e5] at ix2 hfl
 have hc3 : ∀ y0 y1 y2 y3 : Slot,compR (cfgN T (n + 2)) (.var 4) (.tup (.cons (.nm 4) (.cons (.nm 5) .nil))) .nil [y0,y1,y2,y3,.no,.no] (k.2.map flD,false) W = .ok (k.2.map fun f=>.str f.1) W:=by
  intro y0 y1 y2 y3
  refine yZV flD (fun f=>.str f.1) k.2 (by unfold cap; omega) fun f _=>⟨_,rfl, ?_⟩
  rfl
 have hi2 : ∀ W d,idxG W (.frz (k.2.map fun f=>D.str f.1) d) (.str (fnm aj)) = some (.int (aj : Int)):=fun W d=>by
  show (indexD _ _).map _ = _
  rw [ix2]
  rfl
 have hc2 : 2 ≤ cap:=by decide
 rw [zZE (F:=yZb) rfl]
 simp only [yZb,xZG,qD,polD,plD,kI,flsD] at *
 generalize cs.map cdD = CS at *
 generalize ks.map kI = KI at *
 generalize k.2.map flD = KF at *
 generalize (k.2.map fun f=>D.str f.1) = FS at *
 generalize gI p q bs = GI at *
 clear ix2 e5
 walk_at "ev3"
theorem zZKH (n : Nat) (p q : Int) (bs : List Int) (ks : List Kd) (cs : List Cd) (cn : List Cn) (rows : List (List Tr3)) (W : Wd) (K : CsOK ks cs) (a : Pl) (ha : PlOK ks cs a) : (cfgN T (n + 3)).call xZK [qD p q bs ks cs cn rows,plD a] W = .ok (.int (sz ks cs a)) W:=by
 obtain ⟨ai,aj⟩:=a
 obtain ⟨h1,h2⟩:=ha
 simp only [] at h1 h2
 obtain ⟨k,e5,hk⟩:=zZG1 n p q bs ks cs cn rows W K ai h1
 have hf : (fl ks cs ai)[aj]? = some (fl ks cs ai)[aj]:=List.getElem?_eq_getElem h2
 generalize (fl ks cs ai)[aj] = f at *
 have hat:=zZJb hf
 have hsz : sz ks cs (ai,aj) = f.2:=by unfold sz; simp only [hf]; rfl
 rw [hsz]
 rw [e5] at hat
 have q0:=idx0
 have q1:=idx1
 rw [zZE (F:=yZm) rfl]
 simp only [yZm,xZc,qD,polD,plD,kI,flsD,flD] at *
 generalize cs.map cdD = CS at *
 generalize ks.map kI = KI at *
 generalize (k.2.map flD) = KF at *
 generalize gI p q bs = GI at *
 clear hf hsz e5
 walk_at "ev3"
theorem zZN4 (a b c : D) : cutD [a,b,c] (some 1) (some 3) = [b,c]:=rfl
theorem zZJG (a b c d : D) : cutD [a,b,c,d] (some 1) (some 3) = [b,c]:=rfl
theorem zZNc (a b c d e : D) : cutD [a,b,c,d,e] (some 1) (some 3) = [b,c]:=rfl
theorem zZNb (a b c d e : D) : cutD [a,b,c,d,e] (some 3) (some 5) = [d,e]:=rfl
theorem zZHp (f : Pl → D) : ∀ (l : List Pl) (a : Pl),a ∈ l → lookT (plK a) (l.map fun a=>(plK a,f a)) = some (f a)
 | [],a,h=>by cases h
 | b :: l,a,h=>by
  unfold lookT
  rw [List.map_cons,List.find?_cons]
  by_cases e : plK b = plK a
  ·have:=zZI9 e
   subst this
   simp
  ·have hne : decide ((plK b,f b).1 = plK a) = false:=by simp [e]
   rw [hne]
   have hm : a ∈ l:=by
    rcases List.mem_cons.mp h with rfl | h
    ·exact absurd rfl e
    ·exact h
   have:=zZHp f l a hm
   unfold lookT at this
   exact this
theorem zZNp {ks : List Kd} {cs : List Cd} {a : Pl} (h : PlOK ks cs a) : lookT [(a.1 : Int),(a.2 : Int)] ((pls ks cs).map (szE ks cs)) = some (.int (sz ks cs a)) :=
 zZHp (fun a=>.int (sz ks cs a)) _ a (mem_pls.mpr h)
def cand (ks : List Kd) (cs : List Cd) : Cn → List Int
 | .least a v=>(List.range (sz ks cs a - v).toNat).map fun k : Nat=>v + (k : Int)
 | .among _ vs=>vs
 | .equal _ v=>[v]
 | _=>[]
def cnIn : Cn → Option Pl
 | .least a _=>some a
 | .among a _=>some a
 | _=>none
theorem zZHY {ks : List Kd} {cs : List Cd} (K : CsOK ks cs) {a : Pl} (h : PlOK ks cs a) : 1 ≤ sz ks cs a ∧ sz ks cs a ≤ 16:=by
 obtain ⟨i,j⟩:=a
 obtain ⟨h1,h2⟩:=h
 simp only [] at h1 h2
 have hf : (fl ks cs i)[j]? = some (fl ks cs i)[j]:=List.getElem?_eq_getElem h2
 have:=K.fl_get hf
 unfold sz
 simp only [hf,Option.map_some,Option.getD_some]
 exact this.2
theorem zZHc {ks : List Kd} {cs : List Cd} (K : CsOK ks cs) {c : Cn} (h : CnOK ks cs c) : (cand ks cs c).length ≤ 16:=by
 cases c with
 | least a v =>
  have:=zZHY K h.1
  have:=h.2.1
  simp only [cand,List.length_map,List.length_range]
  omega
 | among a vs=>exact h.2.1
 | equal a v=>simp [cand]
 | tell a=>simp [cand]
 | same a b=>simp [cand]
theorem zZGd (n : Nat) (p q : Int) (bs : List Int) (ks : List Kd) (cs : List Cd) (cn : List Cn) (rows : List (List Tr3)) (W : Wd) (K : CsOK ks cs) (c : Cn) (a : Pl) (hc : CnOK ks cs c) (hi : cnIn c = some a) : (cfgN T (n + 4)).call xZS [qD p q bs ks cs cn rows,cnD c] W = .ok (.lst ((cand ks cs c).map .int)) W:=by
 have q0:=idx0
 have q1:=idx1
 have q2:=idx2
 have q3:=idx3
 have hl:=zZHc K hc
 rw [zZE (F:=yZQ) rfl]
 simp only [yZQ,xZT]
 cases c with
 | least b v =>
  have hp:=yZ3 n p q bs ks cs cn rows W K b hc.1
  have hs:=zZKH n p q bs ks cs cn rows W K b hc.1
  have hz:=zZHY K hc.1
  obtain ⟨v0,v1⟩:=hc.2
  have hg1 : -4611686018427387904 ≤ v ∧ v < 4611686018427387904:=by omega
  have hg2 : -4611686018427387904 ≤ sz ks cs b ∧ sz ks cs b < 4611686018427387904:=by omega
  have hcd : (cand ks cs (.least b v)).map D.int = rangeD v (sz ks cs b - v).toNat:=by
   simp only [cand,List.map_map]
   rfl
  have hrl : (rangeD v (sz ks cs b - v).toNat).length ≤ cap:=by rw [← hcd,List.length_map]; unfold cap; omega
  rw [hcd]
  generalize sz ks cs b = Z at *
  simp only [cnD,qD] at *
  generalize polD cs cn = PD at *
  generalize gI p q bs = GI at *
  generalize ks.map kI = KI at *
  clear hl hcd hi
  walk_at "ev3"
 | among b vs =>
  simp only [cnD,cand,qD]
  walk_at "ev3"
 | equal b v=>cases hi
 | tell b=>cases hi
 | same b b2=>cases hi
theorem zZHw (n : Nat) (S : Sc) (d : Ad) (a0 : Nat) (W : Wd) (h : ScAt W a0 d S) (K : CsOK S.ks S.cs) (c : Cn) (a : Pl) (hc : CnOK S.ks S.cs c) (hi : cnIn c = some a) : (cfgN T (n + 2)).call yZr [.own a0,cnD c] W = .ok (.lst ((cand S.ks S.cs c).map .int)) W:=by
 have q0:=idx0
 have q3:=idx3
 have hl:=zZHc K hc
 rw [zZE (F:=yZG) rfl]
 simp only [yZG,yZw]
 cases c with
 | least b v =>
  have hp:=xZi n S d a0 W h K b hc.1
  have hs:=zZJT n S d a0 W h K
  have hz:=zZHY K hc.1
  have hlk:=zZNp hc.1
  obtain ⟨v0,v1⟩:=hc.2
  have hg1 : -4611686018427387904 ≤ v ∧ v < 4611686018427387904:=by omega
  have hg2 : -4611686018427387904 ≤ sz S.ks S.cs b ∧ sz S.ks S.cs b < 4611686018427387904:=by omega
  have hcd : (cand S.ks S.cs (.least b v)).map D.int = rangeD v (sz S.ks S.cs b - v).toNat:=by
   simp only [cand,List.map_map]
   rfl
  have hrl : (rangeD v (sz S.ks S.cs b - v).toNat).length ≤ cap:=by rw [← hcd,List.length_map]; unfold cap; omega
  rw [hcd]
  have c4:=zZJG
  simp only [cnD,nmD,plD] at *
  generalize (pls S.ks S.cs).map (szE S.ks S.cs) = SZ at *
  generalize sz S.ks S.cs b = Z at *
  clear hl hcd hi h hc
  walk_at "ev3"
 | among b vs =>
  simp only [cnD,cand]
  walk_at "ev3"
 | equal b v=>cases hi
 | tell b=>cases hi
 | same b b2=>cases hi
theorem zZDf {f g : D → Option PyData} : ∀ {xs : List D} {ps : List PyData},(∀ x p,f x = some p → g x = some p) → xs.mapM f = some ps → xs.mapM g = some ps
 | [],ps,_,h=>by simpa using h
 | x :: xs,ps,hf,h=>by
  rw [List.mapM_cons] at h ⊢
  cases hx : f x with
  | none=>rw [hx] at h; simp at h
  | some p =>
   rw [hx] at h
   cases hr : xs.mapM f with
   | none=>rw [hr] at h; simp at h
   | some qs =>
    rw [hr] at h
    rw [hf x p hx,zZDf hf hr]
    exact h
theorem zZJO : ∀ (n : Nat) (x : D) (p : PyData),pd n x = some p → pd (n + 1) x = some p:=by
 intro n
 induction n with
 | zero =>
  intro x p h
  cases x <;> simp only [pd] at h ⊢ <;> first | exact h | cases h
 | succ n ih =>
  intro x p h
  cases x with
  | tup xs =>
   simp only [pd] at h ⊢
   cases hq : xs.mapM (pd n) with
   | none=>rw [hq] at h; simp at h
   | some ps =>
    rw [hq] at h
    rw [zZDf ih hq]
    exact h
  | lst xs =>
   simp only [pd] at h ⊢
   cases hq : xs.mapM (pd n) with
   | none=>rw [hq] at h; simp at h
   | some ps =>
    rw [hq] at h
    rw [zZDf ih hq]
    exact h
  | _=>simp only [pd] at h ⊢ <;> exact h
theorem zZN2 {α : Type} [DecidableEq α] (F : α → D) (hi : ∀ x y,F x = F y → x = y) (hb : ∀ x,nb 59 (F x) = true) (a : α) (l : List α) : indD (F a) (l.map F) = some (decide (a ∈ l)):=by
 obtain ⟨d,hd⟩:=zZD7 59 (F a) (hb a)
 have hd60:=zZJO 59 _ _ hd
 have hall : ∀ L : List α,∃ ds,(L.map F).mapM (pd 59) = some ds ∧ (ds.any fun z=>PySem.PyData.eqv z d) = decide (a ∈ L):=by
  intro L
  induction L with
  | nil=>exact ⟨[],rfl,by simp⟩
  | cons x L ih =>
   obtain ⟨ds,h1,h2⟩:=ih
   obtain ⟨p,hp⟩:=zZD7 59 (F x) (hb x)
   refine ⟨p :: ds, ?_, ?_⟩
   ·rw [List.map_cons,List.mapM_cons,hp,h1]
    rfl
   ·rw [List.any_cons,h2]
    have h3:=zZHs 59 (F x) (F a) p d (hb x) (hb a) hp hd
    rw [Bool.eq_iff_iff,Bool.or_eq_true,h3,decide_eq_true_eq,decide_eq_true_eq,List.mem_cons]
    constructor
    ·rintro (h | h)
     ·exact .inl (hi _ _ h).symm
     ·exact .inr h
    ·rintro (rfl | h)
     ·exact .inl rfl
     ·exact .inr h
 obtain ⟨ds,h1,h2⟩:=hall l
 unfold indD
 rw [hd60,h1]
 show some (ds.any fun z=>PySem.PyData.eqv z d) = _
 rw [h2]
variable {ks : List Kd} {cs : List Cd}
theorem zZJA (i j : Nat) : cmpD .eq (.int (i : Int)) (.int (j : Int)) = some (.bl (decide (i = j))):=by
 have : cmpD .eq (.int (i : Int)) (.int (j : Int)) = some (.bl (decide ((i : Int) = (j : Int)))):=rfl
 rw [this]
 congr 2
 rw [decide_eq_decide]
 omega
def PlS (a : Pl) : Prop:=a.1 < 3 ∧ a.2 < 4
theorem pl_s {ks : List Kd} {cs : List Cd} (K0 : CsOK ks cs) {a : Pl} (ha : PlOK ks cs a) : PlS a:=by
 have h1:=ha.1
 have h2:=ha.2
 have h3:=K0.l3
 have h4:=K0.fl_le a.1
 exact ⟨by omega,by omega⟩
theorem zZKf : ∀ (r : List Int) (m : Int),minI m r ≤ m ∧ ∀ x ∈ r,minI m r ≤ x
 | [],m=>by simp [minI]
 | y :: r,m=>by
  have h:=zZKf r (if y < m then y else m)
  have h1 : (if y < m then y else m) ≤ m:=by split <;> omega
  have h2 : (if y < m then y else m) ≤ y:=by split <;> omega
  have e : minI m (y :: r) = minI (if y < m then y else m) r:=rfl
  rw [e]
  refine ⟨by omega,fun x hx => ?_⟩
  rcases List.mem_cons.mp hx with rfl | hx
  ·omega
  ·exact h.2 x hx
theorem zZG7 : ∀ xs : List Int,intsD (xs.map .int) = some xs
 | []=>rfl
 | x :: xs=>by simp [intsD,zZG7 xs]
theorem zZOP (W : Wd) (m : Int) (r : List Int) (ys : List D) : b1D W .min (.frz (.int m :: r.map .int) (.lst ys)) = some (.int (minI m r)):=by
 show (intsD ((m :: r).map D.int)).bind _ = _
 rw [zZG7]
 rfl
theorem gset {W : Wd} {i j : Nat} {c c' : Cell} (h : W[j]? = some c) (hne : i ≠ j) : (W.set i c')[j]? = some c:=by
 rw [List.getElem?_set_ne hne]
 exact h
theorem gself {W : Wd} {i : Nat} {c c' : Cell} (h : W[i]? = some c) : (W.set i c')[i]? = some c':=List.getElem?_set_self (zZV h)
theorem gpush {W X : Wd} {j : Nat} {c : Cell} (h : W[j]? = some c) : (W ++ X)[j]? = some c:=by
 rw [List.getElem?_append_left (zZV h)]
 exact h
structure AdN (p0 a : Nat) (d : Ad) : Prop where
 h1 : p0 < d.c
 h2 : d.c < d.r
 h3 : d.r < d.p1
 h4 : d.p1 < d.p2
 h5 : d.p2 < a
 h6 : d.c < d.n
 h7 : d.n ≠ d.r ∧ d.n ≠ d.p1 ∧ d.n ≠ d.p2 ∧ d.n ≠ a
structure ScP (p0 : Nat) (W : Wd) (a : Nat) (d : Ad) (S : Sc) : Prop where
 pool : Pool W p0
 ad : AdN p0 a d
 at_ : ScAt W a d S
/-- a cell that is none of the scene's -/
structure Out (p0 a : Nat) (d : Ad) (x : Nat) : Prop where
 o : x ≠ p0 ∧ x ≠ a ∧ x ≠ d.c ∧ x ≠ d.n ∧ x ≠ d.r ∧ x ≠ d.p1 ∧ x ≠ d.p2
theorem ScAt.kp {p0 a : Nat} {d : Ad} {S : Sc} {W W' : Wd} (h : ScAt W a d S) (A : AdN p0 a d) (hk : Kp p0 W W') : ScAt W' a d S:=by
 obtain ⟨h1,h2,h3,h4,h5,h6,h7⟩:=A
 exact ⟨hk.get (by omega) h.sc,hk.get (by omega) h.c,hk.get (by omega) h.n,hk.get (by omega) h.r,hk.get (by omega) h.p1,hk.get (by omega) h.p2⟩
theorem ScP.kp {p0 a : Nat} {d : Ad} {S : Sc} {W W' : Wd} (h : ScP p0 W a d S) (hp : PoolK W W' p0) : ScP p0 W' a d S:=⟨hp.1,h.ad,h.at_.kp h.ad hp.2⟩
theorem ScP.push {p0 a : Nat} {d : Ad} {S : Sc} {W : Wd} (h : ScP p0 W a d S) (X : Wd) : ScP p0 (W ++ X) a d S :=
 ⟨h.pool.push X,h.ad,⟨gpush h.at_.sc,gpush h.at_.c,gpush h.at_.n,gpush h.at_.r,gpush h.at_.p1,gpush h.at_.p2⟩⟩
theorem ScP.setO {p0 a : Nat} {d : Ad} {S : Sc} {W : Wd} (h : ScP p0 W a d S) {x : Nat} (o : Out p0 a d x) (c : Cell) : ScP p0 (W.set x c) a d S:=by
 obtain ⟨o1,o2,o3,o4,o5,o6,o7⟩:=o.o
 exact ⟨h.pool.set o1 c,h.ad,⟨gset h.at_.sc o2,gset h.at_.c o3,gset h.at_.n o4,gset h.at_.r o5,gset h.at_.p1 o6,gset h.at_.p2 o7⟩⟩
theorem ScP.setC {p0 a : Nat} {d : Ad} {S : Sc} {W : Wd} (h : ScP p0 W a d S) (cs : List Cd) : ScP p0 (W.set d.c (.lst (cs.map cdD))) a d { S with cs:=cs }:=by
 obtain ⟨h1,h2,h3,h4,h5,h6,h7⟩:=h.ad
 exact ⟨h.pool.set (by omega) _,h.ad,⟨gset h.at_.sc (by omega),gself h.at_.c,gset h.at_.n (by omega),gset h.at_.r (by omega),gset h.at_.p1 (by omega),gset h.at_.p2 (by omega)⟩⟩
theorem ScP.setN {p0 a : Nat} {d : Ad} {S : Sc} {W : Wd} (h : ScP p0 W a d S) (cn : List Cn) : ScP p0 (W.set d.n (.lst (cn.map cnD))) a d { S with cn:=cn }:=by
 obtain ⟨h1,h2,h3,h4,h5,h6,h7⟩:=h.ad
 exact ⟨h.pool.set (by omega) _,h.ad,⟨gset h.at_.sc (by omega),gset h.at_.c (by omega),gself h.at_.n,gset h.at_.r (by omega),gset h.at_.p1 (by omega),gset h.at_.p2 (by omega)⟩⟩
theorem ScP.setR {p0 a : Nat} {d : Ad} {S : Sc} {W : Wd} (h : ScP p0 W a d S) (rows : List (List Tr3)) : ScP p0 (W.set d.r (.lst (rows.map trsD))) a d { S with rows:=rows }:=by
 obtain ⟨h1,h2,h3,h4,h5,h6,h7⟩:=h.ad
 exact ⟨h.pool.set (by omega) _,h.ad,⟨gset h.at_.sc (by omega),gset h.at_.c (by omega),gset h.at_.n (by omega),gself h.at_.r,gset h.at_.p1 (by omega),gset h.at_.p2 (by omega)⟩⟩
theorem ScP.setP1 {p0 a : Nat} {d : Ad} {S : Sc} {W : Wd} (h : ScP p0 W a d S) (pk : List Pk) : ScP p0 (W.set d.p1 (.lst (pk.map pkD))) a d { S with pk1:=pk }:=by
 obtain ⟨h1,h2,h3,h4,h5,h6,h7⟩:=h.ad
 exact ⟨h.pool.set (by omega) _,h.ad,⟨gset h.at_.sc (by omega),gset h.at_.c (by omega),gset h.at_.n (by omega),gset h.at_.r (by omega),gself h.at_.p1,gset h.at_.p2 (by omega)⟩⟩
theorem ScP.setP2 {p0 a : Nat} {d : Ad} {S : Sc} {W : Wd} (h : ScP p0 W a d S) (pk : List Pk) : ScP p0 (W.set d.p2 (.lst (pk.map pkD))) a d { S with pk2:=pk }:=by
 obtain ⟨h1,h2,h3,h4,h5,h6,h7⟩:=h.ad
 exact ⟨h.pool.set (by omega) _,h.ad,⟨gset h.at_.sc (by omega),gset h.at_.c (by omega),gset h.at_.n (by omega),gset h.at_.r (by omega),gset h.at_.p1 (by omega),gself h.at_.p2⟩⟩
theorem zZI (n : Nat) {p0 a : Nat} {d : Ad} {S : Sc} {W : Wd} (z : Int) (h : ScP p0 W a d S) (h1 : 0 < z) (h2 : z < 1073741824) : ∃ v W',(cfgN T (n + 1)).call zZA [.own p0,.int z] W = .ok (.int v) W' ∧ 0 ≤ v ∧ v < z ∧ PoolK W W' p0 ∧ ScP p0 W' a d S:=by
 obtain ⟨v,W',e,a1,a2,hp⟩:=xZ7 n W W p0 z ⟨h.pool,Kp.refl p0 W⟩ h1 h2
 exact ⟨v,W',e,a1,a2,hp,h.kp hp⟩
theorem zZLE (n p0 : Nat) (p q : Int) (bs : List Int) (c : D) (G : GrOk p q) (W0 : Wd) : ∀ (k : Nat) (i : Int) (W : Wd),PoolK W0 W p0 → ∃ (ns : List Int) (W' : Wd),ns.length = k ∧ (∀ x ∈ ns,0 ≤ x ∧ x < q) ∧ PoolK W0 W' p0 ∧
  compL (fun d=>tgD (.nm 3) d [.val (.own p0),.val (gT p q bs),.val c,.no]) (evTs (cfgN T (n + 1)) .nil) (evE (cfgN T (n + 1)) (.call zZA (.cons (.var 0) (.cons (.idx (.var 1) (.int 1)) .nil)))) (rangeD i k) W = .ok (ns.map .int) W':=by
 intro k
 induction k with
 | zero=>intro i W hP; exact ⟨[],W,rfl,by simp,hP,rfl⟩
 | succ k ih =>
  intro i W hP
  have q1:=G.q1
  have q2:=G.q2
  obtain ⟨v,W1,d1,a1,b1,P1⟩:=xZ7 n W0 W p0 q hP (by omega) (by omega)
  obtain ⟨ns,W',h1,h2,h3,h4⟩:=ih (i + 1) W1 P1
  refine ⟨v :: ns,W',by simp [h1],fun x hx => ?_,h3, ?_⟩
  ·rcases List.mem_cons.mp hx with rfl | hx
   ·exact ⟨a1,b1⟩
   ·exact h2 x hx
  ·rw [range_succ,List.map_cons]
   refine yZZ (e1:=[.val (.own p0),.val (gT p q bs),.val c,.val (.int i)]) rfl xZO ?_ h4
   clear ih h4 hP P1
   simp only [gT]
   walk_at "ev3"
theorem zZH4 (n p0 : Nat) (p q : Int) (bs : List Int) (c : Int) (W : Wd) (G : GrOk p q) (hP : Pool W p0) (h0 : 0 ≤ c) (h1 : c ≤ 1000) : ∃ (ns : List Int) (W' : Wd),ns.length = c.toNat ∧ (∀ x ∈ ns,0 ≤ x ∧ x < q) ∧ PoolK W W' p0 ∧
  (cfgN T (n + 2)).call xZj [.own p0,gT p q bs,.int c] W = .ok (.lst (ns.map .int)) W':=by
 obtain ⟨ns,W',e1,e2,e3,e4⟩:=zZLE n p0 p q bs (.int c) G W c.toNat 0 W ⟨hP,Kp.refl p0 W⟩
 refine ⟨ns,W',e1,e2,e3, ?_⟩
 rw [zZE (F:=yZx) rfl]
 have hg : -4611686018427387904 ≤ c ∧ c < 4611686018427387904:=by omega
 have hl : (rangeD 0 c.toNat).length ≤ cap:=by rw [zZBP]; unfold cap; omega
 have hc:=yZa (g:=cfgN T (n + 1)) (elt:=.call zZA (.cons (.var 0) (.cons (.idx (.var 1) (.int 1)) .nil))) (t:=.nm 3) (ifs:=.nil) (e:=[.val (.own p0),.val (gT p q bs),.val (.int c),.no]) (b:=false) (W:=W) hl
 have hw : wipeE [Slot.val (.own p0),.val (gT p q bs),.val (.int c),.no] (tgN (.nm 3)) = [Slot.val (.own p0),.val (gT p q bs),.val (.int c),.no]:=rfl
 rw [hw,e4] at hc
 clear hP e3 e4 hl hw e2
 simp only [yZx,xZp]
 walk_at "ev3"
theorem zZNk (n p0 a : Nat) (d : Ad) (S : Sc) (n1 n2 : Nat) (o1 : Out p0 a d n1) (o2 : Out p0 a d n2) (h12 : n1 ≠ n2) (y2 y3 y4 y6 y7 y8 y9 y10 y15 y16 y17 : Slot) : ∀ (fs : List (Str × Int)) (xs ys : List Int) (W : Wd) (z11 z12 z13 z14 : Slot),(∀ f ∈ fs,1 ≤ f.2 ∧ f.2 ≤ 1000) → ScP p0 W a d S → W[n1]? = some (.lst (xs.map .int)) → W[n2]? = some (.lst (ys.map .int)) → xs.length + fs.length ≤ 1000 → ys.length + fs.length ≤ 1000 → ∃ (xs' ys' : List Int) (W' : Wd) (z11' z12' z13' z14' : Slot),xs'.length = fs.length ∧ ys'.length = fs.length ∧ (∀ (j : Nat) (f : Str × Int) (x : Int),fs[j]? = some f → xs'[j]? = some x → 0 ≤ x ∧ x < f.2) ∧ (∀ (j : Nat) (f : Str × Int) (x : Int),fs[j]? = some f → ys'[j]? = some x → 0 ≤ x ∧ x < f.2) ∧ ScP p0 W' a d S ∧ W'[n1]? = some (.lst ((xs ++ xs').map .int)) ∧ W'[n2]? = some (.lst ((ys ++ ys').map .int)) ∧
  forL (tgD (.tup (.cons (.nm 11) (.cons (.nm 12) .nil)))) (exS (cfgN T (n + 1)) ((forsS zZa).getD 0 .skip)) (fs.map flD) [.val (.own p0),.val (.own a),y2,y3,y4,.val (.lst [.own n1,.own n2]),y6,y7,y8,y9,y10,z11,z12,z13,z14,y15,y16,y17] W =
   .ok (.nx [.val (.own p0),.val (.own a),y2,y3,y4,.val (.lst [.own n1,.own n2]),y6,y7,y8,y9,y10,z11',z12',z13',z14',y15,y16,y17]) W':=by
 have q0:=idx0
 have q1:=idx1
 obtain ⟨o11,-⟩:=o1.o
 obtain ⟨o21,-⟩:=o2.o
 simp only [zZa,forsS,List.getD_cons_zero]
 intro fs
 induction fs with
 | nil=>intro xs ys W z11 z12 z13 z14 _ h g1 g2 _ _; exact ⟨[],[],W,z11,z12,z13,z14,rfl,rfl,(fun j f x h=>by simp at h),(fun j f x h=>by simp at h),h,by rw [List.append_nil]; exact g1,by rw [List.append_nil]; exact g2,rfl⟩
 | cons f fs ih =>
  intro xs ys W z11 z12 z13 z14 hf h g1 g2 l1 l2
  obtain ⟨f1,f2⟩:=hf f List.mem_cons_self
  rw [List.length_cons] at l1 l2
  obtain ⟨v1,W1,e1,a1,b1,P1,h1⟩:=zZI n f.2 h (by omega) (by omega)
  obtain ⟨v2,W2,e2,a2,b2,P2,h2⟩:=zZI n 2 h1 (by omega) (by omega)
  have g1':=P2.2.get o11 (P1.2.get o11 g1)
  have g2':=P2.2.get o21 (P1.2.get o21 g2)
  have c1 : (xs.map D.int).length < cap:=by rw [List.length_map]; unfold cap; omega
  have c2 : (ys.map D.int).length < cap:=by rw [List.length_map]; unfold cap; omega
  have e0 : ∀ (zs : List Int) (v : Int),zs.map D.int ++ [.int v] = (zs ++ [v]).map .int:=fun zs v=>by rw [List.map_append]; rfl
  by_cases hv : v2 = 0
  ·-- both draw
   obtain ⟨v3,W3,e3,a3,b3,P3,h3⟩:=zZI n f.2 h2 (by omega) (by omega)
   have g1'':=P3.2.get o11 g1'
   have g2'':=P3.2.get o21 g2'
   have s1:=h3.setO o1 (.lst ((xs ++ [v1]).map .int))
   have k2 : (W3.set n1 (.lst ((xs ++ [v1]).map .int)))[n2]? = some (.lst (ys.map .int)):=gset g2'' h12
   have s2:=s1.setO o2 (.lst ((ys ++ [v3]).map .int))
   have m1 : ((W3.set n1 (.lst ((xs ++ [v1]).map .int))).set n2 (.lst ((ys ++ [v3]).map .int)))[n1]? = some (.lst ((xs ++ [v1]).map .int)):=gset (gself g1'') (Ne.symm h12)
   have m2 : ((W3.set n1 (.lst ((xs ++ [v1]).map .int))).set n2 (.lst ((ys ++ [v3]).map .int)))[n2]? = some (.lst ((ys ++ [v3]).map .int)):=gself k2
   obtain ⟨xs',ys',W',x11,x12,x13,x14,r1,r2,r3,r4,r5,r6,r7,hz⟩:=ih (xs ++ [v1]) (ys ++ [v3]) _ (.val (.str f.1)) (.val (.int f.2)) (.val (.int v1)) (.val (.int v3)) (fun g hg=>hf g (List.mem_cons_of_mem _ hg)) s2 m1 m2 (by rw [List.length_append,List.length_singleton]; omega) (by rw [List.length_append,List.length_singleton]; omega)
   refine ⟨v1 :: xs',v3 :: ys',W',x11,x12,x13,x14,by simp [r1],by simp [r2], ?_, ?_,r5,by simpa using r6,by simpa using r7, ?_⟩
   ·intro j g x hg hx
    cases j with
    | zero=>simp at hg hx; subst hg; subst hx; exact ⟨a1,b1⟩
    | succ j=>exact r3 j g x (by simpa using hg) (by simpa using hx)
   ·intro j g x hg hx
    cases j with
    | zero=>simp at hg hx; subst hg; subst hx; exact ⟨a3,b3⟩
    | succ j=>exact r4 j g x (by simpa using hg) (by simpa using hx)
   ·rw [← hz,List.map_cons,zZD]
    rw [← e0 xs v1] at k2
    have hL1:=yZM g1''
    have hL2:=yZM k2
    simp only [← e0 xs v1,← e0 ys v3]
    clear ih hz h h1 h2 h3 P1 P2 P3 s1 s2 m1 m2 r5 r6 r7 g1 g2 g1' g2' e0 hf
    subst hv
    simp only [flD] at *
    generalize xs.map D.int = XD at *
    generalize ys.map D.int = YD at *
    walk_at "ev3"
  ·have s1:=h2.setO o1 (.lst ((xs ++ [v1]).map .int))
   have k2 : (W2.set n1 (.lst ((xs ++ [v1]).map .int)))[n2]? = some (.lst (ys.map .int)):=gset g2' h12
   have s2:=s1.setO o2 (.lst ((ys ++ [v1]).map .int))
   have m1 : ((W2.set n1 (.lst ((xs ++ [v1]).map .int))).set n2 (.lst ((ys ++ [v1]).map .int)))[n1]? = some (.lst ((xs ++ [v1]).map .int)):=gset (gself g1') (Ne.symm h12)
   have m2 : ((W2.set n1 (.lst ((xs ++ [v1]).map .int))).set n2 (.lst ((ys ++ [v1]).map .int)))[n2]? = some (.lst ((ys ++ [v1]).map .int)):=gself k2
   obtain ⟨xs',ys',W',x11,x12,x13,x14,r1,r2,r3,r4,r5,r6,r7,hz⟩:=ih (xs ++ [v1]) (ys ++ [v1]) _ (.val (.str f.1)) (.val (.int f.2)) (.val (.int v1)) (.val (.int v1)) (fun g hg=>hf g (List.mem_cons_of_mem _ hg)) s2 m1 m2 (by rw [List.length_append,List.length_singleton]; omega) (by rw [List.length_append,List.length_singleton]; omega)
   refine ⟨v1 :: xs',v1 :: ys',W',x11,x12,x13,x14,by simp [r1],by simp [r2], ?_, ?_,r5,by simpa using r6,by simpa using r7, ?_⟩
   ·intro j g x hg hx
    cases j with
    | zero=>simp at hg hx; subst hg; subst hx; exact ⟨a1,b1⟩
    | succ j=>exact r3 j g x (by simpa using hg) (by simpa using hx)
   ·intro j g x hg hx
    cases j with
    | zero=>simp at hg hx; subst hg; subst hx; exact ⟨a1,b1⟩
    | succ j=>exact r4 j g x (by simpa using hg) (by simpa using hx)
   ·rw [← hz,List.map_cons,zZD]
    rw [← e0 xs v1] at k2
    have hL1:=yZM g1'
    have hL2:=yZM k2
    simp only [← e0 xs v1,← e0 ys v1]
    clear ih hz h h1 h2 P1 P2 s1 s2 m1 m2 r5 r6 r7 g1 g2 e0 hf
    simp only [flD] at *
    generalize xs.map D.int = XD at *
    generalize ys.map D.int = YD at *
    walk_at "ev3"
local macro_rules | `(tactic| walk_at "ev4") => `(tactic| simp -implicitDefEqProofs (disch:=first | assumption | omega | (simp only [List.length_cons,List.length_nil,List.length_append,List.length_map]; done) | (simp only [List.length_cons,List.length_nil,List.length_append,List.length_map,limI,cap]; omega) | decide) only [zZBa,zZCV,zZBe,zZF4,v_bl,zZFJ,zZFp,zZFC,zZE1,v_in,zZCG,v_eq,v_ne,v_lt,v_le,v_gt,v_ge,v_is,zZB9,
 zZFN,zZCP,zZGR,v_or,zZDs,zZGC,zZDm,zZE5,zZGF,zZFm,zZFj,v_sl,zZFl,zZCI,zZFf,zZDP,zZDX,zZDr,zZDH,zZC9,zZFb,zZCE,zZFQ,zZE9,zZFW,zZF2,zZBc,zZCB,zZBu,zZDC,zZCA,zZBB,zZAo,zZFa,zZGS,E.isVar,zZCW,zZAr,zZB5,zZDV,zZCK,zZAz,zZDJ,
 v_of,zZEy,zZDn,zZCy,zZGE,zZDA,zZCl,zZCc,zZBz,zZB0,zZD5,zZFZ,zZB8,zZDh,zZAk,zZCN,zZFG,zZD2,zZF5,zZF7,zZCi,zZGK,zZBr,zZDj,zZAn,zZBC,zZBD,zZBd,zZCg,zZGT,zZAs,zZAE,zZCx,zZAD,xZh,zZDE,zZCz,zZDZ,zZDq,zZC4,zZC3,zZDv,zZC5,xZl,zZE7,zZAV,zZDY,zZDO,
 zZBl,zZBK,yZ4,xZW,zZFy,zZDK,zZCF,zZCJ,zZA8,zZFU,zZF3,zZEu,zZDy,zZE4,zZFL,c_lt,c_le,c_gt,c_ge,zZGD,zZGP,zZFh,zZFz,zZFH,zZFk,zZFE,zZEx,t_bl,zZFT,zZFn,zZEw,zZF0,zZFd,zZFi,zZFS,zZFc,yZS,zZAH,zZF6,zZDD,zZGH,zZFq,k_bl,
 zZD1,zZAy,zZAU,xZF,zZB3,zZBY,zZBs,zZn,Option.bind_some,Option.map_some,List.getElem?_cons_zero,List.getElem?_cons_succ,List.set_cons_zero,List.set_cons_succ,List.map_cons,List.map_nil,List.length_cons,List.length_nil,List.cons_append,List.nil_append,List.replicate,
 decide_eq_true_eq,Int.reduceSub,Int.reduceAdd,Int.reduceNeg,Int.reduceLT,Int.reduceLE,Int.reduceEq,Nat.reduceAdd,Nat.reduceSub,List.getElem?_set,List.length_set,List.length_map,List.set_set,eq_self,Bool.false_eq_true,Int.reduceToNat,Int.toNat_natCast,Int.reducePow,Option.map_some,tyD,decide_true,decide_false,if_true,if_false,Bool.not_true,Bool.not_false,zZB6,zZCO,zZDb,zZAl,zZDF,zZBZ,zZCj,xZ8,xZY,zZCL,zZBx,zZGB,zZB2,zZCT,zZAh,zZAY,zZCS,zZAF,zZDN,zZDg,zZBj,zZAd,zZCR,xZz,zZBq,Option.isNone_none,Option.isNone_some,Nat.reduceEqDiff,Nat.reduceLT,zZBi,xZL,zZAT,zZBt,xZ6,xZ9,zZBo,zZB1,zZGQ,zZCd,zZBb,xZ4,R.calm_ok,zZDR,zZFI,zZDo,zZAS,zZFe,zZC6,zZDd,zZAB,xZ0,zZGO,zZBw,zZB4,zZCh,zZDT,zZCX,zZBk,zZCZ,zZBn,yZq,zZA3,zZF1,zZFu,zZDS,zZDa,zZAG,zZAC,zZDk,zZE0,zZFB,zZCU,zZB7,zZCQ,zZCe,zZBg,zZC1,zZD3,zZA2,zZBH,zZBE,zZAA,zZAw,zZAg,zZCD,zZC2,dk_v,dk_n,zZCb,zZA4,xZ5,zZE6,zZD0,zZDU,zZDi,zZCw,zZCC,zZBA,zZDI,zZBy,zZFD,zZBv,zZCM,zZCk,zZAj,zZBL,zZBI,zZAu,zZAp,zZAm,zZA5,zZAi,zZAb,zZA7,zZAc,zZA9,zZAv,zZA1,zZAW,zZAZ,zZBJ,zZAx,zZBF,zZBG,zZAf,zZGU,zZFY,zZFw,zZF9,zZGN,zZE8,zZMk,zZKK,zZI5,zZKl,zZII,zZIz,Option.map_some,cast0,cast1,cast2,cast3,cast4,cast5,List.append_nil,zZIP,xZF,Int.zero_sub,s_te,s_tl,s_ta,s_ts,s_et,s_el,s_ea,s_es,s_lt,s_le,s_la,s_ls,s_at,s_ae,s_al,s_as,s_st,s_se,s_sl,s_sa,Option.isSome_none,Option.isSome_some,Bool.not_true,Bool.not_false,zZKk,zZLK,zZKD,zZKt,zZKs,Bool.or_false,Bool.or_self,Bool.true_or,Bool.true_eq_false,zZD,xZl, *])
theorem zZL3 (n p0 : Nat) (W0 : Wd) (y1 y2 y3 y4 y5 y6 y7 y8 y9 y10 y13 y14 y15 y16 y17 : Slot) : ∀ (fs : List (Str × Int)) (W : Wd),(∀ f ∈ fs,1 ≤ f.2 ∧ f.2 ≤ 1000) → PoolK W0 W p0 → ∃ (ns : List Int) (W' : Wd),ns.length = fs.length ∧ PoolK W0 W' p0 ∧
  compL (fun d=>tgD (.tup (.cons (.nm 11) (.cons (.nm 12) .nil))) d [.val (.own p0),y1,y2,y3,y4,y5,y6,y7,y8,y9,y10,.no,.no,y13,y14,y15,y16,y17]) (evTs (cfgN T (n + 1)) .nil) (evE (cfgN T (n + 1)) (.call zZA (.cons (.var 0) (.cons (.var 12) .nil)))) (fs.map flD) W = .ok (ns.map .int) W':=by
 intro fs
 induction fs with
 | nil=>intro W _ hP; exact ⟨[],W,rfl,hP,rfl⟩
 | cons f fs ih =>
  intro W hf hP
  obtain ⟨f1,f2⟩:=hf f List.mem_cons_self
  obtain ⟨v,W1,d1,a1,b1,P1⟩:=xZ7 n W0 W p0 f.2 hP (by omega) (by omega)
  obtain ⟨ns,W',h1,h3,h4⟩:=ih W1 (fun g hg=>hf g (List.mem_cons_of_mem _ hg)) P1
  refine ⟨v :: ns,W',by simp [h1],h3, ?_⟩
  rw [List.map_cons,List.map_cons]
  refine yZZ (e1:=[.val (.own p0),y1,y2,y3,y4,y5,y6,y7,y8,y9,y10,.val (.str f.1),.val (.int f.2),y13,y14,y15,y16,y17]) rfl xZO ?_ h4
  clear ih h4 hP P1 hf
  walk_at "ev4"
abbrev rwE (p0 a : Nat) (fs : List (Str × Int)) (iss : List Str) (S : Sc) (n1 n2 : Nat) (cnt : Int) (a0 a1 : Nat) (acc : List Tr3) (z9 z10 z11 z12 z13 z14 z15 z16 z17 : Slot) : Env :=
 [.val (.own p0),.val (.own a),.val (flsD fs),.val (.tup (iss.map .str)),.val (gT S.p S.q S.bs),.val (.lst [.own n1,.own n2]),.val (.int cnt),.ol [.int (a0 : Int),.int (a1 : Int)],.ol (acc.map trD),z9,z10,z11,z12,z13,z14,z15,z16,z17]
def sdBd : S:=(forsS ((forsS zZa).getD 1 .skip)).getD 0 .skip
theorem zZJL (i j : Nat) : cmpD .eq (.int (i : Int)) (.int (j : Int)) = some (.bl (decide (i = j))):=zZJA i j
theorem zZKg (n p0 a : Nat) (d : Ad) (S : Sc) (n1 n2 : Nat) (fs : List (Str × Int)) (iss : List Str) (cnt : Int) (a0 a1 j : Nat) (h01 : a0 ≠ a1) (acc : List Tr3) (xs ys : List Int) (r u : Int) (ns : List Int) (W : Wd) (h : ScP p0 W a d S) (g1 : W[n1]? = some (.lst (xs.map .int))) (g2 : W[n2]? = some (.lst (ys.map .int))) (o1 : Out p0 a d n1) (o2 : Out p0 a d n2) (hxl : xs.length ≤ 100) (hyl : ys.length ≤ 100) (hp1 : S.pk1.length ≤ 100) (hp2 : S.pk2.length ≤ 100) (z10 z11 z12 z13 z14 z16 z17 : Slot) : ∃ (os : List Int) (W' : Wd) (S' : Sc) (z16' z17' : Slot),ScP p0 W' a d S' ∧ W'[n1]? = some (.lst (xs.map .int)) ∧ W'[n2]? = some (.lst (ys.map .int)) ∧
  ((j = a0 ∧ os = r :: S.s1 :: xs ∧ S' = { S with pk1:=S.pk1 ++ [⟨(j : Int),r,xs⟩] }) ∨ (j = a1 ∧ os = r :: S.s2 :: ys ∧ S' = { S with pk2:=S.pk2 ++ [⟨(j : Int),r,ys⟩] }) ∨ (j ≠ a0 ∧ j ≠ a1 ∧ os = r :: u :: ns ∧ S' = S)) ∧
  forL (tgD (.nm 16)) (exS (cfgN T (n + 4)) sdBd) (rangeD 0 2) (rwE p0 a fs iss S n1 n2 cnt a0 a1 acc (.val (.int (j : Int))) z10 z11 z12 z13 z14 (.val (.lst ((r :: u :: ns).map .int))) z16 z17) W =
   .ok (.nx (rwE p0 a fs iss S n1 n2 cnt a0 a1 acc (.val (.int (j : Int))) z10 z11 z12 z13 z14 (.val (.lst (os.map .int))) z16' z17')) W':=by
 have q0:=idx0
 have q1:=idx1
 have hr : rangeD 0 2 = [D.int 0,D.int 1]:=rfl
 have ls:=zZGL S d
 have lp:=zZEb S d
 have hsc:=h.at_.sc
 simp only [scC] at hsc
 have k1:=h.at_.p1
 have k2:=h.at_.p2
 have he0:=zZJL a0 j
 have he1:=zZJL a1 j
 have hc2 : 2 ≤ cap:=by decide
 have hc3 : 3 ≤ cap:=by decide
 have hcx : 2 + (xs.map D.int).length ≤ cap:=by rw [List.length_map]; unfold cap; omega
 have hcy : 2 + (ys.map D.int).length ≤ cap:=by rw [List.length_map]; unfold cap; omega
 have hl1 : (S.pk1.map pkD).length < cap:=by rw [List.length_map]; unfold cap; omega
 have hl2 : (S.pk2.map pkD).length < cap:=by rw [List.length_map]; unfold cap; omega
 have hL1:=yZM k1
 have hL2:=yZM k2
 obtain ⟨o11,o12,o13,o14,o15,o16,o17⟩:=o1.o
 obtain ⟨o21,o22,o23,o24,o25,o26,o27⟩:=o2.o
 simp only [sdBd,zZa,forsS,List.getD_cons_zero,List.getD_cons_succ]
 by_cases e0 : j = a0
 ·have e1 : j ≠ a1:=fun e=>h01 (by rw [← e0,e])
  have hS:=h.setP1 (S.pk1 ++ [⟨(j : Int),r,xs⟩])
  refine ⟨r :: S.s1 :: xs,_,_,.val (.int 1),.val (.own d.p1),hS,gset g1 (Ne.symm o16),gset g2 (Ne.symm o26),.inl ⟨e0,rfl,rfl⟩, ?_⟩
  rw [decide_eq_true e0.symm] at he0
  rw [decide_eq_false (fun e=>e1 e.symm)] at he1
  rw [hr]
  simp only [List.map_append,List.map_nil,pkD,rwE,List.map_cons] at *
  clear hS h k2 g2 hcy hl2 hL2 e0 e1
  generalize scL S d = SL at *
  generalize xs.map D.int = XD at *
  generalize S.pk1.map pkD = PD at *
  generalize ns.map D.int = ND at *
  generalize gT S.p S.q S.bs = GT at *
  walk_at "ev4"
 ·by_cases e1 : j = a1
  ·have hS:=h.setP2 (S.pk2 ++ [⟨(j : Int),r,ys⟩])
   refine ⟨r :: S.s2 :: ys,_,_,.val (.int 1),.val (.own d.p2),hS,gset g1 (Ne.symm o17),gset g2 (Ne.symm o27),.inr (.inl ⟨e1,rfl,rfl⟩), ?_⟩
   rw [decide_eq_false (fun e=>e0 e.symm)] at he0
   rw [decide_eq_true e1.symm] at he1
   rw [hr]
   simp only [List.map_append,List.map_nil,pkD,rwE,List.map_cons] at *
   clear hS h k1 g1 hcx hl1 hL1 e0 e1
   generalize scL S d = SL at *
   generalize ys.map D.int = YD at *
   generalize S.pk2.map pkD = PD at *
   generalize ns.map D.int = ND at *
   generalize gT S.p S.q S.bs = GT at *
   walk_at "ev4"
  ·refine ⟨r :: u :: ns,W,S,.val (.int 1),z17,h,g1,g2,.inr (.inr ⟨e0,e1,rfl,rfl⟩), ?_⟩
   rw [decide_eq_false (fun e=>e0 e.symm)] at he0
   rw [decide_eq_false (fun e=>e1 e.symm)] at he1
   rw [hr]
   simp only [rwE,List.map_cons] at *
   clear h k1 k2 g1 g2 hcx hcy hl1 hl2 hL1 hL2 e0 e1
   generalize scL S d = SL at *
   generalize ns.map D.int = ND at *
   generalize gT S.p S.q S.bs = GT at *
   walk_at "ev4"
/-- rows as the file makes them -/
structure RowSp (p q : Int) (iss : List Str) (r : List Tr3) : Prop where
 t : ∀ (i : Nat) (t : Tr3),r[i]? = some t → t.ix = (i : Int) ∧ El p q t.el ∧ 0 ≤ t.el ∧ t.el < p ∧ t.nm ∈ iss
/-- a pick of them -/
structure PkSp (p q : Int) (bs : List Int) (r : List Tr3) (k : Pk) (s : Int) (vs : List Int) : Prop where
 hv : k.vs = vs
 rg : 0 ≤ k.r ∧ k.r < q
 t : ∃ (i : Nat) (t : Tr3),k.i = (i : Int) ∧ r[i]? = some t ∧ t.el = foldP p q (bs.zip (k.r :: s :: vs)) 1
theorem RowSp.snoc {p q : Int} {iss : List Str} {r : List Tr3} (h : RowSp p q iss r) {x : Tr3} (hx : x.ix = (r.length : Int) ∧ El p q x.el ∧ 0 ≤ x.el ∧ x.el < p ∧ x.nm ∈ iss) : RowSp p q iss (r ++ [x]):=by
 refine ⟨fun i t ht => ?_⟩
 by_cases e : i < r.length
 ·rw [List.getElem?_append_left e] at ht
  exact h.t i t ht
 ·rw [List.getElem?_append_right (by omega)] at ht
  have : i - r.length = 0:=by
   cases q : i - r.length with
   | zero=>rfl
   | succ _=>rw [q] at ht; simp at ht
  rw [this] at ht
  simp only [List.getElem?_cons_zero,Option.some.injEq] at ht
  subst ht
  rw [show i = r.length by omega]
  exact hx
theorem PkSp.snoc {p q : Int} {bs : List Int} {r : List Tr3} {k : Pk} {s : Int} {vs : List Int} (h : PkSp p q bs r k s vs) (x : Tr3) : PkSp p q bs (r ++ [x]) k s vs:=by
 obtain ⟨i,t,h1,h2,h3⟩:=h.t
 refine ⟨h.hv,h.rg,i,t,h1, ?_,h3⟩
 rw [List.getElem?_append_left (List.getElem?_eq_some_iff.mp h2).1]
 exact h2
def onP (B : Sc) (P1 P2 : List Pk) : Sc:={ B with pk1:=B.pk1 ++ P1,pk2:=B.pk2 ++ P2 }
theorem zZK6 {p q : Int} : ∀ (bs es : List Int),(∀ b ∈ bs,El p q b) → ∀ x ∈ bs.zip es,El p q x.1
 | [],es,_,x,hx=>by simp at hx
 | b :: bs,[],_,x,hx=>by simp at hx
 | b :: bs,e :: es,h,x,hx=>by
  rw [List.zip_cons_cons] at hx
  rcases List.mem_cons.mp hx with rfl | hx
  ·exact h b List.mem_cons_self
  ·exact zZK6 bs es (fun b hb=>h b (List.mem_cons_of_mem _ hb)) x hx
theorem zZNI (n p0 a : Nat) (d : Ad) (B : Sc) (n1 n2 : Nat) (fs : List (Str × Int)) (iss : List Str) (cnt a0 a1 : Nat) (h01 : a0 ≠ a1) (hcnt : 1 ≤ cnt ∧ cnt ≤ 10) (hiss : 1 ≤ iss.length ∧ iss.length ≤ 10) (xs ys : List Int) (hfs : ∀ f ∈ fs,1 ≤ f.2 ∧ f.2 ≤ 1000) (hfl : fs.length + 2 ≤ B.bs.length) (hxl : xs.length = fs.length) (hyl : ys.length = fs.length) (hb : B.bs.length ≤ 100) (G : GrOk B.p B.q) (hEl : ∀ b ∈ B.bs,El B.p B.q b) (o1 : Out p0 a d n1) (o2 : Out p0 a d n2) (hp1 : B.pk1.length ≤ 50) (hp2 : B.pk2.length ≤ 50) (z10 z13 z14 : Slot) : ∀ (m j : Nat) (acc : List Tr3) (P1 P2 : List Pk) (W : Wd) (z9 z11 z12 z15 z16 z17 : Slot),j + m = cnt → acc.length = j → P1.length ≤ 1 → P2.length ≤ 1 → ScP p0 W a d (onP B P1 P2) → W[n1]? = some (.lst (xs.map .int)) → W[n2]? = some (.lst (ys.map .int)) → RowSp B.p B.q iss acc → (j ≤ a0 → P1 = []) → (a0 < j → ∃ k,P1 = [k] ∧ k.i = (a0 : Int) ∧ PkSp B.p B.q B.bs acc k B.s1 xs) → (j ≤ a1 → P2 = []) → (a1 < j → ∃ k,P2 = [k] ∧ k.i = (a1 : Int) ∧ PkSp B.p B.q B.bs acc k B.s2 ys) → ∃ (acc' : List Tr3) (P1' P2' : List Pk) (W' : Wd) (z9' z11' z12' z15' z16' z17' : Slot),acc'.length = cnt ∧ ScP p0 W' a d (onP B P1' P2') ∧ W'[n1]? = some (.lst (xs.map .int)) ∧ W'[n2]? = some (.lst (ys.map .int)) ∧ RowSp B.p B.q iss acc' ∧ (a0 < cnt → ∃ k,P1' = [k] ∧ k.i = (a0 : Int) ∧ PkSp B.p B.q B.bs acc' k B.s1 xs) ∧ (a1 < cnt → ∃ k,P2' = [k] ∧ k.i = (a1 : Int) ∧ PkSp B.p B.q B.bs acc' k B.s2 ys) ∧
  forL (tgD (.nm 9)) (exS (cfgN T (n + 5)) ((forsS zZa).getD 1 .skip)) (rangeD (j : Int) m) (rwE p0 a fs iss B n1 n2 (cnt : Int) a0 a1 acc z9 z10 z11 z12 z13 z14 z15 z16 z17) W =
   .ok (.nx (rwE p0 a fs iss B n1 n2 (cnt : Int) a0 a1 acc' z9' z10 z11' z12' z13 z14 z15' z16' z17')) W':=by
 have h1p:=G.p1
 have h1q:=G.q1
 simp only [zZa,forsS,List.getD_cons_zero,List.getD_cons_succ]
 intro m
 induction m with
 | zero =>
  intro j acc P1 P2 W z9 z11 z12 z15 z16 z17 hj hacc _ _ h g1 g2 hr i1 i2 i3 i4
  have : j = cnt:=by omega
  subst this
  exact ⟨acc,P1,P2,W,z9,z11,z12,z15,z16,z17,hacc,h,g1,g2,hr,i2,i4,rfl⟩
 | succ m ih =>
  intro j acc P1 P2 W z9 z11 z12 z15 z16 z17 hj hacc hP1 hP2 h g1 g2 hr i1 i2 i3 i4
  obtain ⟨o11,-⟩:=o1.o
  obtain ⟨o21,-⟩:=o2.o
  obtain ⟨ns,W1,e1,e2,K1,hnum⟩:=zZH4 (n + 3) p0 B.p B.q B.bs 2 W G h.pool (by omega) (by omega)
  have e1 : ns.length = 2:=e1
  match ns,e1 with
  | [r,u],_ =>
  have hr0:=e2 r (by simp)
  obtain ⟨fn,W2,f1,K2,hfc⟩:=zZL3 (n + 4) p0 W1 (.val (.own a)) (.val (flsD fs)) (.val (.tup (iss.map .str))) (.val (gT B.p B.q B.bs)) (.val (.lst [.own n1,.own n2])) (.val (.int (cnt : Int))) (.ol [.int (a0 : Int),.int (a1 : Int)]) (.ol (acc.map trD)) (.val (.int (j : Int))) z10 z13 z14 z15 z16 z17 fs W1 hfs ⟨K1.1,Kp.refl p0 W1⟩
  have hS2 : ScP p0 W2 a d (onP B P1 P2):=(h.kp K1).kp K2
  have g1':=K2.2.get o11 (K1.2.get o11 g1)
  have g2':=K2.2.get o21 (K1.2.get o21 g2)
  have hfl3 : fs.length ≤ 98:=by omega
  have hcompD : ∀ (b : Bool),compR (cfgN T (n + 5)) (.call zZA (.cons (.var 0) (.cons (.var 12) .nil))) (.tup (.cons (.nm 11) (.cons (.nm 12) .nil))) .nil [.val (.own p0),.val (.own a),.val (flsD fs),.val (.tup (iss.map .str)),.val (gT B.p B.q B.bs),.val (.lst [.own n1,.own n2]),.val (.int (cnt : Int)),.ol [.int (a0 : Int),.int (a1 : Int)],.ol (acc.map trD),.val (.int (j : Int)),z10,z11,z12,z13,z14,z15,z16,z17] (fs.map flD,b) W1 = .ok (fn.map .int) W2:=by
   intro b
   rw [yZa (by rw [List.length_map]; unfold cap; omega)]
   exact hfc
  obtain ⟨os,W3,S3,w16,w17,hS3,g1'',g2'',hcase,hside⟩:=zZKg (n + 1) p0 a d (onP B P1 P2) n1 n2 fs iss (cnt : Int) a0 a1 j h01 acc xs ys r u fn W2 hS2 g1' g2' o1 o2 (by omega) (by omega) (by show (B.pk1 ++ P1).length ≤ 100; rw [List.length_append]; omega) (by show (B.pk2 ++ P2).length ≤ 100; rw [List.length_append]; omega) z10 z11 z12 z13 z14 z16 z17
  have hosl : os.length ≤ B.bs.length:=by
   rcases hcase with ⟨_,e,_⟩ | ⟨_,e,_⟩ | ⟨_,_,e,_⟩ <;> rw [e] <;> simp only [List.length_cons] <;> omega
  have hcm:=zZIt (n + 1) B.p B.q B.bs os (.lst (os.map .int)) W3 G (.inl rfl) hosl (by omega)
  have hzel:=zZK6 B.bs os hEl
  have hel:=zZJK h1p (by omega) _ hzel
  have hrg:=zZLj (q:=B.q) h1p (B.bs.zip os)
  generalize hEE : foldP B.p B.q (B.bs.zip os) 1 = EE at *
  have hidx : ∃ i : Nat,((j : Int) * (iss.length : Int) / (cnt : Int)) = (i : Int) ∧ i < iss.length:=by
   have a1 : 0 ≤ (j : Int) * (iss.length : Int) / (cnt : Int):=Int.ediv_nonneg (Int.mul_nonneg (by omega) (by omega)) (by omega)
   have a2 : (j : Int) * (iss.length : Int) / (cnt : Int) < (iss.length : Int):=by
    refine Int.ediv_lt_of_lt_mul (by omega) ?_
    rw [Int.mul_comm]
    exact Int.mul_lt_mul_of_pos_left (by omega) (by omega)
   obtain ⟨i,hi⟩:=Int.eq_ofNat_of_zero_le a1
   exact ⟨i,hi,by omega⟩
  obtain ⟨i,hi1,hi2⟩:=hidx
  have hin : iss[i]? = some iss[i]:=List.getElem?_eq_getElem hi2
  have hinm : iss[i] ∈ iss:=List.getElem_mem hi2
  generalize iss[i] = nmI at *
  have hat : atD (iss.map .str) (.int (i : Int)) = some (.str nmI):=zZG (by rw [List.getElem?_map,hin]; rfl)
  -- the new state
  have hnew : ∃ P1' P2',S3 = onP B P1' P2' ∧ P1'.length ≤ 1 ∧ P2'.length ≤ 1 ∧ (j + 1 ≤ a0 → P1' = []) ∧ (a0 < j + 1 → ∃ k,P1' = [k] ∧ k.i = (a0 : Int) ∧ PkSp B.p B.q B.bs (acc ++ [⟨nmI,(j : Int),EE⟩]) k B.s1 xs) ∧ (j + 1 ≤ a1 → P2' = []) ∧ (a1 < j + 1 → ∃ k,P2' = [k] ∧ k.i = (a1 : Int) ∧ PkSp B.p B.q B.bs (acc ++ [⟨nmI,(j : Int),EE⟩]) k B.s2 ys):=by
   have hlast : (acc ++ [(⟨nmI,(j : Int),EE⟩ : Tr3)])[j]? = some ⟨nmI,(j : Int),EE⟩:=by
    rw [List.getElem?_append_right (by omega),hacc,Nat.sub_self]
    rfl
   rcases hcase with ⟨c1,c2,c3⟩ | ⟨c1,c2,c3⟩ | ⟨c1,c1',c2,c3⟩
   ·have hP : P1 = []:=i1 (by omega)
    subst hP
    refine ⟨[⟨(j : Int),r,xs⟩],P2, ?_,by simp,hP2,fun e=>by omega,fun _=>⟨_,rfl,by show (j : Int) = _; rw [c1],⟨rfl,hr0,j,_,rfl,hlast, ?_⟩⟩,fun e=>i3 (by omega),fun e => ?_⟩
    ·rw [c3]; simp [onP]
    ·show EE = _
     rw [← hEE,c2]
     rfl
    ·have hlt : a1 < j:=by clear i1 i2 i3 i4 ih; omega
     obtain ⟨k,k1,k2,k3⟩:=i4 hlt
     exact ⟨k,k1,k2,k3.snoc _⟩
   ·have hP : P2 = []:=i3 (by omega)
    subst hP
    refine ⟨P1,[⟨(j : Int),r,ys⟩], ?_,hP1,by simp,fun e=>i1 (by omega),fun e => ?_,fun e=>by omega,fun _=>⟨_,rfl,by show (j : Int) = _; rw [c1],⟨rfl,hr0,j,_,rfl,hlast, ?_⟩⟩⟩
    ·rw [c3]; simp [onP]
    ·have hlt : a0 < j:=by clear i1 i2 i3 i4 ih; omega
     obtain ⟨k,k1,k2,k3⟩:=i2 hlt
     exact ⟨k,k1,k2,k3.snoc _⟩
    ·show EE = _
     rw [← hEE,c2]
     rfl
   ·refine ⟨P1,P2,c3,hP1,hP2,fun e=>i1 (by omega),fun e => ?_,fun e=>i3 (by omega),fun e => ?_⟩
    ·have hlt : a0 < j:=by clear i1 i2 i3 i4 ih; omega
     obtain ⟨k,k1,k2,k3⟩:=i2 hlt
     exact ⟨k,k1,k2,k3.snoc _⟩
    ·have hlt : a1 < j:=by clear i1 i2 i3 i4 ih; omega
     obtain ⟨k,k1,k2,k3⟩:=i4 hlt
     exact ⟨k,k1,k2,k3.snoc _⟩
  obtain ⟨P1',P2',s1,s2,s3,s4,s5,s6,s7⟩:=hnew
  subst s1
  obtain ⟨acc',Q1,Q2,W',x9,x11,x12,x15,x16,x17,t1,t2,t3,t4,t5,t6,t7,hz⟩:=ih (j + 1) (acc ++ [⟨nmI,(j : Int),EE⟩]) P1' P2' W3 (.val (.int (j : Int))) z11 z12 (.val (.lst (os.map .int))) w16 w17 (by omega) (by rw [List.length_append,List.length_singleton]; omega) s2 s3 hS3 g1'' g2'' (hr.snoc ⟨by rw [hacc],hel,hrg.1,hrg.2,hinm⟩) s4 s5 s6 s7
  refine ⟨acc',Q1,Q2,W',x9,x11,x12,x15,x16,x17,t1,t2,t3,t4,t5,t6,t7, ?_⟩
  rw [← hz]
  have hal : (acc.map trD).length < cap:=by rw [List.length_map]; unfold cap; omega
  have hca : [D.int r,D.int u].length + (fn.map D.int).length ≤ cap:=by
   simp only [List.length_cons,List.length_nil,List.length_map]
   unfold cap
   omega
  have hg : 0 < (cnt : Int) ∧ (cnt : Int) < 1073741824:=by omega
  have ej : ((j : Int) + 1) = ((j + 1 : Nat) : Int):=by omega
  have hc3 : 3 ≤ cap:=by decide
  have hmb : -4611686018427387904 ≤ (j : Int) * (iss.length : Int) ∧ (j : Int) * (iss.length : Int) < 4611686018427387904:=by
   have a1 : 0 ≤ (j : Int) * (iss.length : Int):=Int.mul_nonneg (by omega) (by omega)
   have a2 : (j : Int) * (iss.length : Int) ≤ 10 * 10:=Int.mul_le_mul (by omega) (by omega) (by omega) (by omega)
   omega
  have hil : ((iss.map D.str).length) = iss.length:=List.length_map _
  rw [range_succ,zZD,ej]
  simp only [sdBd,zZa,forsS,List.getD_cons_zero,List.getD_cons_succ] at hside
  have e2 : rwE p0 a fs iss (onP B P1 P2) n1 n2 (cnt : Int) a0 a1 acc = rwE p0 a fs iss B n1 n2 (cnt : Int) a0 a1 acc:=rfl
  rw [e2] at hside
  clear ih hz h hS2 hS3 i1 i2 i3 i4 hcase t2 t3 t4 t5 t6 t7 s4 s5 s6 s7 g1 g2 g1' g2' g1'' g2'' K1 K2 hr hosl hzel hel hrg hfc e2
  simp only [rwE,List.map_append,List.map_cons,List.map_nil,List.cons_append,List.nil_append,flsD,trD] at *
  generalize os.map D.int = OD at *
  generalize fn.map D.int = FN at *
  generalize xs.map D.int = XD at *
  generalize ys.map D.int = YD at *
  generalize fs.map flD = FD at *
  generalize gT B.p B.q B.bs = GT at *
  generalize acc.map trD = AC at *
  generalize iss.length = IL at *
  generalize iss.map D.str = IS at *
  subst hil
  walk_at "ev3"
theorem ScAt.lt {W : Wd} {a : Nat} {d : Ad} {S : Sc} (h : ScAt W a d S) : a < W.length ∧ d.c < W.length ∧ d.n < W.length ∧ d.r < W.length ∧ d.p1 < W.length ∧ d.p2 < W.length :=
 ⟨zZV h.sc,zZV h.c,zZV h.n,zZV h.r,zZV h.p1,zZV h.p2⟩
theorem ScP.out {p0 a : Nat} {d : Ad} {S : Sc} {W : Wd} (h : ScP p0 W a d S) {x : Nat} (hx : W.length ≤ x) : Out p0 a d x:=by
 obtain ⟨h1,h2,h3,h4,h5,h6⟩:=h.at_.lt
 have:=h.pool.lt
 exact ⟨by omega,by omega,by omega,by omega,by omega,by omega,by omega⟩
theorem zZK0 (n p0 a : Nat) (d : Ad) (S : Sc) (W : Wd) (fs : List (Str × Int)) (iss : List Str) (h : ScP p0 W a d S) (hfs : ∀ f ∈ fs,1 ≤ f.2 ∧ f.2 ≤ 1000) (hfl : fs.length + 2 ≤ S.bs.length) (hb : S.bs.length ≤ 100) (hiss : 1 ≤ iss.length ∧ iss.length ≤ 10) (G : GrOk S.p S.q) (hEl : ∀ b ∈ S.bs,El S.p S.q b) (hp1 : S.pk1.length ≤ 50) (hp2 : S.pk2.length ≤ 50) (hrw : S.rows.length ≤ 50) :
  ∃ (xs ys : List Int) (r : List Tr3) (k1 k2 : Pk) (W' : Wd),xs.length = fs.length ∧ ys.length = fs.length ∧ (∀ (j : Nat) (f : Str × Int) (x : Int),fs[j]? = some f → xs[j]? = some x → 0 ≤ x ∧ x < f.2) ∧ (∀ (j : Nat) (f : Str × Int) (x : Int),fs[j]? = some f → ys[j]? = some x → 0 ≤ x ∧ x < f.2) ∧
   2 ≤ r.length ∧ r.length ≤ 4 ∧ RowSp S.p S.q iss r ∧ PkSp S.p S.q S.bs r k1 S.s1 xs ∧ PkSp S.p S.q S.bs r k2 S.s2 ys ∧ k1.i ≠ k2.i ∧
   ScP p0 W' a d { S with rows:=S.rows ++ [r],pk1:=S.pk1 ++ [k1],pk2:=S.pk2 ++ [k2] } ∧
   (cfgN T (n + 6)).call zZER [.own p0,.own a,flsD fs,.tup (iss.map .str)] W = .ok .non W':=by
 have h0 : ScP p0 (W ++ [.lst []] ++ [.lst []]) a d S:=(h.push [.lst []]).push [.lst []]
 have on1 : Out p0 a d W.length:=h.out (Nat.le_refl _)
 have on2 : Out p0 a d (W ++ [Cell.lst []]).length:=h.out (by simp)
 have hn12 : W.length ≠ (W ++ [Cell.lst []]).length:=by simp
 have gn1 : (W ++ [Cell.lst []] ++ [Cell.lst []])[W.length]? = some (.lst (([] : List Int).map .int)):=by simp
 have gn2 : (W ++ [Cell.lst []] ++ [Cell.lst []])[(W ++ [Cell.lst []]).length]? = some (.lst (([] : List Int).map .int)):=by simp
 generalize hn1 : W.length = n1 at *
 generalize hn2 : (W ++ [Cell.lst []]).length = n2 at *
 obtain ⟨xs,ys,W1,w11,w12,w13,w14,r1,r2,r3,r4,h1,g1,g2,hz⟩:=zZNk (n + 4) p0 a d S n1 n2 on1 on2 hn12 (.val (flsD fs)) (.val (.tup (iss.map .str))) (.val (gT S.p S.q S.bs)) .no .no .no .no .no .no .no .no fs [] [] _ .no .no .no .no hfs h0 gn1 gn2 (by rw [List.length_nil]; omega) (by rw [List.length_nil]; omega)
 rw [List.nil_append] at g1 g2
 obtain ⟨c,W2,e2,a2,b2,P2,h2⟩:=zZI (n + 4) 3 h1 (by omega) (by omega)
 obtain ⟨u,W3,e3,a3,b3,P3,h3⟩:=zZI (n + 4) (2 + c) h2 (by omega) (by omega)
 obtain ⟨v,W4,e4,a4,b4,P4,h4⟩:=zZI (n + 4) (2 + c) h3 (by omega) (by omega)
 have q11:=on1.o.1
 have q21:=on2.o.1
 have g1':=P4.2.get q11 (P3.2.get q11 (P2.2.get q11 g1))
 have g2':=P4.2.get q21 (P3.2.get q21 (P2.2.get q21 g2))
 -- the places
 have hpl : ∃ a0 a1 cnt : Nat,(u = (a0 : Int)) ∧ (2 + c = (cnt : Int)) ∧ a0 ≠ a1 ∧ a0 < cnt ∧ a1 < cnt ∧ 2 ≤ cnt ∧ cnt ≤ 4 ∧ ((u = v ∧ (u + 1) % (2 + c) = (a1 : Int)) ∨ (u ≠ v ∧ v = (a1 : Int))):=by
  obtain ⟨a0,ha0⟩:=Int.eq_ofNat_of_zero_le a3
  obtain ⟨cnt,hcn⟩:=Int.eq_ofNat_of_zero_le (show 0 ≤ 2 + c by omega)
  by_cases e : u = v
  ·have m0 : 0 ≤ (u + 1) % (2 + c):=Int.emod_nonneg _ (by omega)
   have m1 : (u + 1) % (2 + c) < 2 + c:=Int.emod_lt_of_pos _ (by omega)
   obtain ⟨a1,ha1⟩:=Int.eq_ofNat_of_zero_le m0
   refine ⟨a0,a1,cnt,ha0,hcn, ?_,by omega,by omega,by omega,by omega,.inl ⟨e,ha1⟩⟩
   by_cases e2 : u + 1 < 2 + c
   ·rw [Int.emod_eq_of_lt (by omega) e2] at ha1
    omega
   ·have : u + 1 = 2 + c:=by omega
    rw [this,Int.emod_self] at ha1
    omega
  ·obtain ⟨a1,ha1⟩:=Int.eq_ofNat_of_zero_le a4
   exact ⟨a0,a1,cnt,ha0,hcn,by omega,by omega,by omega,by omega,by omega,.inr ⟨e,ha1⟩⟩
 obtain ⟨a0,a1,cnt,p1,p2,p3,p4,p5,p6,p7,p8⟩:=hpl
 have hon : onP S [] [] = S:=by simp [onP]
 have h4' : ScP p0 W4 a d (onP S [] []):=by rw [hon]; exact h4
 obtain ⟨r,Q1,Q2,W5,x9,x11,x12,x15,x16,x17,t1,t2,t3,t4,t5,t6,t7,hl⟩:=zZNI n p0 a d S n1 n2 fs iss cnt a0 a1 p3 (by omega) hiss xs ys hfs hfl r1 r2 hb G hEl on1 on2 hp1 hp2 .no w13 w14 cnt 0 [] [] [] W4 .no w11 w12 .no .no .no (by omega) rfl (by simp) (by simp) h4' g1' g2' ⟨fun i t ht=>by simp at ht⟩ (fun _=>rfl) (fun e=>by omega) (fun _=>rfl) (fun e=>by omega)
 obtain ⟨k1,rfl,k1i,k1s⟩:=t6 p4
 obtain ⟨k2,rfl,k2i,k2s⟩:=t7 p5
 have h5:=t2.setR (S.rows ++ [r])
 refine ⟨xs,ys,r,k1,k2,_,r1,r2,r3,r4,by omega,by omega,t5,k1s,k2s,by rw [k1i,k2i]; omega,h5, ?_⟩
 have lg:=zZEl S d
 have lr:=zZCf S d
 have lgo : lookK (.inr "group") (scL (onP S [k1] [k2]) d) = some (gT S.p S.q S.bs):=rfl
 have lro : lookK (.inr "rows") (scL (onP S [k1] [k2]) d) = some (.own d.r):=rfl
 have hsc:=h.at_.sc
 have hsc5:=t2.at_.sc
 have hr5 : W5[d.r]? = some (.lst (S.rows.map trsD)):=t2.at_.r
 have hLr:=yZM hr5
 simp only [scC] at hsc hsc5
 have hc0 : 0 ≤ cap:=by decide
 have hc2 : 2 ≤ cap:=by decide
 have hrl : (S.rows.map trsD).length < cap:=by rw [List.length_map]; unfold cap; omega
 have e0 : ((0 : Nat) : Int) = 0:=rfl
 have hg : -4611686018427387904 ≤ (cnt : Int) ∧ (cnt : Int) < 4611686018427387904:=by omega
 have hg2 : 0 < (cnt : Int) ∧ (cnt : Int) < 1073741824:=by omega
 have hset : ∀ x y z : D,setAt [x,y] (.int 1) z = some [x,z]:=fun _ _ _=>rfl
 have q0:=idx0
 have q1:=idx1
 have tW : (cnt : Int).toNat = cnt:=by omega
 have hnc1 : newCell (.lst []) W = .ok (.own n1) (W ++ [Cell.lst []]):=by rw [← hn1]; rfl
 have hnc2 : newCell (.lst []) (W ++ [Cell.lst []]) = .ok (.own n2) (W ++ [Cell.lst []] ++ [Cell.lst []]):=by rw [← hn2]; rfl
 generalize W ++ [Cell.lst []] ++ [Cell.lst []] = WB at *
 generalize W ++ [Cell.lst []] = WA at *
 clear hn1 hn2
 rw [zZE (F:=xZy) rfl]
 simp only [zZa,forsS,List.getD_cons_zero,List.getD_cons_succ,e0,rwE,List.map_nil] at hz hl
 simp only [xZy,zZa,List.map_append,List.map_cons,List.map_nil]
 clear h h0 h1 h2 h3 h4 h4' h5 t2 t5 t6 t7 k1s k2s r3 r4 hon P2 P3 P4 g1 g2 g1' g2' gn1 gn2 t3 t4 on1 on2 hn12 hfs hEl G
 generalize scL (onP S [k1] [k2]) d = SL5 at *
 generalize scL S d = SL at *
 generalize gT S.p S.q S.bs = GT at *
 generalize S.rows.map trsD = RW at *
 have htr : trsD r = .tup (r.map trD):=rfl
 rw [htr]
 generalize r.map trD = RD at *
 generalize iss.map D.str = IS at *
 simp only [flsD] at *
 generalize fs.map flD = FD at *
 subst p1
 rw [p2] at e3 e4 b3 b4 p8
 rcases p8 with ⟨p8,p9⟩ | ⟨p8,p9⟩
 ·subst p8
  have hii : cmpD .eq (.int (a0 : Int)) (.int (a0 : Int)) = some (.bl true):=by rw [zZJA]; simp
  walk_at "ev3"
 ·have hii : cmpD .eq (.int (a0 : Int)) (.int v) = some (.bl false):=by
   have : cmpD .eq (.int (a0 : Int)) (.int v) = some (.bl (decide ((a0 : Int) = v))):=rfl
   rw [this,decide_eq_false p8]
  subst p9
  walk_at "ev3"
def CnSat (S : Sc) : Cn → Prop
 | .tell a=>pv S.pk1 a = pv S.pk2 a
 | .equal a v=>pv S.pk1 a = v ∧ pv S.pk2 a = v
 | .least a v=>v ≤ pv S.pk1 a ∧ v ≤ pv S.pk2 a
 | .among a vs=>pv S.pk1 a ∈ vs ∧ pv S.pk2 a ∈ vs
 | .same a b=>pv S.pk1 a = pv S.pk1 b ∧ pv S.pk2 a = pv S.pk2 b ∧ b ≠ a
structure SOK (S : Sc) : Prop where
 cs : CsOK S.ks S.cs
 p1 : PkOK S.ks S.cs S.pk1
 p2 : PkOK S.ks S.cs S.pk2
def cnE (ks : List Kd) (cs : List Cd) (c : Cn) : Prop := ∀ a,cnIn c = some a → cand ks cs c ≠ []
theorem zZO6 {i : Nat} (h : i < 3) : PySem.PyData.strOk (mowS i) = true:=by
 have : i = 0 ∨ i = 1 ∨ i = 2:=by omega
 rcases this with rfl | rfl | rfl <;> decide +kernel
theorem zZNo {i : Nat} (h : i < 4) : PySem.PyData.strOk (fnm i) = true:=by
 have : i = 0 ∨ i = 1 ∨ i = 2 ∨ i = 3:=by omega
 rcases this with rfl | rfl | rfl | rfl <;> decide +kernel
theorem zZNz {a b : Pl} (ha : PlS a) (hb : PlS b) (h : nmD a = nmD b) : a = b:=by
 obtain ⟨a1,a2⟩:=a
 obtain ⟨b1,b2⟩:=b
 simp only [nmD,D.tup.injEq,List.cons.injEq,D.str.injEq,and_true] at h
 have h1:=zZI8 ha.1 hb.1 h.1
 have h2:=zZJH ha.2 hb.2 h.2
 simp only [] at h1 h2
 rw [h1,h2]
theorem zZMn {a b : Pl} (ha : PlS a) (hb : PlS b) : cmpD .ne (nmD a) (nmD b) = some (.bl (!decide (a = b))):=by
 have hn : ∀ a,PlS a → nb 60 (nmD a) = true:=by
  intro a ha
  simp only [nmD,nb,List.all_cons,List.all_nil,zZO6 ha.1,zZNo ha.2]
  rfl
 rw [zZPG (hn a ha) (hn b hb)]
 have:=zZKz (hn a ha) (hn b hb)
 rw [Bool.eq_iff_iff.mpr (show dq (nmD a) (nmD b) = true ↔ decide (a = b) = true by rw [this,decide_eq_true_eq]; exact ⟨zZNz ha hb,fun h=>by rw [h]⟩)]
theorem zZHm (a b : List Int) : cmpD .eq (.lst (a.map .int)) (.lst (b.map .int)) = some (.bl (decide (a = b))):=by
 have h : ∀ a : List Int,nb 60 (.lst (a.map .int)) = true:=by
  intro a
  simp only [nb,List.all_eq_true]
  intro x hx
  obtain ⟨i,_,rfl⟩:=List.mem_map.mp hx
  rfl
 rw [zZPI (h a) (h b)]
 have:=zZKz (h a) (h b)
 rw [D.lst.injEq,zZIw] at this
 rw [Bool.eq_iff_iff.mpr (show dq (D.lst (a.map D.int)) (D.lst (b.map D.int)) = true ↔ decide (a = b) = true by rw [this]; simp)]
theorem zZG9 (n p0 : Nat) (z : Int) (z0 : 0 < z) (z1 : z ≤ 1000) (W0 : Wd) (y1 y2 y3 y4 y5 y7 y8 y9 y11 : Slot) : ∀ (k : Nat) (i : Int) (W : Wd),PoolK W0 W p0 → ∃ (ns : List Int) (W' : Wd),ns.length = k ∧ (∀ x ∈ ns,0 ≤ x ∧ x < z) ∧ PoolK W0 W' p0 ∧
  compL (fun d=>tgD (.nm 10) d [.val (.own p0),y1,y2,y3,y4,y5,.val (.int z),y7,y8,y9,.no,y11]) (evTs (cfgN T (n + 1)) .nil) (evE (cfgN T (n + 1)) (.call zZA (.cons (.var 0) (.cons (.var 6) .nil)))) (rangeD i k) W = .ok (ns.map .int) W':=by
 intro k
 induction k with
 | zero=>intro i W hP; exact ⟨[],W,rfl,by simp,hP,rfl⟩
 | succ k ih =>
  intro i W hP
  obtain ⟨v,W1,d1,a1,b1,P1⟩:=xZ7 n W0 W p0 z hP (by omega) (by omega)
  obtain ⟨ns,W',h1,h2,h3,h4⟩:=ih (i + 1) W1 P1
  refine ⟨v :: ns,W',by simp [h1],fun x hx => ?_,h3, ?_⟩
  ·rcases List.mem_cons.mp hx with rfl | hx
   ·exact ⟨a1,b1⟩
   ·exact h2 x hx
  ·rw [range_succ,List.map_cons]
   refine yZZ (e1:=[.val (.own p0),y1,y2,y3,y4,y5,.val (.int z),y7,y8,y9,.val (.int i),y11]) rfl xZO ?_ h4
   clear ih h4 hP P1
   walk_at "ev3"
def cnO : Option Cn → D
 | none=>.non
 | some c=>cnD c
theorem zZJ7 (n p0 a0 : Nat) (d : Ad) (S : Sc) (W : Wd) (h : ScP p0 W a0 d S) (K : SOK S) : ∃ (v : Option Cn) (W' : Wd),ScP p0 W' a0 d S ∧ (∀ c,v = some c → CnOK S.ks S.cs c ∧ CnSat S c ∧ cnE S.ks S.cs c) ∧ (cfgN T (n + 2)).call zZA0 [.own p0,.own a0] W = .ok (cnO v) W':=by
 have hf:=zZIi n S d a0 W h.at_ K.cs K.p1 K.p2
 have hpln : (pls S.ks S.cs).length ≤ 12:=by
  have:=zZCm K.cs S.cs.length
  have:=K.cs.l3
  unfold pls
  omega
 have hc0 : 0 ≤ cap:=by decide
 have q0:=idx0
 have q1:=idx1
 have q2:=idx2
 rw [zZE (F:=yZc) rfl]
 simp only [yZc,xZB]
 cases hP : pls S.ks S.cs with
 | nil =>
  refine ⟨none,W,h,fun c e=>(by cases e), ?_⟩
  rw [hP] at hf
  simp only [List.map_nil,cnO] at *
  clear h
  walk_at "ev3"
 | cons x0 xr =>
  have hne : 0 < (pls S.ks S.cs).length:=by rw [hP]; simp
  have hlz : ((pls S.ks S.cs).length : Int) ≠ 0:=by omega
  obtain ⟨i,W1,e1,a1,b1,P1,h1⟩:=zZI n ((pls S.ks S.cs).length : Int) h (by omega) (by omega)
  obtain ⟨a,ha,hat⟩:=zZDc (fdD S) (pls S.ks S.cs) a1 b1
  have haP:=mem_pls.mp ha
  obtain ⟨way,W2,e2,a2,b2,P2,h2⟩:=zZI n 6 h1 (by omega) (by omega)
  have hsz:=zZHY K.cs haP
  obtain ⟨_,_,_,u0,u1⟩:=K.p1.get haP
  obtain ⟨_,_,_,v0,v1⟩:=K.p2.get haP
  have hS:=pl_s K.cs haP
  have hfl : ((pls S.ks S.cs).map (fdD S)).length = (pls S.ks S.cs).length:=List.length_map _
  have hz0 : cmpD .eq (.int ((pls S.ks S.cs).length : Int)) (.int 0) = some (.bl false):=by
   have : cmpD .eq (.int ((pls S.ks S.cs).length : Int)) (.int 0) = some (.bl (decide (((pls S.ks S.cs).length : Int) = 0))):=rfl
   rw [this,decide_eq_false hlz]
  have hfa : fdD S a = .tup [nmD a,.int (sz S.ks S.cs a),.lst [.int (pv S.pk1 a),.int (pv S.pk2 a)]]:=rfl
  rw [hfa] at hat
  clear hP
  have hg : -4611686018427387904 ≤ ((pls S.ks S.cs).length : Int) ∧ ((pls S.ks S.cs).length : Int) < 4611686018427387904:=by omega
  have hc1 : 1 ≤ cap:=by decide
  have hc2 : 2 ≤ cap:=by decide
  have hA1 : ∀ x y z : D,binD .add (.tup [x]) (.tup [y,z]) = some (.tup [x,y,z]):=fun x y z=>xZz (by show 1 + 2 ≤ cap; decide)
  have hA2 : ∀ x y z w : D,binD .add (.tup [x,y,z]) (.tup [w]) = some (.tup [x,y,z,w]):=fun x y z w=>xZz (by show 3 + 1 ≤ cap; decide)
  have hA3 : ∀ x y z w u : D,binD .add (.tup [x,y,z]) (.tup [w,u]) = some (.tup [x,y,z,w,u]):=fun x y z w u=>xZz (by show 3 + 2 ≤ cap; decide)
  have hmn : ∀ W d,b1D W .min (.frz [.int (pv S.pk1 a),.int (pv S.pk2 a)] (.lst d)) = some (.int (minI (pv S.pk1 a) [pv S.pk2 a])):=fun W d=>zZOP W (pv S.pk1 a) [pv S.pk2 a] d
  have hml:=zZKf [pv S.pk2 a] (pv S.pk1 a)
  have hml2:=hml.2 _ List.mem_cons_self
  have hm0 : 0 ≤ minI (pv S.pk1 a) [pv S.pk2 a]:=by unfold minI minI; split <;> omega
  have hway : way = 0 ∨ way = 1 ∨ way = 2 ∨ way = 3 ∨ way = 4 ∨ way = 5:=by omega
  have hnmD : nmD a = .tup [.str (mowS a.1),.str (fnm a.2)]:=rfl
  by_cases hxy : pv S.pk1 a = pv S.pk2 a
  ·rcases hway with rfl | rfl | rfl | rfl | rfl | rfl
   ·refine ⟨some (.tell a),W2,h2,fun c e => ?_, ?_⟩
    ·simp only [Option.some.injEq] at e
     subst e
     exact ⟨haP,hxy,fun b hb=>by cases hb⟩
    ·clear h h1 h2 P1 P2 K hml hml2 hm0
     simp only [cnO,cnD,hnmD] at *
     clear hnmD
     generalize minI (pv S.pk1 a) [pv S.pk2 a] = MN at *
     generalize (pls S.ks S.cs).length = PL at *
     generalize (pls S.ks S.cs).map (fdD S) = PD at *
     generalize pv S.pk1 a = X at *
     generalize pv S.pk2 a = Y at *
     subst hfl
     subst hxy
     walk_at "ev3"
   ·refine ⟨some (.equal a (pv S.pk1 a)),W2,h2,fun c e => ?_, ?_⟩
    ·simp only [Option.some.injEq] at e
     subst e
     exact ⟨⟨haP,u0,by omega⟩,⟨rfl,hxy.symm⟩,fun b hb=>by cases hb⟩
    ·clear h h1 h2 P1 P2 K hml hml2 hm0
     simp only [cnO,cnD,hnmD] at *
     clear hnmD
     generalize minI (pv S.pk1 a) [pv S.pk2 a] = MN at *
     generalize (pls S.ks S.cs).length = PL at *
     generalize (pls S.ks S.cs).map (fdD S) = PD at *
     generalize pv S.pk1 a = X at *
     generalize pv S.pk2 a = Y at *
     subst hfl
     subst hxy
     walk_at "ev3"
   ·obtain ⟨m,W3,e3,a3,b3,P3,h3⟩:=zZI n (minI (pv S.pk1 a) [pv S.pk2 a] + 1) h2 (by omega) (by omega)
    refine ⟨some (.least a m),W3,h3,fun c e => ?_, ?_⟩
    ·simp only [Option.some.injEq] at e
     subst e
     refine ⟨⟨haP,a3,by omega⟩,⟨by omega,by omega⟩,fun b hb => ?_⟩
     simp only [cand,ne_eq,List.map_eq_nil_iff,List.range_eq_nil]
     omega
    ·clear h h1 h2 h3 P1 P2 P3 K hml hml2 a3 b3 hm0
     simp only [cnO,cnD,hnmD] at *
     clear hnmD
     generalize minI (pv S.pk1 a) [pv S.pk2 a] = MN at *
     generalize (pls S.ks S.cs).length = PL at *
     generalize (pls S.ks S.cs).map (fdD S) = PD at *
     generalize pv S.pk1 a = X at *
     generalize pv S.pk2 a = Y at *
     subst hfl
     clear hxy
     walk_at "ev3"
   ·obtain ⟨m,W3,e3,a3,b3,P3,h3⟩:=zZI n (minI (pv S.pk1 a) [pv S.pk2 a] + 1) h2 (by omega) (by omega)
    refine ⟨some (.least a m),W3,h3,fun c e => ?_, ?_⟩
    ·simp only [Option.some.injEq] at e
     subst e
     refine ⟨⟨haP,a3,by omega⟩,⟨by omega,by omega⟩,fun b hb => ?_⟩
     simp only [cand,ne_eq,List.map_eq_nil_iff,List.range_eq_nil]
     omega
    ·clear h h1 h2 h3 P1 P2 P3 K hml hml2 a3 b3 hm0
     simp only [cnO,cnD,hnmD] at *
     clear hnmD
     generalize minI (pv S.pk1 a) [pv S.pk2 a] = MN at *
     generalize (pls S.ks S.cs).length = PL at *
     generalize (pls S.ks S.cs).map (fdD S) = PD at *
     generalize pv S.pk1 a = X at *
     generalize pv S.pk2 a = Y at *
     subst hfl
     clear hxy
     walk_at "ev3"
   ·obtain ⟨k,W3,e3,a3,b3,P3,h3⟩:=zZI n 3 h2 (by omega) (by omega)
    obtain ⟨ns,W4,r1,r2,P4,hnz⟩:=zZG9 n p0 (sz S.ks S.cs a) (by omega) (by omega) W3 (.val (.own a0)) (.val (.lst ((pls S.ks S.cs).map (fdD S)))) (.val (.int 4)) .no (.val (nmD a)) (.val (.lst [.int (pv S.pk1 a),.int (pv S.pk2 a)])) .no .no .no k.toNat 0 W3 ⟨P3.1,Kp.refl p0 W3⟩
    have h4:=h3.kp P4
    have hcD : compR (cfgN T (n + 1)) (.call zZA (.cons (.var 0) (.cons (.var 6) .nil))) (.nm 10) .nil [.val (.own p0),.val (.own a0),.val (.lst ((pls S.ks S.cs).map (fdD S))),.val (.int 4),.no,.val (nmD a),.val (.int (sz S.ks S.cs a)),.val (.lst [.int (pv S.pk1 a),.int (pv S.pk2 a)]),.no,.no,.no,.no] (rangeD 0 k.toNat,false) W3 = .ok (ns.map .int) W4:=by
     rw [yZa (by rw [zZBP]; unfold cap; omega)]
     exact hnz
    have hnum : [D.int (pv S.pk1 a),.int (pv S.pk2 a)] ++ ns.map .int = (pv S.pk1 a :: pv S.pk2 a :: ns).map .int:=rfl
    have hR : rangeD 0 (sz S.ks S.cs a).toNat = ((List.range (sz S.ks S.cs a).toNat).map fun j : Nat=>(j : Int)).map D.int:=by
     unfold rangeD
     rw [List.map_map]
     refine List.map_congr_left fun j _ => ?_
     show D.int (0 + (j : Int)) = .int (j : Int)
     rw [Int.zero_add]
    have hcF : compR (cfgN T (n + 1)) (.var 11) (.nm 11) (.cons (.cmp .inn (.var 11) (.var 8)) .nil) [.val (.own p0),.val (.own a0),.val (.lst ((pls S.ks S.cs).map (fdD S))),.val (.int 4),.no,.val (nmD a),.val (.int (sz S.ks S.cs a)),.val (.lst [.int (pv S.pk1 a),.int (pv S.pk2 a)]),.val (.lst ((pv S.pk1 a :: pv S.pk2 a :: ns).map .int)),.no,.no,.no] (rangeD 0 (sz S.ks S.cs a).toNat,false) W4 = .ok ((((List.range (sz S.ks S.cs a).toNat).map fun j : Nat=>(j : Int)).filter fun x=>decide (x ∈ pv S.pk1 a :: pv S.pk2 a :: ns)).map .int) W4:=by
     rw [hR]
     refine zZm D.int D.int (fun x=>decide (x ∈ pv S.pk1 a :: pv S.pk2 a :: ns)) _ (by rw [List.length_map,List.length_range]; unfold cap; omega) fun x _=>⟨_,rfl, ?_,fun _=>rfl⟩
     show evTs _ _ [.val (.own p0),.val (.own a0),.val (.lst ((pls S.ks S.cs).map (fdD S))),.val (.int 4),.no,.val (nmD a),.val (.int (sz S.ks S.cs a)),.val (.lst [.int (pv S.pk1 a),.int (pv S.pk2 a)]),.val (.lst ((pv S.pk1 a :: pv S.pk2 a :: ns).map .int)),.no,.no,.val (.int x)] W4 = _
     have hin:=fun d=>zZAT W4 x d (pv S.pk1 a :: pv S.pk2 a :: ns)
     generalize decide (x ∈ pv S.pk1 a :: pv S.pk2 a :: ns) = B at *
     generalize (pv S.pk1 a :: pv S.pk2 a :: ns).map D.int = NL at *
     clear hcD hnz hnum hR hat hf hml hmn hfl
     walk_at "ev3"
    generalize hVS : ((List.range (sz S.ks S.cs a).toNat).map fun j : Nat=>(j : Int)).filter (fun x=>decide (x ∈ pv S.pk1 a :: pv S.pk2 a :: ns)) = vs at *
    have hmem : ∀ x,x ∈ vs ↔ (0 ≤ x ∧ x < sz S.ks S.cs a) ∧ x ∈ pv S.pk1 a :: pv S.pk2 a :: ns:=by
     intro x
     rw [← hVS,List.mem_filter,List.mem_map,decide_eq_true_eq]
     refine and_congr_left fun _=>⟨?_,fun hx => ?_⟩
     ·rintro ⟨j,hj,rfl⟩
      have:=List.mem_range.mp hj
      omega
     ·obtain ⟨j,hj⟩:=Int.eq_ofNat_of_zero_le hx.1
      exact ⟨j,List.mem_range.mpr (by omega),hj.symm⟩
    have hvl : vs.length ≤ 16:=by
     rw [← hVS]
     have:=List.length_filter_le (fun x=>decide (x ∈ pv S.pk1 a :: pv S.pk2 a :: ns)) ((List.range (sz S.ks S.cs a).toNat).map fun j : Nat=>(j : Int))
     rw [List.length_map,List.length_range] at this
     omega
    have hX : pv S.pk1 a ∈ vs:=(hmem _).mpr ⟨⟨u0,u1⟩,List.mem_cons_self⟩
    have hY : pv S.pk2 a ∈ vs:=(hmem _).mpr ⟨⟨v0,v1⟩,List.mem_cons_of_mem _ List.mem_cons_self⟩
    refine ⟨some (.among a vs),W4,h4,fun c e => ?_, ?_⟩
    ·simp only [Option.some.injEq] at e
     subst e
     refine ⟨⟨haP,hvl,fun x hx => ?_⟩,⟨hX,hY⟩,fun b hb => ?_⟩
     ·have:=(hmem x).mp hx
      omega
     ·intro e
      have e : vs = []:=e
      rw [e] at hX
      cases hX
    ·have hcl : [D.int (pv S.pk1 a),.int (pv S.pk2 a)].length + (ns.map D.int).length ≤ cap:=by
      simp only [List.length_cons,List.length_nil,List.length_map]
      unfold cap
      omega
     have hgk : -4611686018427387904 ≤ k ∧ k < 4611686018427387904:=by omega
     have hgs : -4611686018427387904 ≤ sz S.ks S.cs a ∧ sz S.ks S.cs a < 4611686018427387904:=by omega
     clear h h1 h2 h3 h4 P1 P2 P3 P4 K hml hml2 hm0 hmn hmem hX hY hVS hR hnz hvl hxy
     simp only [cnO,cnD,hnmD,List.map_cons,List.cons_append,List.nil_append] at *
     clear hnmD hnum
     generalize (pls S.ks S.cs).length = PL at *
     generalize (pls S.ks S.cs).map (fdD S) = PD at *
     generalize pv S.pk1 a = X at *
     generalize pv S.pk2 a = Y at *
     generalize sz S.ks S.cs a = Z at *
     generalize ns.map D.int = ND at *
     generalize vs.map D.int = VD at *
     subst hfl
     walk_at "ev3"
   ·have hcS : ∀ b : Bool,compR (cfgN T (n + 1)) (.var 9) (.nm 9) (.cons (.and (.cons (.cmp .ne (.idx (.var 9) (.int 0)) (.var 5)) (.cons (.cmp .eq (.idx (.var 9) (.int 2)) (.var 7)) .nil))) .nil) [.val (.own p0),.val (.own a0),.val (.lst ((pls S.ks S.cs).map (fdD S))),.val (.int 5),.no,.val (nmD a),.val (.int (sz S.ks S.cs a)),.val (.lst [.int (pv S.pk1 a),.int (pv S.pk2 a)]),.no,.no,.no,.no] ((pls S.ks S.cs).map (fdD S),b) W2 = .ok (((pls S.ks S.cs).filter fun x => !decide (x = a) && decide ([pv S.pk1 x,pv S.pk2 x] = [pv S.pk1 a,pv S.pk2 a])).map (fdD S)) W2:=by
     intro b
     refine zZm (fdD S) (fdD S) _ (pls S.ks S.cs) (by unfold cap; omega) fun x hx=>⟨_,rfl, ?_,fun _=>rfl⟩
     show evTs _ _ [.val (.own p0),.val (.own a0),.val (.lst ((pls S.ks S.cs).map (fdD S))),.val (.int 5),.no,.val (nmD a),.val (.int (sz S.ks S.cs a)),.val (.lst [.int (pv S.pk1 a),.int (pv S.pk2 a)]),.no,.val (fdD S x),.no,.no] W2 = _
     have hne:=zZMn (pl_s K.cs (mem_pls.mp hx)) hS
     have hee:=zZHm [pv S.pk1 x,pv S.pk2 x] [pv S.pk1 a,pv S.pk2 a]
     clear hat hf hml hmn hfl hnmD hxy
     simp only [fdD,List.map_cons,List.map_nil] at *
     generalize decide ([pv S.pk1 x,pv S.pk2 x] = [pv S.pk1 a,pv S.pk2 a]) = B2 at *
     generalize decide (x = a) = B1 at *
     generalize nmD x = NX at *
     generalize nmD a = NA at *
     cases B1 <;> simp only [Bool.not_true,Bool.not_false,Bool.true_and,Bool.false_and] at * <;> walk_at "ev3"
    have hFm : ∀ x,x ∈ ((pls S.ks S.cs).filter fun x => !decide (x = a) && decide ([pv S.pk1 x,pv S.pk2 x] = [pv S.pk1 a,pv S.pk2 a])) → PlOK S.ks S.cs x ∧ pv S.pk1 x = pv S.pk1 a ∧ pv S.pk2 x = pv S.pk2 a ∧ x ≠ a:=by
     intro x hx
     obtain ⟨x1,x2⟩:=List.mem_filter.mp hx
     simp only [Bool.and_eq_true,Bool.not_eq_true',decide_eq_false_iff_not,decide_eq_true_eq,List.cons.injEq,and_true] at x2
     exact ⟨mem_pls.mp x1,x2.2.1,x2.2.2,x2.1⟩
    have hFl:=List.length_filter_le (fun x => !decide (x = a) && decide ([pv S.pk1 x,pv S.pk2 x] = [pv S.pk1 a,pv S.pk2 a])) (pls S.ks S.cs)
    generalize ((pls S.ks S.cs).filter fun x => !decide (x = a) && decide ([pv S.pk1 x,pv S.pk2 x] = [pv S.pk1 a,pv S.pk2 a])) = FL at *
    have hFL : (FL.map (fdD S)).length = FL.length:=List.length_map _
    cases hFe : FL with
    | nil =>
     subst hFe
     refine ⟨none,W2,h2,fun c e=>(by cases e), ?_⟩
     clear h h1 h2 P1 P2 K hml hml2 hm0 hmn hFm hFl hFL hxy
     simp only [cnO,hnmD,List.map_nil] at *
     clear hnmD
     generalize (pls S.ks S.cs).length = PL at *
     generalize (pls S.ks S.cs).map (fdD S) = PD at *
     generalize pv S.pk1 a = X at *
     generalize pv S.pk2 a = Y at *
     subst hfl
     walk_at "ev3"
    | cons f0 fr =>
     have hFp : 0 < FL.length:=by rw [hFe]; simp
     clear hFe
     obtain ⟨i2,W3,e3,a3,b3,P3,h3⟩:=zZI n (FL.length : Int) h2 (by omega) (by omega)
     obtain ⟨b,hb,hbt⟩:=zZDc (fdD S) FL a3 b3
     obtain ⟨b1',b2',b3',b4'⟩:=hFm b hb
     have hzF : cmpD .eq (.int (FL.length : Int)) (.int 0) = some (.bl false):=by
      have : cmpD .eq (.int (FL.length : Int)) (.int 0) = some (.bl (decide ((FL.length : Int) = 0))):=rfl
      rw [this,decide_eq_false (by omega)]
     have hgF : -4611686018427387904 ≤ (FL.length : Int) ∧ (FL.length : Int) < 4611686018427387904:=by omega
     refine ⟨some (.same a b),W3,h3,fun c e => ?_, ?_⟩
     ·simp only [Option.some.injEq] at e
      subst e
      exact ⟨⟨haP,b1'⟩,⟨b2'.symm,b3'.symm,b4'⟩,fun b hb=>(by cases hb)⟩
     ·have hfb : fdD S b = .tup [.tup [.str (mowS b.1),.str (fnm b.2)],.int (sz S.ks S.cs b),.lst [.int (pv S.pk1 b),.int (pv S.pk2 b)]]:=rfl
      rw [hfb] at hbt
      clear h h1 h2 h3 P1 P2 P3 K hml hml2 hm0 hmn hFm hFl hb b2' b3' b4' hfb hxy
      simp only [cnO,cnD,hnmD] at *
      clear hnmD
      generalize (pls S.ks S.cs).length = PL at *
      generalize (pls S.ks S.cs).map (fdD S) = PD at *
      generalize pv S.pk1 a = X at *
      generalize pv S.pk2 a = Y at *
      generalize FL.length = FN at *
      generalize FL.map (fdD S) = FD at *
      subst hfl
      subst hFL
      walk_at "ev3"
  ·rcases hway with rfl | rfl | rfl | rfl | rfl | rfl
   ·obtain ⟨m,W3,e3,a3,b3,P3,h3⟩:=zZI n (minI (pv S.pk1 a) [pv S.pk2 a] + 1) h2 (by omega) (by omega)
    refine ⟨some (.least a m),W3,h3,fun c e => ?_, ?_⟩
    ·simp only [Option.some.injEq] at e
     subst e
     refine ⟨⟨haP,a3,by omega⟩,⟨by omega,by omega⟩,fun b hb => ?_⟩
     simp only [cand,ne_eq,List.map_eq_nil_iff,List.range_eq_nil]
     omega
    ·clear h h1 h2 h3 P1 P2 P3 K hml hml2 a3 b3 hm0
     simp only [cnO,cnD,hnmD] at *
     clear hnmD
     generalize minI (pv S.pk1 a) [pv S.pk2 a] = MN at *
     generalize (pls S.ks S.cs).length = PL at *
     generalize (pls S.ks S.cs).map (fdD S) = PD at *
     generalize pv S.pk1 a = X at *
     generalize pv S.pk2 a = Y at *
     subst hfl
     walk_at "ev3"
   ·obtain ⟨m,W3,e3,a3,b3,P3,h3⟩:=zZI n (minI (pv S.pk1 a) [pv S.pk2 a] + 1) h2 (by omega) (by omega)
    refine ⟨some (.least a m),W3,h3,fun c e => ?_, ?_⟩
    ·simp only [Option.some.injEq] at e
     subst e
     refine ⟨⟨haP,a3,by omega⟩,⟨by omega,by omega⟩,fun b hb => ?_⟩
     simp only [cand,ne_eq,List.map_eq_nil_iff,List.range_eq_nil]
     omega
    ·clear h h1 h2 h3 P1 P2 P3 K hml hml2 a3 b3 hm0
     simp only [cnO,cnD,hnmD] at *
     clear hnmD
     generalize minI (pv S.pk1 a) [pv S.pk2 a] = MN at *
     generalize (pls S.ks S.cs).length = PL at *
     generalize (pls S.ks S.cs).map (fdD S) = PD at *
     generalize pv S.pk1 a = X at *
     generalize pv S.pk2 a = Y at *
     subst hfl
     walk_at "ev3"
   ·obtain ⟨m,W3,e3,a3,b3,P3,h3⟩:=zZI n (minI (pv S.pk1 a) [pv S.pk2 a] + 1) h2 (by omega) (by omega)
    refine ⟨some (.least a m),W3,h3,fun c e => ?_, ?_⟩
    ·simp only [Option.some.injEq] at e
     subst e
     refine ⟨⟨haP,a3,by omega⟩,⟨by omega,by omega⟩,fun b hb => ?_⟩
     simp only [cand,ne_eq,List.map_eq_nil_iff,List.range_eq_nil]
     omega
    ·clear h h1 h2 h3 P1 P2 P3 K hml hml2 a3 b3 hm0
     simp only [cnO,cnD,hnmD] at *
     clear hnmD
     generalize minI (pv S.pk1 a) [pv S.pk2 a] = MN at *
     generalize (pls S.ks S.cs).length = PL at *
     generalize (pls S.ks S.cs).map (fdD S) = PD at *
     generalize pv S.pk1 a = X at *
     generalize pv S.pk2 a = Y at *
     subst hfl
     walk_at "ev3"
   ·obtain ⟨m,W3,e3,a3,b3,P3,h3⟩:=zZI n (minI (pv S.pk1 a) [pv S.pk2 a] + 1) h2 (by omega) (by omega)
    refine ⟨some (.least a m),W3,h3,fun c e => ?_, ?_⟩
    ·simp only [Option.some.injEq] at e
     subst e
     refine ⟨⟨haP,a3,by omega⟩,⟨by omega,by omega⟩,fun b hb => ?_⟩
     simp only [cand,ne_eq,List.map_eq_nil_iff,List.range_eq_nil]
     omega
    ·clear h h1 h2 h3 P1 P2 P3 K hml hml2 a3 b3 hm0
     simp only [cnO,cnD,hnmD] at *
     clear hnmD
     generalize minI (pv S.pk1 a) [pv S.pk2 a] = MN at *
     generalize (pls S.ks S.cs).length = PL at *
     generalize (pls S.ks S.cs).map (fdD S) = PD at *
     generalize pv S.pk1 a = X at *
     generalize pv S.pk2 a = Y at *
     subst hfl
     walk_at "ev3"
   ·obtain ⟨k,W3,e3,a3,b3,P3,h3⟩:=zZI n 3 h2 (by omega) (by omega)
    obtain ⟨ns,W4,r1,r2,P4,hnz⟩:=zZG9 n p0 (sz S.ks S.cs a) (by omega) (by omega) W3 (.val (.own a0)) (.val (.lst ((pls S.ks S.cs).map (fdD S)))) (.val (.int 4)) .no (.val (nmD a)) (.val (.lst [.int (pv S.pk1 a),.int (pv S.pk2 a)])) .no .no .no k.toNat 0 W3 ⟨P3.1,Kp.refl p0 W3⟩
    have h4:=h3.kp P4
    have hcD : compR (cfgN T (n + 1)) (.call zZA (.cons (.var 0) (.cons (.var 6) .nil))) (.nm 10) .nil [.val (.own p0),.val (.own a0),.val (.lst ((pls S.ks S.cs).map (fdD S))),.val (.int 4),.no,.val (nmD a),.val (.int (sz S.ks S.cs a)),.val (.lst [.int (pv S.pk1 a),.int (pv S.pk2 a)]),.no,.no,.no,.no] (rangeD 0 k.toNat,false) W3 = .ok (ns.map .int) W4:=by
     rw [yZa (by rw [zZBP]; unfold cap; omega)]
     exact hnz
    have hnum : [D.int (pv S.pk1 a),.int (pv S.pk2 a)] ++ ns.map .int = (pv S.pk1 a :: pv S.pk2 a :: ns).map .int:=rfl
    have hR : rangeD 0 (sz S.ks S.cs a).toNat = ((List.range (sz S.ks S.cs a).toNat).map fun j : Nat=>(j : Int)).map D.int:=by
     unfold rangeD
     rw [List.map_map]
     refine List.map_congr_left fun j _ => ?_
     show D.int (0 + (j : Int)) = .int (j : Int)
     rw [Int.zero_add]
    have hcF : compR (cfgN T (n + 1)) (.var 11) (.nm 11) (.cons (.cmp .inn (.var 11) (.var 8)) .nil) [.val (.own p0),.val (.own a0),.val (.lst ((pls S.ks S.cs).map (fdD S))),.val (.int 4),.no,.val (nmD a),.val (.int (sz S.ks S.cs a)),.val (.lst [.int (pv S.pk1 a),.int (pv S.pk2 a)]),.val (.lst ((pv S.pk1 a :: pv S.pk2 a :: ns).map .int)),.no,.no,.no] (rangeD 0 (sz S.ks S.cs a).toNat,false) W4 = .ok ((((List.range (sz S.ks S.cs a).toNat).map fun j : Nat=>(j : Int)).filter fun x=>decide (x ∈ pv S.pk1 a :: pv S.pk2 a :: ns)).map .int) W4:=by
     rw [hR]
     refine zZm D.int D.int (fun x=>decide (x ∈ pv S.pk1 a :: pv S.pk2 a :: ns)) _ (by rw [List.length_map,List.length_range]; unfold cap; omega) fun x _=>⟨_,rfl, ?_,fun _=>rfl⟩
     show evTs _ _ [.val (.own p0),.val (.own a0),.val (.lst ((pls S.ks S.cs).map (fdD S))),.val (.int 4),.no,.val (nmD a),.val (.int (sz S.ks S.cs a)),.val (.lst [.int (pv S.pk1 a),.int (pv S.pk2 a)]),.val (.lst ((pv S.pk1 a :: pv S.pk2 a :: ns).map .int)),.no,.no,.val (.int x)] W4 = _
     have hin:=fun d=>zZAT W4 x d (pv S.pk1 a :: pv S.pk2 a :: ns)
     generalize decide (x ∈ pv S.pk1 a :: pv S.pk2 a :: ns) = B at *
     generalize (pv S.pk1 a :: pv S.pk2 a :: ns).map D.int = NL at *
     clear hcD hnz hnum hR hat hf hml hmn hfl
     walk_at "ev3"
    generalize hVS : ((List.range (sz S.ks S.cs a).toNat).map fun j : Nat=>(j : Int)).filter (fun x=>decide (x ∈ pv S.pk1 a :: pv S.pk2 a :: ns)) = vs at *
    have hmem : ∀ x,x ∈ vs ↔ (0 ≤ x ∧ x < sz S.ks S.cs a) ∧ x ∈ pv S.pk1 a :: pv S.pk2 a :: ns:=by
     intro x
     rw [← hVS,List.mem_filter,List.mem_map,decide_eq_true_eq]
     refine and_congr_left fun _=>⟨?_,fun hx => ?_⟩
     ·rintro ⟨j,hj,rfl⟩
      have:=List.mem_range.mp hj
      omega
     ·obtain ⟨j,hj⟩:=Int.eq_ofNat_of_zero_le hx.1
      exact ⟨j,List.mem_range.mpr (by omega),hj.symm⟩
    have hvl : vs.length ≤ 16:=by
     rw [← hVS]
     have:=List.length_filter_le (fun x=>decide (x ∈ pv S.pk1 a :: pv S.pk2 a :: ns)) ((List.range (sz S.ks S.cs a).toNat).map fun j : Nat=>(j : Int))
     rw [List.length_map,List.length_range] at this
     omega
    have hX : pv S.pk1 a ∈ vs:=(hmem _).mpr ⟨⟨u0,u1⟩,List.mem_cons_self⟩
    have hY : pv S.pk2 a ∈ vs:=(hmem _).mpr ⟨⟨v0,v1⟩,List.mem_cons_of_mem _ List.mem_cons_self⟩
    refine ⟨some (.among a vs),W4,h4,fun c e => ?_, ?_⟩
    ·simp only [Option.some.injEq] at e
     subst e
     refine ⟨⟨haP,hvl,fun x hx => ?_⟩,⟨hX,hY⟩,fun b hb => ?_⟩
     ·have:=(hmem x).mp hx
      omega
     ·intro e
      have e : vs = []:=e
      rw [e] at hX
      cases hX
    ·have hcl : [D.int (pv S.pk1 a),.int (pv S.pk2 a)].length + (ns.map D.int).length ≤ cap:=by
      simp only [List.length_cons,List.length_nil,List.length_map]
      unfold cap
      omega
     have hgk : -4611686018427387904 ≤ k ∧ k < 4611686018427387904:=by omega
     have hgs : -4611686018427387904 ≤ sz S.ks S.cs a ∧ sz S.ks S.cs a < 4611686018427387904:=by omega
     clear h h1 h2 h3 h4 P1 P2 P3 P4 K hml hml2 hm0 hmn hmem hX hY hVS hR hnz hvl hxy
     simp only [cnO,cnD,hnmD,List.map_cons,List.cons_append,List.nil_append] at *
     clear hnmD hnum
     generalize (pls S.ks S.cs).length = PL at *
     generalize (pls S.ks S.cs).map (fdD S) = PD at *
     generalize pv S.pk1 a = X at *
     generalize pv S.pk2 a = Y at *
     generalize sz S.ks S.cs a = Z at *
     generalize ns.map D.int = ND at *
     generalize vs.map D.int = VD at *
     subst hfl
     walk_at "ev3"
   ·have hcS : ∀ b : Bool,compR (cfgN T (n + 1)) (.var 9) (.nm 9) (.cons (.and (.cons (.cmp .ne (.idx (.var 9) (.int 0)) (.var 5)) (.cons (.cmp .eq (.idx (.var 9) (.int 2)) (.var 7)) .nil))) .nil) [.val (.own p0),.val (.own a0),.val (.lst ((pls S.ks S.cs).map (fdD S))),.val (.int 5),.no,.val (nmD a),.val (.int (sz S.ks S.cs a)),.val (.lst [.int (pv S.pk1 a),.int (pv S.pk2 a)]),.no,.no,.no,.no] ((pls S.ks S.cs).map (fdD S),b) W2 = .ok (((pls S.ks S.cs).filter fun x => !decide (x = a) && decide ([pv S.pk1 x,pv S.pk2 x] = [pv S.pk1 a,pv S.pk2 a])).map (fdD S)) W2:=by
     intro b
     refine zZm (fdD S) (fdD S) _ (pls S.ks S.cs) (by unfold cap; omega) fun x hx=>⟨_,rfl, ?_,fun _=>rfl⟩
     show evTs _ _ [.val (.own p0),.val (.own a0),.val (.lst ((pls S.ks S.cs).map (fdD S))),.val (.int 5),.no,.val (nmD a),.val (.int (sz S.ks S.cs a)),.val (.lst [.int (pv S.pk1 a),.int (pv S.pk2 a)]),.no,.val (fdD S x),.no,.no] W2 = _
     have hne:=zZMn (pl_s K.cs (mem_pls.mp hx)) hS
     have hee:=zZHm [pv S.pk1 x,pv S.pk2 x] [pv S.pk1 a,pv S.pk2 a]
     clear hat hf hml hmn hfl hnmD hxy
     simp only [fdD,List.map_cons,List.map_nil] at *
     generalize decide ([pv S.pk1 x,pv S.pk2 x] = [pv S.pk1 a,pv S.pk2 a]) = B2 at *
     generalize decide (x = a) = B1 at *
     generalize nmD x = NX at *
     generalize nmD a = NA at *
     cases B1 <;> simp only [Bool.not_true,Bool.not_false,Bool.true_and,Bool.false_and] at * <;> walk_at "ev3"
    have hFm : ∀ x,x ∈ ((pls S.ks S.cs).filter fun x => !decide (x = a) && decide ([pv S.pk1 x,pv S.pk2 x] = [pv S.pk1 a,pv S.pk2 a])) → PlOK S.ks S.cs x ∧ pv S.pk1 x = pv S.pk1 a ∧ pv S.pk2 x = pv S.pk2 a ∧ x ≠ a:=by
     intro x hx
     obtain ⟨x1,x2⟩:=List.mem_filter.mp hx
     simp only [Bool.and_eq_true,Bool.not_eq_true',decide_eq_false_iff_not,decide_eq_true_eq,List.cons.injEq,and_true] at x2
     exact ⟨mem_pls.mp x1,x2.2.1,x2.2.2,x2.1⟩
    have hFl:=List.length_filter_le (fun x => !decide (x = a) && decide ([pv S.pk1 x,pv S.pk2 x] = [pv S.pk1 a,pv S.pk2 a])) (pls S.ks S.cs)
    generalize ((pls S.ks S.cs).filter fun x => !decide (x = a) && decide ([pv S.pk1 x,pv S.pk2 x] = [pv S.pk1 a,pv S.pk2 a])) = FL at *
    have hFL : (FL.map (fdD S)).length = FL.length:=List.length_map _
    cases hFe : FL with
    | nil =>
     subst hFe
     refine ⟨none,W2,h2,fun c e=>(by cases e), ?_⟩
     clear h h1 h2 P1 P2 K hml hml2 hm0 hmn hFm hFl hFL hxy
     simp only [cnO,hnmD,List.map_nil] at *
     clear hnmD
     generalize (pls S.ks S.cs).length = PL at *
     generalize (pls S.ks S.cs).map (fdD S) = PD at *
     generalize pv S.pk1 a = X at *
     generalize pv S.pk2 a = Y at *
     subst hfl
     walk_at "ev3"
    | cons f0 fr =>
     have hFp : 0 < FL.length:=by rw [hFe]; simp
     clear hFe
     obtain ⟨i2,W3,e3,a3,b3,P3,h3⟩:=zZI n (FL.length : Int) h2 (by omega) (by omega)
     obtain ⟨b,hb,hbt⟩:=zZDc (fdD S) FL a3 b3
     obtain ⟨b1',b2',b3',b4'⟩:=hFm b hb
     have hzF : cmpD .eq (.int (FL.length : Int)) (.int 0) = some (.bl false):=by
      have : cmpD .eq (.int (FL.length : Int)) (.int 0) = some (.bl (decide ((FL.length : Int) = 0))):=rfl
      rw [this,decide_eq_false (by omega)]
     have hgF : -4611686018427387904 ≤ (FL.length : Int) ∧ (FL.length : Int) < 4611686018427387904:=by omega
     refine ⟨some (.same a b),W3,h3,fun c e => ?_, ?_⟩
     ·simp only [Option.some.injEq] at e
      subst e
      exact ⟨⟨haP,b1'⟩,⟨b2'.symm,b3'.symm,b4'⟩,fun b hb=>(by cases hb)⟩
     ·have hfb : fdD S b = .tup [.tup [.str (mowS b.1),.str (fnm b.2)],.int (sz S.ks S.cs b),.lst [.int (pv S.pk1 b),.int (pv S.pk2 b)]]:=rfl
      rw [hfb] at hbt
      clear h h1 h2 h3 P1 P2 P3 K hml hml2 hm0 hmn hFm hFl hb b2' b3' b4' hfb hxy
      simp only [cnO,cnD,hnmD] at *
      clear hnmD
      generalize (pls S.ks S.cs).length = PL at *
      generalize (pls S.ks S.cs).map (fdD S) = PD at *
      generalize pv S.pk1 a = X at *
      generalize pv S.pk2 a = Y at *
      generalize FL.length = FN at *
      generalize FL.map (fdD S) = FD at *
      subst hfl
      subst hFL
      walk_at "ev3"
structure RWS (S : Sc) : Prop where
 l : S.rows.length = S.cs.length
 r : ∀ (i : Nat) (r : List Tr3),S.rows[i]? = some r → 2 ≤ r.length ∧ r.length ≤ 4 ∧ (∃ c,S.cs[i]? = some c ∧ RowSp S.p S.q c.ns r) ∧ ∃ k1 k2,S.pk1[i]? = some k1 ∧ S.pk2[i]? = some k2 ∧ PkSp S.p S.q S.bs r k1 S.s1 k1.vs ∧ PkSp S.p S.q S.bs r k2 S.s2 k2.vs ∧ k1.i ≠ k2.i
structure Mid (S : Sc) (i : Nat) : Prop where
 kk : KsOK 16 S.ks
 k1 : 1 ≤ S.ks.length
 g : GOK S.p S.q S.bs
 bl : 6 ≤ S.bs.length ∧ S.bs.length ≤ 12
 cl : S.cs.length = i
 c : ∀ j c,S.cs[j]? = some c → c.nm = mowS j ∧ (∃ k ∈ S.ks,c.k = k.1) ∧ c.ns.length ≤ 3 ∧ ∀ s ∈ c.ns,PySem.PyData.strOk s = true
 p1 : PkOK S.ks S.cs S.pk1
 p2 : PkOK S.ks S.cs S.pk2
 rw_ : RWS S
 cn : S.cn = []
theorem zZLP {ks : List Kd} {cs : List Cd} {c : Cd} {i : Nat} (h : i < cs.length) : fl ks (cs ++ [c]) i = fl ks cs i:=by
 unfold fl
 rw [List.getElem?_append_left h]
theorem zZKI {ks : List Kd} {cs : List Cd} {c : Cd} {k : Kd} (h : kfind ks c.k = some k) : fl ks (cs ++ [c]) cs.length = k.2:=by
 unfold fl
 rw [List.getElem?_append_right (Nat.le_refl _),Nat.sub_self]
 simp only [List.getElem?_cons_zero,h]
theorem zZOr {ks : List Kd} {cs : List Cd} {c : Cd} {a : Pl} (h : a.1 < cs.length) : sz ks (cs ++ [c]) a = sz ks cs a:=by
 unfold sz
 rw [zZLP h]
theorem PkOK.app {ks : List Kd} {cs : List Cd} {c : Cd} {pk : List Pk} {k : Kd} {x : Pk} (h : PkOK ks cs pk) (hk : kfind ks c.k = some k) (hl : x.vs.length = k.2.length) (hi : 0 ≤ x.i ∧ x.i < 4) (hv : ∀ (j : Nat) (f : Str × Int) (v : Int),k.2[j]? = some f → x.vs[j]? = some v → 0 ≤ v ∧ v < f.2) : PkOK ks (cs ++ [c]) (pk ++ [x]):=by
 refine ⟨by simp [h.l],fun i y hy => ?_⟩
 by_cases e : i < pk.length
 ·rw [List.getElem?_append_left e] at hy
  have hic : i < cs.length:=by rw [← h.l]; exact e
  obtain ⟨h1,h2,h3,h4⟩:=h.v i y hy
  rw [zZLP hic]
  refine ⟨h1,h2,h3,fun j v hj => ?_⟩
  rw [zZOr (show (i,j).1 < cs.length from hic)]
  exact h4 j v hj
 ·rw [List.getElem?_append_right (by omega)] at hy
  have h0 : i - pk.length = 0:=by
   cases q : i - pk.length with
   | zero=>rfl
   | succ _=>rw [q] at hy; simp at hy
  rw [h0] at hy
  simp only [List.getElem?_cons_zero,Option.some.injEq] at hy
  subst hy
  have hi' : i = cs.length:=by have:=h.l; omega
  subst hi'
  rw [zZKI hk]
  refine ⟨hl,hi.1,hi.2,fun j v hj => ?_⟩
  have hjl : j < k.2.length:=by rw [← hl]; exact (List.getElem?_eq_some_iff.mp hj).1
  have hf : k.2[j]? = some k.2[j]:=List.getElem?_eq_getElem hjl
  have:=hv j _ v hf hj
  unfold sz
  rw [zZKI hk]
  simp only [hf,Option.map_some,Option.getD_some]
  exact this
def issL : List (List Str):=[["town"],["state","town"],["town","state","land"]]
theorem zZL5 {S : Sc} {i : Nat} (M : Mid S i) (hi : i < 3) {k : Kd} (hk : k ∈ S.ks) {iss : List Str} (hiss : iss ∈ issL) {xs ys : List Int} {r : List Tr3} {k1 k2 : Pk} (h1 : xs.length = k.2.length) (h2 : ys.length = k.2.length) (h3 : ∀ (j : Nat) (f : Str × Int) (x : Int),k.2[j]? = some f → xs[j]? = some x → 0 ≤ x ∧ x < f.2) (h4 : ∀ (j : Nat) (f : Str × Int) (x : Int),k.2[j]? = some f → ys[j]? = some x → 0 ≤ x ∧ x < f.2)
  (r2 : 2 ≤ r.length) (r4 : r.length ≤ 4) (hr : RowSp S.p S.q iss r) (q1 : PkSp S.p S.q S.bs r k1 S.s1 xs) (q2 : PkSp S.p S.q S.bs r k2 S.s2 ys) (hne : k1.i ≠ k2.i) :
  Mid { S with cs:=S.cs ++ [⟨mowS i,k.1,iss⟩],rows:=S.rows ++ [r],pk1:=S.pk1 ++ [k1],pk2:=S.pk2 ++ [k2] } (i + 1):=by
 have hkf:=M.kk.find hk
 have hil : iss.length ≤ 3 ∧ ∀ s ∈ iss,PySem.PyData.strOk s = true:=by
  simp only [issL,List.mem_cons,List.not_mem_nil,or_false] at hiss
  rcases hiss with rfl | rfl | rfl <;> exact ⟨by decide,by decide +kernel⟩
 have hcl:=M.cl
 have bnd_ : ∀ {k0 : Pk} {s : Int} {vs : List Int},PkSp S.p S.q S.bs r k0 s vs → 0 ≤ k0.i ∧ k0.i < 4:=by
  intro k0 s vs h
  obtain ⟨j,t,e1,e2,_⟩:=h.t
  have:=(List.getElem?_eq_some_iff.mp e2).1
  omega
 refine ⟨M.kk,M.k1,M.g,M.bl,by simp [hcl],fun j c hc => ?_, ?_, ?_,⟨by simp [M.rw_.l],fun j x hx => ?_⟩,M.cn⟩
 ·by_cases e : j < S.cs.length
  ·rw [List.getElem?_append_left e] at hc
   exact M.c j c hc
  ·rw [List.getElem?_append_right (by omega)] at hc
   have h0 : j - S.cs.length = 0:=by
    cases q : j - S.cs.length with
    | zero=>rfl
    | succ _=>rw [q] at hc; simp at hc
   rw [h0] at hc
   simp only [List.getElem?_cons_zero,Option.some.injEq] at hc
   subst hc
   exact ⟨by rw [show j = i by omega],⟨k,hk,rfl⟩,hil⟩
 ·refine M.p1.app (k:=k) hkf (by rw [q1.hv]; exact h1) (bnd_ q1) fun j f v hf hv => ?_
  rw [q1.hv] at hv
  exact h3 j f v hf hv
 ·refine M.p2.app (k:=k) hkf (by rw [q2.hv]; exact h2) (bnd_ q2) fun j f v hf hv => ?_
  rw [q2.hv] at hv
  exact h4 j f v hf hv
 ·have hp1:=M.p1.l
  have hp2:=M.p2.l
  have hrl:=M.rw_.l
  by_cases e : j < S.rows.length
  ·rw [List.getElem?_append_left e] at hx
   obtain ⟨a1,a2,⟨c,a3,a4⟩,x1,x2,a5,a6,a7⟩:=M.rw_.r j x hx
   refine ⟨a1,a2,⟨c, ?_,a4⟩,x1,x2, ?_, ?_,a7⟩
   ·show (S.cs ++ _)[j]? = _
    rw [List.getElem?_append_left (by omega)]
    exact a3
   ·show (S.pk1 ++ _)[j]? = _
    rw [List.getElem?_append_left (by omega)]
    exact a5
   ·show (S.pk2 ++ _)[j]? = _
    rw [List.getElem?_append_left (by omega)]
    exact a6
  ·rw [List.getElem?_append_right (by omega)] at hx
   have h0 : j - S.rows.length = 0:=by
    cases q : j - S.rows.length with
    | zero=>rfl
    | succ _=>rw [q] at hx; simp at hx
   rw [h0] at hx
   simp only [List.getElem?_cons_zero,Option.some.injEq] at hx
   subst hx
   refine ⟨r2,r4,⟨⟨mowS i,k.1,iss⟩, ?_,hr⟩,k1,k2, ?_, ?_,by rw [q1.hv]; exact q1,by rw [q2.hv]; exact q2,hne⟩
   ·show (S.cs ++ _)[j]? = _
    rw [List.getElem?_append_right (by omega),show j - S.cs.length = 0 by omega]
    rfl
   ·show (S.pk1 ++ _)[j]? = _
    rw [List.getElem?_append_right (by omega),show j - S.pk1.length = 0 by omega]
    rfl
   ·show (S.pk2 ++ _)[j]? = _
    rw [List.getElem?_append_right (by omega),show j - S.pk2.length = 0 by omega]
    rfl
theorem zZJ3 (n p0 a : Nat) (d : Ad) (y1 y2 y3 y7 y10 y11 : Slot) : ∀ (m i : Nat) (S : Sc) (W : Wd) (z6 z8 z9 z12 z13 : Slot),i + m ≤ 3 → Mid S i → ScP p0 W a d S → ∃ (S' : Sc) (W' : Wd) (z6' z8' z9' z12' z13' : Slot),Mid S' (i + m) ∧ ScP p0 W' a d S' ∧ S'.p = S.p ∧ S'.q = S.q ∧ S'.bs = S.bs ∧ S'.ks = S.ks ∧ S'.s1 = S.s1 ∧ S'.s2 = S.s2 ∧
  forL (tgD (.nm 6)) (exS (cfgN T (n + 7)) ((forsS zZx).getD 0 .skip)) (rangeD (i : Int) m) [.val (.own p0),y1,y2,y3,.val (.lst (S.ks.map kT)),.val (.own a),z6,y7,z8,z9,y10,y11,z12,z13] W =
   .ok (.nx [.val (.own p0),y1,y2,y3,.val (.lst (S.ks.map kT)),.val (.own a),z6',y7,z8',z9',y10,y11,z12',z13']) W':=by
 simp only [zZx,forsS,List.getD_cons_zero]
 intro m
 induction m with
 | zero=>intro i S W z6 z8 z9 z12 z13 _ M h; exact ⟨S,W,z6,z8,z9,z12,z13,M,h,rfl,rfl,rfl,rfl,rfl,rfl,rfl⟩
 | succ m ih =>
  intro i S W z6 z8 z9 z12 z13 hi M h
  have hk1:=M.k1
  have hk2:=M.kk.1
  obtain ⟨v,W1,e1,a1,b1,P1,h1⟩:=zZI (n + 6) (S.ks.length : Int) h (by omega) (by omega)
  obtain ⟨k,hk,hkt⟩:=zZDc kT S.ks a1 b1
  obtain ⟨w,W2,e2,a2,b2,P2,h2⟩:=zZI (n + 6) 3 h1 (by omega) (by omega)
  have hiss : ∃ iss ∈ issL,atD [.tup [.str "town"],.tup [.str "state",.str "town"],.tup [.str "town",.str "state",.str "land"]] (.int w) = some (.tup (iss.map .str)):=by
   have : w = 0 ∨ w = 1 ∨ w = 2:=by omega
   rcases this with rfl | rfl | rfl
   ·exact ⟨["town"],by simp [issL],rfl⟩
   ·exact ⟨["state","town"],by simp [issL],rfl⟩
   ·exact ⟨["town","state","land"],by simp [issL],rfl⟩
  obtain ⟨iss,hi1,hi2⟩:=hiss
  have hil : 1 ≤ iss.length ∧ iss.length ≤ 10:=by
   simp only [issL,List.mem_cons,List.not_mem_nil,or_false] at hi1
   rcases hi1 with rfl | rfl | rfl <;> simp
  have hcl:=M.cl
  have h3:=h2.setC (S.cs ++ [⟨mowS i,k.1,iss⟩])
  obtain ⟨ki,hki,kok⟩:=M.kk.get hk
  have hbl:=M.bl
  have hfs : ∀ f ∈ k.2,1 ≤ f.2 ∧ f.2 ≤ 1000:=by
   intro f hf
   obtain ⟨j,hj⟩:=List.getElem?_of_mem hf
   have:=kok.fs j f hj
   omega
  have hkl:=kok.le
  have hp1:=M.p1.l
  have hp2:=M.p2.l
  have hrl:=M.rw_.l
  obtain ⟨xs,ys,r,k1,k2,W4,r1,r2,r3,r4,r5,r6,r7,r8,r9,r10,h4,hrun⟩:=zZK0 (n + 1) p0 a d { S with cs:=S.cs ++ [⟨mowS i,k.1,iss⟩] } _ k.2 iss h3 hfs (by show k.2.length + 2 ≤ S.bs.length; omega) (by show S.bs.length ≤ 100; omega) hil M.g.gr (fun b hb=>(M.g.els b hb).1) (by show S.pk1.length ≤ 50; omega) (by show S.pk2.length ≤ 50; omega) (by show S.rows.length ≤ 50; omega)
  have M':=zZL5 M (by omega) hk hi1 r1 r2 r3 r4 r5 r6 r7 r8 r9 r10
  obtain ⟨S',W',x6,x8,x9,x12,x13,t1,t2,t3,t4,t5,t6,t7,t8,hz⟩:=ih (i + 1) { S with cs:=S.cs ++ [⟨mowS i,k.1,iss⟩],rows:=S.rows ++ [r],pk1:=S.pk1 ++ [k1],pk2:=S.pk2 ++ [k2] } W4 (.val (.int (i : Int))) (.val (.tup (iss.map .str))) (.val (.own d.c)) (.val (.str k.1)) (.val (flsD k.2)) (by omega) M' h4
  refine ⟨S',W',x6,x8,x9,x12,x13,by rw [show i + (m + 1) = i + 1 + m by omega]; exact t1,t2,t3,t4,t5,t6,t7,t8, ?_⟩
  rw [← hz]
  have ei : ((i : Int) + 1) = ((i + 1 : Nat) : Int):=by omega
  have hmow : ∀ W,items W (.str "mow") = some [.str "m",.str "o",.str "w"]:=fun W=>by
   show (if ("mow" : Str).length ≤ cap then some (("mow" : Str).cps.toList.map fun c=>D.str ⟨#[c]⟩) else none) = _
   rw [if_pos (by decide)]
   rfl
  have hmat : atD [D.str "m",.str "o",.str "w"] (.int (i : Int)) = some (.str (mowS i)):=by
   have : i = 0 ∨ i = 1 ∨ i = 2:=by omega
   rcases this with rfl | rfl | rfl <;> rfl
  have lc:=zZ9 S d
  have hsc:=h2.at_.sc
  have hcc:=h2.at_.c
  have hLc:=yZM hcc
  simp only [scC] at hsc
  have hcl2 : (S.cs.map cdD).length < cap:=by rw [List.length_map]; unfold cap; omega
  have hc1 : 1 ≤ cap:=by decide
  have hc2 : 2 ≤ cap:=by decide
  have hc3 : 3 ≤ cap:=by decide
  have hkn : (S.ks.map kT).length = S.ks.length:=List.length_map _
  have hks : ({ S with cs:=S.cs ++ [⟨mowS i,k.1,iss⟩],rows:=S.rows ++ [r],pk1:=S.pk1 ++ [k1],pk2:=S.pk2 ++ [k2] } : Sc).ks = S.ks:=rfl
  rw [range_succ,zZD,ei]
  rw [List.map_append] at hrun
  clear ih hz h h1 h2 h3 h4 M M' t1 t2 t3 t4 t5 t6 t7 t8 r3 r4 r7 r8 r9 P1 P2 kok
  simp only [List.map_cons,List.map_nil,cdD,kT] at *
  generalize scL S d = SL at *
  generalize S.cs.map cdD = CS at *
  generalize S.ks.length = KL at *
  generalize S.ks.map kT = KT at *
  generalize iss.map D.str = IS at *
  subst hkn
  walk_at "ev3"
structure ScW (S : Sc) : Prop where
 k : SOK S
 g : GOK S.p S.q S.bs
 bl : 6 ≤ S.bs.length ∧ S.bs.length ≤ 12
 rw_ : RWS S
 cn : ∀ c ∈ S.cn,CnOK S.ks S.cs c ∧ CnSat S c ∧ cnE S.ks S.cs c
theorem ScW.addc {S : Sc} (h : ScW S) {c : Cn} (hc : CnOK S.ks S.cs c ∧ CnSat S c ∧ cnE S.ks S.cs c) : ScW { S with cn:=S.cn ++ [c] }:=by
 have hs : ∀ c,CnSat S c → CnSat { S with cn:=S.cn ++ [c] } c:=fun c h=>by cases c <;> exact h
 refine ⟨⟨h.k.cs,h.k.p1,h.k.p2⟩,h.g,h.bl,⟨h.rw_.l,h.rw_.r⟩,fun x hx => ?_⟩
 have conv : ∀ x,CnSat S x → CnSat { S with cn:=S.cn ++ [c] } x:=fun x h=>by cases x <;> exact h
 rcases List.mem_append.mp hx with hx | hx
 ·obtain ⟨a1,a2,a3⟩:=h.cn x hx
  exact ⟨a1,conv x a2,a3⟩
 ·simp only [List.mem_singleton] at hx
  subst hx
  exact ⟨hc.1,conv x hc.2.1,hc.2.2⟩
theorem zZNf (c : Cn) : cmpD .notN (cnD c) .non = some (.bl true):=by
 rw [zZAS]
 cases c <;> rfl
theorem zZKO (n p0 a : Nat) (d : Ad) (y1 y2 y3 y4 y6 y8 y9 y12 y13 : Slot) : ∀ (m i : Nat) (S : Sc) (W : Wd) (z7 z10 z11 : Slot),S.cn.length + m ≤ 100 → ScW S → ScP p0 W a d S → ∃ (S' : Sc) (W' : Wd) (z7' z10' z11' : Slot),ScW S' ∧ ScP p0 W' a d S' ∧ S'.cn.length ≤ S.cn.length + m ∧ S' = { S with cn:=S'.cn } ∧
  forL (tgD (.nm 7)) (exS (cfgN T (n + 2)) ((forsS zZx).getD 1 .skip)) (rangeD (i : Int) m) [.val (.own p0),y1,y2,y3,y4,.val (.own a),y6,z7,y8,y9,z10,z11,y12,y13] W =
   .ok (.nx [.val (.own p0),y1,y2,y3,y4,.val (.own a),y6,z7',y8,y9,z10',z11',y12,y13]) W':=by
 simp only [zZx,forsS,List.getD_cons_zero,List.getD_cons_succ]
 intro m
 induction m with
 | zero=>intro i S W z7 z10 z11 _ M h; exact ⟨S,W,z7,z10,z11,M,h,by omega,rfl,rfl⟩
 | succ m ih =>
  intro i S W z7 z10 z11 hi M h
  obtain ⟨v,W1,h1,hv,hc⟩:=zZJ7 n p0 a d S W h M.k
  have ei : ((i : Int) + 1) = ((i + 1 : Nat) : Int):=by omega
  have lc:=zZEp S d
  have hsc:=h1.at_.sc
  have hcc:=h1.at_.n
  have hLc:=yZM hcc
  simp only [scC] at hsc
  have hcl2 : (S.cn.map cnD).length < cap:=by rw [List.length_map]; unfold cap; omega
  cases v with
  | none =>
   obtain ⟨S',W',x7,x10,x11,t1,t2,t3,t4,hz⟩:=ih (i + 1) S W1 (.val (.int (i : Int))) (.val .non) (.val (.own d.n)) (by omega) M h1
   refine ⟨S',W',x7,x10,x11,t1,t2,by omega,t4, ?_⟩
   rw [← hz,range_succ,zZD,ei]
   clear ih hz h h1 M t1 t2 hv
   simp only [cnO] at *
   generalize scL S d = SL at *
   generalize S.cn.map cnD = CS at *
   walk_at "ev3"
  | some c =>
   have h2:=h1.setN (S.cn ++ [c])
   obtain ⟨S',W',x7,x10,x11,t1,t2,t3,t4,hz⟩:=ih (i + 1) { S with cn:=S.cn ++ [c] } _ (.val (.int (i : Int))) (.val (cnD c)) (.val (.own d.n)) (by show (S.cn ++ [c]).length + m ≤ 100; rw [List.length_append,List.length_singleton]; omega) (M.addc (hv c rfl)) h2
   have t3 : S'.cn.length ≤ (S.cn ++ [c]).length + m:=t3
   rw [List.length_append,List.length_singleton] at t3
   refine ⟨S',W',x7,x10,x11,t1,t2,by omega,t4, ?_⟩
   have hnn:=zZNf c
   rw [← hz,range_succ,zZD,ei]
   simp only [List.map_append,List.map_cons,List.map_nil]
   clear ih hz h h1 h2 M t1 t2 hv
   simp only [cnO] at *
   generalize scL S d = SL at *
   generalize S.cn.map cnD = CS at *
   generalize cnD c = CD at *
   walk_at "ev3"
theorem KsOK.up {m m' : Int} {ks : List Kd} (h : KsOK m ks) (hm : m ≤ m') : KsOK m' ks :=
 ⟨h.1,fun i k hk=>⟨(h.2 i k hk).nm,(h.2 i k hk).le,fun j f hf=>by have:=(h.2 i k hk).fs j f hf; exact ⟨this.1,this.2.1,by omega⟩⟩⟩
def kv6 (p q : Int) (bs : List Int) (ks : List Kd) (L : Nat) : List (D × D):=[(.str "group",gT p q bs),(.str "kinds",.lst (ks.map kT)),(.str "cards",.own L),(.str "conditions",.own (L + 1)),(.str "rows",.own (L + 2)),(.str "picks",.lst [.own (L + 3),.own (L + 4)])]
def Sc0 (p q : Int) (bs : List Int) (ks : List Kd) (s1 s2 : Int) : Sc:=⟨p,q,bs,ks,[],[],[],[],[],s1,s2⟩
theorem zZM4 (p q : Int) (bs : List Int) (ks : List Kd) (L : Nat) (s1 s2 : Int) : putKD (.inr "secrets") (.str "secrets") (.lst [.int s1,.int s2]) (kv6 p q bs ks L) = scL (Sc0 p q bs ks s1 s2) ⟨L,L + 1,L + 2,L + 3,L + 4⟩:=rfl
theorem Mid.scw {S : Sc} {i : Nat} (M : Mid S i) (h0 : 1 ≤ i) (h3 : i ≤ 3) : ScW S:=by
 refine ⟨⟨⟨M.kk,by rw [M.cl]; exact h0,by rw [M.cl]; exact h3,M.c⟩,M.p1,M.p2⟩,M.g,M.bl,M.rw_,fun c hc => ?_⟩
 rw [M.cn] at hc
 cases hc
structure ScU (S : Sc) : Prop where
 q17 : 17 ≤ S.q
 s1 : 0 ≤ S.s1 ∧ S.s1 < S.q
 s2 : 0 ≤ S.s2 ∧ S.s2 < S.q
theorem zZIf (n p0 : Nat) (W : Wd) (hP : Pool W p0) (cards most : Int) (c0 : 1 ≤ cards ∧ cards ≤ 3) (m0 : 0 ≤ most ∧ most ≤ 10) : ∃ (S : Sc) (d : Ad) (a : Nat) (W' : Wd),ScP p0 W' a d S ∧ ScW S ∧ ScU S ∧ (S.cn.length : Int) ≤ most ∧ (cfgN T (n + 8)).call zZAq [.own p0,.int cards,.int most] W = .ok (.own a) W':=by
 obtain ⟨v,W1,e1,a1,b1,P1⟩:=zZBm (n + 6) W p0 7 hP (by omega) (by omega)
 obtain ⟨p,q,bs,W2,G,hbl,hq,_,P2,e2⟩:=zZJo (n + 5) p0 W1 (6 + v) 17 P1 (by omega) (by omega) (by omega)
 obtain ⟨w,W3,e3,a3,b3,P3⟩:=zZBm (n + 6) W2 p0 4 P2 (by omega) (by omega)
 have hm : ∃ m : Int,atD [.int 8,.int 8,.int 8,.int 16] (.int w) = some (.int m) ∧ 0 < m ∧ m ≤ 16:=by
  have : w = 0 ∨ w = 1 ∨ w = 2 ∨ w = 3:=by omega
  rcases this with rfl | rfl | rfl | rfl
  ·exact ⟨8,rfl,by omega,by omega⟩
  ·exact ⟨8,rfl,by omega,by omega⟩
  ·exact ⟨8,rfl,by omega,by omega⟩
  ·exact ⟨16,rfl,by omega,by omega⟩
 obtain ⟨m,hm1,hm2,hm3⟩:=hm
 obtain ⟨ks,W4,k1,kk,P4,e4⟩:=zZJy (n + 5) p0 m hm2 (by omega) W3 W3 ⟨P3,Kp.refl p0 W3⟩
 have P4:=P4.1
 -- the cells
 have hp4:=P4.lt
 generalize hL : W4.length = L at *
 have hc1 : newCell (.lst []) W4 = .ok (.own L) (W4 ++ [Cell.lst []]):=by rw [← hL]; rfl
 have l1 : (W4 ++ [Cell.lst []]).length = L + 1:=by simp [hL]
 have hc2 : newCell (.lst []) (W4 ++ [Cell.lst []]) = .ok (.own (L + 1)) (W4 ++ [Cell.lst []] ++ [Cell.lst []]):=by rw [← l1]; rfl
 have l2 : (W4 ++ [Cell.lst []] ++ [Cell.lst []]).length = L + 2:=by simp [hL]
 have hc3 : newCell (.lst []) (W4 ++ [Cell.lst []] ++ [Cell.lst []]) = .ok (.own (L + 2)) (W4 ++ [Cell.lst []] ++ [Cell.lst []] ++ [Cell.lst []]):=by rw [← l2]; rfl
 have l3 : (W4 ++ [Cell.lst []] ++ [Cell.lst []] ++ [Cell.lst []]).length = L + 3:=by simp [hL]
 have hc4 : newCell (.lst []) (W4 ++ [Cell.lst []] ++ [Cell.lst []] ++ [Cell.lst []]) = .ok (.own (L + 3)) (W4 ++ [Cell.lst []] ++ [Cell.lst []] ++ [Cell.lst []] ++ [Cell.lst []]):=by rw [← l3]; rfl
 have l4 : (W4 ++ [Cell.lst []] ++ [Cell.lst []] ++ [Cell.lst []] ++ [Cell.lst []]).length = L + 4:=by simp [hL]
 have hc5 : newCell (.lst []) (W4 ++ [Cell.lst []] ++ [Cell.lst []] ++ [Cell.lst []] ++ [Cell.lst []]) = .ok (.own (L + 4)) (W4 ++ [Cell.lst []] ++ [Cell.lst []] ++ [Cell.lst []] ++ [Cell.lst []] ++ [Cell.lst []]):=by rw [← l4]; rfl
 have l5 : (W4 ++ [Cell.lst []] ++ [Cell.lst []] ++ [Cell.lst []] ++ [Cell.lst []] ++ [Cell.lst []]).length = L + 5:=by simp [hL]
 have hds : dspR ["group","kinds","cards","conditions","rows","picks"] [gT p q bs,.lst (ks.map kT),.own L,.own (L + 1),.own (L + 2),.lst [.own (L + 3),.own (L + 4)]] (W4 ++ [Cell.lst []] ++ [Cell.lst []] ++ [Cell.lst []] ++ [Cell.lst []] ++ [Cell.lst []]) = .ok (.own (L + 5)) (W4 ++ [Cell.lst []] ++ [Cell.lst []] ++ [Cell.lst []] ++ [Cell.lst []] ++ [Cell.lst []] ++ [.dct (kv6 p q bs ks L)]):=by
  rw [zZMu ⟨⟨rfl,by decide⟩,by decide⟩,l5]
  rfl
 have P6 : Pool (W4 ++ [Cell.lst []] ++ [Cell.lst []] ++ [Cell.lst []] ++ [Cell.lst []] ++ [Cell.lst []] ++ [.dct (kv6 p q bs ks L)]) p0:=(((((P4.push _).push _).push _).push _).push _).push _
 have t0 : (W4 ++ [Cell.lst []] ++ [Cell.lst []] ++ [Cell.lst []] ++ [Cell.lst []] ++ [Cell.lst []] ++ [.dct (kv6 p q bs ks L)])[L]? = some (.lst []):=by subst hL; simp
 have t1 : (W4 ++ [Cell.lst []] ++ [Cell.lst []] ++ [Cell.lst []] ++ [Cell.lst []] ++ [Cell.lst []] ++ [.dct (kv6 p q bs ks L)])[L + 1]? = some (.lst []):=by subst hL; simp
 have t2 : (W4 ++ [Cell.lst []] ++ [Cell.lst []] ++ [Cell.lst []] ++ [Cell.lst []] ++ [Cell.lst []] ++ [.dct (kv6 p q bs ks L)])[L + 2]? = some (.lst []):=by subst hL; simp
 have t3 : (W4 ++ [Cell.lst []] ++ [Cell.lst []] ++ [Cell.lst []] ++ [Cell.lst []] ++ [Cell.lst []] ++ [.dct (kv6 p q bs ks L)])[L + 3]? = some (.lst []):=by subst hL; simp
 have t4 : (W4 ++ [Cell.lst []] ++ [Cell.lst []] ++ [Cell.lst []] ++ [Cell.lst []] ++ [Cell.lst []] ++ [.dct (kv6 p q bs ks L)])[L + 4]? = some (.lst []):=by subst hL; simp
 have t5 : (W4 ++ [Cell.lst []] ++ [Cell.lst []] ++ [Cell.lst []] ++ [Cell.lst []] ++ [Cell.lst []] ++ [.dct (kv6 p q bs ks L)])[L + 5]? = some (.dct (kv6 p q bs ks L)):=by subst hL; simp
 generalize W4 ++ [Cell.lst []] ++ [Cell.lst []] ++ [Cell.lst []] ++ [Cell.lst []] ++ [Cell.lst []] ++ [.dct (kv6 p q bs ks L)] = WB at *
 generalize W4 ++ [Cell.lst []] ++ [Cell.lst []] ++ [Cell.lst []] ++ [Cell.lst []] ++ [Cell.lst []] = WA5 at *
 generalize W4 ++ [Cell.lst []] ++ [Cell.lst []] ++ [Cell.lst []] ++ [Cell.lst []] = WA4 at *
 generalize W4 ++ [Cell.lst []] ++ [Cell.lst []] ++ [Cell.lst []] = WA3 at *
 generalize W4 ++ [Cell.lst []] ++ [Cell.lst []] = WA2 at *
 generalize W4 ++ [Cell.lst []] = WA1 at *
 obtain ⟨sn,W7,s1,srg,P7,e7⟩:=zZH4 (n + 5) p0 p q bs 2 WB G.gr P6 (by omega) (by omega)
 have s1 : sn.length = 2:=s1
 match sn,s1 with
 | [s1,s2],_ =>
 have g0:=P7.2.get (by omega) t0
 have g1:=P7.2.get (by omega) t1
 have g2:=P7.2.get (by omega) t2
 have g3:=P7.2.get (by omega) t3
 have g4:=P7.2.get (by omega) t4
 have g5:=P7.2.get (by omega) t5
 have hScP : ScP p0 (W7.set (L + 5) (.dct (scL (Sc0 p q bs ks s1 s2) ⟨L,L + 1,L + 2,L + 3,L + 4⟩))) (L + 5) ⟨L,L + 1,L + 2,L + 3,L + 4⟩ (Sc0 p q bs ks s1 s2) :=
  ⟨P7.1.set (by omega) _,⟨hp4,by show L < L + 2; omega,by show L + 2 < L + 3; omega,by show L + 3 < L + 4; omega,by show L + 4 < L + 5; omega,by show L < L + 1; omega,by refine ⟨?_, ?_, ?_, ?_⟩ <;> simp only [] <;> omega⟩,
   ⟨gself g5,gset g0 (show L + 5 ≠ L by omega),gset g1 (show L + 5 ≠ L + 1 by omega),gset g2 (show L + 5 ≠ L + 2 by omega),gset g3 (show L + 5 ≠ L + 3 by omega),gset g4 (show L + 5 ≠ L + 4 by omega)⟩⟩
 have M0 : Mid (Sc0 p q bs ks s1 s2) 0:=⟨kk.up hm3,k1,G,by show 6 ≤ bs.length ∧ bs.length ≤ 12; omega,rfl,fun j c hc=>(by cases hc),⟨rfl,fun i k hk=>(by cases hk)⟩,⟨rfl,fun i k hk=>(by cases hk)⟩,⟨rfl,fun i k hk=>(by cases hk)⟩,rfl⟩
 obtain ⟨u,W9,e9,a9,b9,P9,h9⟩:=zZI (n + 6) cards hScP (by omega) (by omega)
 obtain ⟨cc,hcc⟩:=Int.eq_ofNat_of_zero_le (show 0 ≤ 1 + u by omega)
 obtain ⟨S1,W10,z6,z8,z9,z12,z13,M1,h10,-,u2,-,-,u5,u6,hcl⟩:=zZJ3 n p0 (L + 5) ⟨L,L + 1,L + 2,L + 3,L + 4⟩ (.val (.int cards)) (.val (.int most)) (.val (gT p q bs)) .no .no .no cc 0 (Sc0 p q bs ks s1 s2) W9 .no .no .no .no .no (by omega) M0 h9
 rw [Nat.zero_add] at M1
 have hcn0 : S1.cn = []:=M1.cn
 have M1:=M1.scw (by omega) (by omega)
 obtain ⟨t,W11,e11,a11,b11,P11,h11⟩:=zZI (n + 6) (most + 1) h10 (by omega) (by omega)
 obtain ⟨tt,htt⟩:=Int.eq_ofNat_of_zero_le a11
 have hcn1 : S1.cn.length = 0:=by rw [hcn0]; rfl
 obtain ⟨S2,W12,x7,x10,x11,q1,q2,q3,q4,hdl⟩:=zZKO (n + 5) p0 (L + 5) ⟨L,L + 1,L + 2,L + 3,L + 4⟩ (.val (.int cards)) (.val (.int most)) (.val (gT p q bs)) (.val (.lst (ks.map kT))) z6 z8 z9 z12 z13 tt 0 S1 W11 .no .no .no (by omega) M1 h11
 have hU : ScU S2:=by
  have r1:=srg s1 (by simp)
  have r2:=srg s2 (by simp)
  have v2 : S2.q = q:=by rw [q4]; exact u2
  have v5 : S2.s1 = s1:=by rw [q4]; exact u5
  have v6 : S2.s2 = s2:=by rw [q4]; exact u6
  exact ⟨by rw [v2]; exact hq,by rw [v2,v5]; exact r1,by rw [v2,v6]; exact r2⟩
 refine ⟨S2,_,L + 5,W12,q2,q1,hU,by omega, ?_⟩
 clear hU srg u2 u5 u6 q4
 have hput:=zZM4 p q bs ks L s1 s2
 have hkl : (kv6 p q bs ks L).length < cap:=by show 6 < cap; decide
 have hcap0 : 0 ≤ cap:=by decide
 have hcap2 : 2 ≤ cap:=by decide
 have hcap4 : 4 ≤ cap:=by decide
 have e00 : ((0 : Nat) : Int) = 0:=rfl
 have hg1 : -4611686018427387904 ≤ (cc : Int) ∧ (cc : Int) < 4611686018427387904:=by omega
 have hg2 : -4611686018427387904 ≤ t ∧ t < 4611686018427387904:=by omega
 have htn : t.toNat = tt:=by omega
 have hcn : (cc : Int).toNat = cc:=by omega
 have hkS : (Sc0 p q bs ks s1 s2).ks = ks:=rfl
 rw [hkS] at hcl
 rw [zZE (F:=xZa) rfl]
 simp only [zZx,forsS,List.getD_cons_zero,List.getD_cons_succ,e00] at hcl hdl
 simp only [xZa,zZx]
 clear hScP M0 h9 h10 h11 M1 q1 q2 P1 P2 P3 P4 P6 P7 P9 P11 t0 t1 t2 t3 t4 g0 g1 g2 g3 g4 kk G hkS l1 l2 l3 l4 l5 hL
 simp only [List.map_cons,List.map_nil] at e7
 generalize scL (Sc0 p q bs ks s1 s2) ⟨L,L + 1,L + 2,L + 3,L + 4⟩ = SL at *
 generalize kv6 p q bs ks L = KV at *
 generalize gT p q bs = GT at *
 generalize ks.map kT = KT at *
 walk_at "ev3"
theorem zZJr (n p0 : Nat) (W : Wd) (hP : Pool W p0) (cards most : Int) (c0 : 1 ≤ cards ∧ cards ≤ 3) (m0 : 0 ≤ most ∧ most ≤ 10) : ∃ (S : Sc) (d : Ad) (a : Nat) (W' : Wd),ScP p0 W' a d S ∧ ScW S ∧ (S.cn.length : Int) ≤ most ∧ (cfgN T (n + 8)).call zZAq [.own p0,.int cards,.int most] W = .ok (.own a) W':=by
 obtain ⟨S,d,a,W',h1,h2,-,h3,h4⟩:=zZIf n p0 W hP cards most c0 m0
 exact ⟨S,d,a,W',h1,h2,h3,h4⟩
structure ScV (S : Sc) : Prop where
 k : SOK S
 g : GOK S.p S.q S.bs
 bl : 6 ≤ S.bs.length ∧ S.bs.length ≤ 12
 rw_ : RWS S
 cn : ∀ c ∈ S.cn,CnOK S.ks S.cs c ∧ cnE S.ks S.cs c
theorem ScW.v {S : Sc} (h : ScW S) : ScV S:=⟨h.k,h.g,h.bl,h.rw_,fun c hc=>⟨(h.cn c hc).1,(h.cn c hc).2.2⟩⟩
theorem zZKZ (n : Nat) (x y : Nat) (xs ys : List D) (W : Wd) (h1 : W[x]? = some (.lst xs)) (h2 : W[y]? = some (.lst ys)) : (cfgN T (n + 1)).init zZEf [.own x,.own y] W = .ok [(28,.tup xs),(29,.tup ys)] W:=by
 rw [zZAR (F:=yZN) rfl]
 simp only [yZN,yZ1]
 walk_at "ev3"
theorem zZKn (n : Nat) (g pol : D) (kd : List D) (x : Nat) (ls : List (List Tr3)) (W : Wd) (h : ls.length ≤ 100) (hx : W[x]? = some (.lst (ls.map trsD))) : (cfgN T (n + 1)).init zZCq [g,.lst kd,pol,.own x] W = .ok [(19,g),(20,.tup kd),(42,pol),(43,.tup (ls.map trsD))] W:=by
 have hc : ∀ e0 e1 e2 e3 e4 : Slot,compCR (cfgN T n) (.b1 .tuple (.var 5)) (.nm 5) .nil [e0,e1,e2,e3,e4,.no] false (x,ls.map trsD) W = .ok (ls.map trsD) W:=by
  intro e0 e1 e2 e3 e4
  refine zZFs trsD trsD ls hx (by unfold cap; omega) fun l _=>⟨_,rfl, ?_⟩
  rfl
 rw [zZAR (F:=yZI) rfl]
 simp only [yZI,yZg]
 generalize ls.map trsD = LS at *
 walk_at "ev3"
theorem zZHH (n p0 a : Nat) (d : Ad) (S : Sc) (W : Wd) (h : ScP p0 W a d S) (M : ScV S) : (cfgN T (n + 3)).call zZBO [.own a] W = .ok (qD S.p S.q S.bs S.ks S.cs S.cn S.rows) W:=by
 have hk2:=M.k.cs.kk.1
 have hl3:=M.k.cs.l3
 have hrl:=M.rw_.l
 have hcomp : ∀ (y0 y1 y2 y3 : Slot) (b : Bool),compR (cfgN T (n + 2)) (.make zZFV (.cons (.var 4) (.cons (.var 5) .nil))) (.tup (.cons (.nm 4) (.cons (.nm 5) .nil))) .nil [y0,y1,y2,y3,.no,.no] (S.ks.map kT,b) W = .ok (S.ks.map kI) W:=by
  intro y0 y1 y2 y3 b
  refine yZV kT kI S.ks (by unfold cap; omega) fun x hx=>⟨_,rfl, ?_⟩
  have hki:=zZKX (n + 1) x.1 x.2 (flsD x.2) W (.inl rfl)
  show evE _ _ [y0,y1,y2,y3,.val (.str x.1),.val (flsD x.2)] W = _
  simp only [kI]
  walk_at "ev3"
 have hpi:=zZKZ (n + 1) d.c d.n _ _ W h.at_.c h.at_.n
 have hbl:=M.bl
 have hgi:=zZG8 n S.p S.q S.bs W M.g (by omega) (by omega)
 have hqi:=zZKn (n + 1) (gI S.p S.q S.bs) (polD S.cs S.cn) (S.ks.map kI) d.r S.rows W (by omega) h.at_.r
 have lg:=zZEl S d
 have lk:=zZA6 S d
 have lc:=zZ9 S d
 have ln:=zZEp S d
 have lr:=zZCf S d
 have hsc:=h.at_.sc
 simp only [scC] at hsc
 have q0:=idx0
 have q1:=idx1
 have q2:=idx2
 rw [zZE (F:=yZl) rfl]
 simp only [yZl,xZg,qD,polD,gI,gT] at *
 clear h M
 generalize scL S d = SL at *
 generalize S.ks.map kT = KT at *
 generalize S.ks.map kI = KI at *
 generalize S.cs.map cdD = CS at *
 generalize S.cn.map cnD = CN at *
 generalize S.rows.map trsD = RW at *
 generalize S.bs.map D.int = BB at *
 walk_at "ev3"
def pkI (k : Pk) : D:=.ins zZH7 [(47,.int k.i),(48,.int k.r),(49,.tup (k.vs.map .int))]
def IsP (W : Wd) (d : D) (pk : List Pk) : Prop:=d = .lst (pk.map pkI) ∨ ∃ c,d = .own c ∧ W[c]? = some (.lst (pk.map pkI))
theorem zZJv (n : Nat) (i r : Int) (vs : List Int) (d : D) (W : Wd) (hd : d = .tup (vs.map .int) ∨ d = .lst (vs.map .int)) : (cfgN T (n + 1)).init zZH7 [.int i,.int r,d] W = .ok [(47,.int i),(48,.int r),(49,.tup (vs.map .int))] W:=by
 rw [zZAR (F:=yZh) rfl]
 simp only [yZh,xZe]
 rcases hd with rfl | rfl <;> walk_at "ev3"
theorem xZ3 {pk : List Pk} {ks : List Kd} {cs : List Cd} (P : PkOK ks cs pk) {a : Pl} (h : PlOK ks cs a) : ∃ k,atD (pk.map pkI) (.int (a.1 : Int)) = some (pkI k) ∧ atD (pk.map pkD) (.int (a.1 : Int)) = some (pkD k) ∧ atD (k.vs.map .int) (.int (a.2 : Int)) = some (.int (pv pk a)):=by
 obtain ⟨k,b1,b2,_⟩:=P.get h
 exact ⟨k,zZG (by rw [List.getElem?_map,b1]; rfl),zZG (by rw [List.getElem?_map,b1]; rfl),zZG (by rw [List.getElem?_map,b2]; rfl)⟩
def cnPl : Cn → Pl
 | .tell a=>a
 | .equal a _=>a
 | .least a _=>a
 | .among a _=>a
 | .same a _=>a
theorem zZG2 (W : Wd) (x : Int) (d : D) (xs : List Int) : inG true W (.int x) (.frz (xs.map .int) d) = some (.bl (!decide (x ∈ xs))):=by
 show (inD (.int x) (xs.map .int)).map _ = _
 rw [zZD9]
 rfl
def satB (ks : List Kd) (cs : List Cd) (pk : List Pk) (c : Cn) : Bool:=match c with
 | .tell _=>true
 | .same a b=>decide (pv pk b = pv pk a)
 | c=>decide (pv pk (cnPl c) ∈ cand ks cs c)
def ansB (ks : List Kd) (cs : List Cd) (pk : List Pk) (cn : List Cn) : Bool:=cn.all (satB ks cs pk)
theorem zZIr (n : Nat) (Q : D) (a : Pl) (v : Int) (W : Wd) : (cfgN T (n + 1)).call xZS [Q,cnD (.equal a v)] W = .ok (.lst [.int v]) W:=by
 have q0:=idx0
 have q3:=idx3
 rw [zZE (F:=yZQ) rfl]
 simp only [yZQ,xZT,cnD]
 walk_at "ev3"
theorem zZHT (n : Nat) (Q : D) (a : Pl) (v : Int) (W : Wd) : (cfgN T (n + 1)).call yZr [Q,cnD (.equal a v)] W = .ok (.lst [.int v]) W:=by
 have q0:=idx0
 have q3:=idx3
 rw [zZE (F:=yZG) rfl]
 simp only [yZG,yZw,cnD]
 walk_at "ev3"
theorem zZL1 (n : Nat) (p q : Int) (bs : List Int) (ks : List Kd) (cs : List Cd) (cn : List Cn) (rows : List (List Tr3)) (W : Wd) (K : CsOK ks cs) (c : Cn) (hc : CnOK ks cs c) (h : (∃ a v,c = .equal a v) ∨ ∃ a,cnIn c = some a) : (cfgN T (n + 4)).call xZS [qD p q bs ks cs cn rows,cnD c] W = .ok (.lst ((cand ks cs c).map .int)) W:=by
 rcases h with ⟨a,v,rfl⟩ | ⟨a,h⟩
 ·exact zZIr (n + 3) _ a v W
 ·exact zZGd n p q bs ks cs cn rows W K c a hc h
def ansS : S:=(forsS yZp).getD 0 .skip
theorem zZLn (n : Nat) (p q : Int) (bs : List Int) (ks : List Kd) (cs : List Cd) (cn : List Cn) (rows : List (List Tr3)) (pk : List Pk) (pD : D) (W : Wd) (K : CsOK ks cs) (P : PkOK ks cs pk) (hp : IsP W pD pk) (c : Cn) (hc : CnOK ks cs c) (z3 z4 z5 z6 z7 : Slot) : ∃ z3' z4' z5' z6' z7',
  exS (cfgN T (n + 5)) ansS [.val (qD p q bs ks cs cn rows),.val pD,.val (cnD c),z3,z4,z5,z6,z7] W =
   if satB ks cs pk c then .ok (.nx [.val (qD p q bs ks cs cn rows),.val pD,.val (cnD c),z3',z4',z5',z6',z7']) W else .ok (.rt (.bl false)) W:=by
 simp only [ansS,yZp,forsS,List.getD_cons_zero]
 have q0:=idx0
 have q1:=idx1
 have q2:=idx2
 have q3:=idx3
 have q4:=idx4
 have main : ∀ (a : Pl) (w : Str) (x : D),cnPl c = a → PlOK ks cs a → cnD c = .tup [.str w,.str (mowS a.1),.str (fnm a.2),x] → (w = "equal" ∨ w = "least" ∨ w = "among") → ((∃ a v,c = .equal a v) ∨ ∃ a,cnIn c = some a) → satB ks cs pk c = decide (pv pk a ∈ cand ks cs c) → ∃ z3' z4' z5' z6' z7',
   exS (cfgN T (n + 5)) ansS [.val (qD p q bs ks cs cn rows),.val pD,.val (cnD c),z3,z4,z5,z6,z7] W =
    if satB ks cs pk c then .ok (.nx [.val (qD p q bs ks cs cn rows),.val pD,.val (cnD c),z3',z4',z5',z6',z7']) W else .ok (.rt (.bl false)) W:=by
  intro a w x ha hpl hD hw hk hs
  simp only [ansS,yZp,forsS,List.getD_cons_zero]
  have h1:=yZ3 (n + 2) p q bs ks cs cn rows W K a hpl
  have hcd:=zZL1 (n + 1) p q bs ks cs cn rows W K c hc hk
  obtain ⟨k,b1,b2,b3⟩:=xZ3 P hpl
  have hni:=fun d=>zZG2 W (pv pk a) d (cand ks cs c)
  rw [hs]
  clear hs hk hc
  rw [hD] at hcd ⊢
  by_cases e : pv pk a ∈ cand ks cs c
  ·rw [decide_eq_true e]
   simp only [decide_eq_true e,Bool.not_true] at hni
   refine ⟨.val (.int (pv pk a)),.val (.int (a.1 : Int)),.val (.int (a.2 : Int)),z6,z7, ?_⟩
   rw [if_pos rfl]
   clear e hD ha hpl P K
   simp only [qD,plD,pkI] at *
   generalize polD cs cn = PD at *
   generalize gI p q bs = GI at *
   generalize ks.map kI = KI at *
   generalize (cand ks cs c).map D.int = CA at *
   generalize pv pk a = V at *
   rcases hp with rfl | ⟨ad,rfl,hp⟩ <;> rcases hw with rfl | rfl | rfl <;> walk_at "ev3"
  ·rw [decide_eq_false e]
   simp only [decide_eq_false e,Bool.not_false] at hni
   refine ⟨.no,.no,.no,.no,.no, ?_⟩
   rw [if_neg Bool.false_ne_true]
   clear e hD ha hpl P K
   simp only [qD,plD,pkI] at *
   generalize polD cs cn = PD at *
   generalize gI p q bs = GI at *
   generalize ks.map kI = KI at *
   generalize (cand ks cs c).map D.int = CA at *
   generalize pv pk a = V at *
   rcases hp with rfl | ⟨ad,rfl,hp⟩ <;> rcases hw with rfl | rfl | rfl <;> walk_at "ev3"
 simp only [ansS,yZp,forsS,List.getD_cons_zero] at main
 cases c with
 | equal a v=>exact main a _ _ rfl hc.1 rfl (.inl rfl) (.inl ⟨a,v,rfl⟩) rfl
 | least a v=>exact main a _ _ rfl hc.1 rfl (.inr (.inl rfl)) (.inr ⟨a,rfl⟩) rfl
 | among a vs=>exact main a _ _ rfl hc.1 rfl (.inr (.inr rfl)) (.inr ⟨a,rfl⟩) rfl
 | tell a =>
  have h1:=yZ3 (n + 2) p q bs ks cs cn rows W K a hc
  obtain ⟨k,b1,b2,b3⟩:=xZ3 P hc
  refine ⟨.val (.int (pv pk a)),.val (.int (a.1 : Int)),.val (.int (a.2 : Int)),z6,z7, ?_⟩
  have e : satB ks cs pk (.tell a) = true:=rfl
  rw [e]
  clear e main hc P K
  simp only [cnD,qD,plD,pkI] at *
  generalize polD cs cn = PD at *
  generalize gI p q bs = GI at *
  generalize ks.map kI = KI at *
  generalize pv pk a = V at *
  rcases hp with rfl | ⟨ad,rfl,hp⟩ <;> walk_at "ev3"
 | same a b =>
  have h1:=yZ3 (n + 2) p q bs ks cs cn rows W K a hc.1
  have h2:=yZ3 (n + 2) p q bs ks cs cn rows W K b hc.2
  obtain ⟨k,b1,b2,b3⟩:=xZ3 P hc.1
  obtain ⟨k',b1',b2',b3'⟩:=xZ3 P hc.2
  have e : satB ks cs pk (.same a b) = decide (pv pk b = pv pk a):=rfl
  rw [e]
  clear e main hc
  by_cases e : pv pk b = pv pk a
  ·rw [decide_eq_true e]
   refine ⟨.val (.int (pv pk a)),.val (.int (a.1 : Int)),.val (.int (a.2 : Int)),.val (.int (b.1 : Int)),.val (.int (b.2 : Int)), ?_⟩
   rw [if_pos rfl]
   rw [e] at b3'
   clear P K e
   simp only [cnD,qD,plD,pkI] at *
   generalize polD cs cn = PD at *
   generalize gI p q bs = GI at *
   generalize ks.map kI = KI at *
   generalize pv pk a = V at *
   rcases hp with rfl | ⟨ad,rfl,hp⟩ <;> walk_at "ev3"
  ·rw [decide_eq_false e]
   refine ⟨.no,.no,.no,.no,.no, ?_⟩
   rw [if_neg Bool.false_ne_true]
   clear P K
   simp only [cnD,qD,plD,pkI] at *
   generalize polD cs cn = PD at *
   generalize gI p q bs = GI at *
   generalize ks.map kI = KI at *
   generalize pv pk a = V at *
   generalize pv pk b = U at *
   rcases hp with rfl | ⟨ad,rfl,hp⟩ <;> walk_at "ev3"
theorem zZMa (n : Nat) (p q : Int) (bs : List Int) (ks : List Kd) (cs : List Cd) (cn : List Cn) (rows : List (List Tr3)) (pk : List Pk) (pD : D) (W : Wd) (K : CsOK ks cs) (P : PkOK ks cs pk) (hp : IsP W pD pk) : ∀ (l : List Cn) (z2 z3 z4 z5 z6 z7 : Slot),(∀ c ∈ l,CnOK ks cs c) → ∃ e',
  forL (tgD (.nm 2)) (exS (cfgN T (n + 5)) ansS) (l.map cnD) [.val (qD p q bs ks cs cn rows),.val pD,z2,z3,z4,z5,z6,z7] W = if ansB ks cs pk l then .ok (.nx e') W else .ok (.rt (.bl false)) W:=by
 intro l
 induction l with
 | nil=>intro z2 z3 z4 z5 z6 z7 _; exact ⟨_,rfl⟩
 | cons c l ih =>
  intro z2 z3 z4 z5 z6 z7 hl
  obtain ⟨z3',z4',z5',z6',z7',hs⟩:=zZLn n p q bs ks cs cn rows pk pD W K P hp c (hl c List.mem_cons_self) z3 z4 z5 z6 z7
  obtain ⟨e',hz⟩:=ih (.val (cnD c)) z3' z4' z5' z6' z7' (fun x h=>hl x (List.mem_cons_of_mem _ h))
  refine ⟨e', ?_⟩
  have e : ansB ks cs pk (c :: l) = (satB ks cs pk c && ansB ks cs pk l):=rfl
  rw [e,List.map_cons,zZD]
  cases hc : satB ks cs pk c with
  | true =>
   rw [hc,if_pos rfl] at hs
   rw [Bool.true_and,← hz]
   clear hz ih hl hp K P
   generalize ansS = AS at *
   walk_at "ev3"
  | false =>
   rw [hc,if_neg Bool.false_ne_true] at hs
   rw [Bool.false_and,if_neg Bool.false_ne_true]
   clear hz ih hl hp K P
   generalize ansS = AS at *
   walk_at "ev3"
theorem zZIp (n : Nat) (p q : Int) (bs : List Int) (ks : List Kd) (cs : List Cd) (cn : List Cn) (rows : List (List Tr3)) (pk : List Pk) (pD : D) (W : Wd) (K : CsOK ks cs) (hn : ∀ c ∈ cn,CnOK ks cs c) (P : PkOK ks cs pk) (hp : IsP W pD pk) : (cfgN T (n + 6)).call zZGt [qD p q bs ks cs cn rows,pD] W = .ok (.bl (ansB ks cs pk cn)) W:=by
 obtain ⟨e',hz⟩:=zZMa n p q bs ks cs cn rows pk pD W K P hp cn .no .no .no .no .no .no hn
 rw [zZE (F:=zZBU) rfl]
 have hB : yZp = .seq (.forS (.nm 2) (.seq (.fld 29 (.fld 42 (.var 0)))) ansS) (.seq (.ret (.bl true)) .skip):=rfl
 simp only [zZBU]
 rw [hB]
 clear hB hn hp K P
 generalize ansS = AS at *
 simp only [qD,polD] at *
 generalize gI p q bs = GI at *
 generalize ks.map kI = KI at *
 generalize cs.map cdD = CS at *
 generalize cn.map cnD = CN at *
 cases hb : ansB ks cs pk cn with
 | true =>
  rw [hb,if_pos rfl] at hz
  walk_at "ev3"
 | false =>
  rw [hb,if_neg Bool.false_ne_true] at hz
  walk_at "ev3"
theorem zZKY (n : Nat) (S : Sc) (d : Ad) (a0 : Nat) (W : Wd) (h : ScAt W a0 d S) (K : CsOK S.ks S.cs) (c : Cn) (hc : CnOK S.ks S.cs c) (hk : (∃ a v,c = .equal a v) ∨ ∃ a,cnIn c = some a) : (cfgN T (n + 2)).call yZr [.own a0,cnD c] W = .ok (.lst ((cand S.ks S.cs c).map .int)) W:=by
 rcases hk with ⟨a,v,rfl⟩ | ⟨a,hk⟩
 ·exact zZHT (n + 1) _ a v W
 ·exact zZHw n S d a0 W h K c a hc hk
def lanS : S:=forCB zZu
theorem zZJ6 (n : Nat) (S : Sc) (d : Ad) (a0 : Nat) (pk : List Pk) (W : Wd) (h : ScAt W a0 d S) (K : CsOK S.ks S.cs) (P : PkOK S.ks S.cs pk) (c : Cn) (hc : CnOK S.ks S.cs c) (z3 z4 z5 z6 z7 : Slot) : ∃ z3' z4' z5' z6' z7',
  exS (cfgN T (n + 3)) lanS [.val (.own a0),.val (.lst (pk.map pkD)),.val (cnD c),z3,z4,z5,z6,z7] W =
   if satB S.ks S.cs pk c then .ok (.nx [.val (.own a0),.val (.lst (pk.map pkD)),.val (cnD c),z3',z4',z5',z6',z7']) W else .ok (.rt (.bl false)) W:=by
 simp only [lanS,zZu,forCB]
 have q0:=idx0
 have q1:=idx1
 have q2:=idx2
 have q3:=idx3
 have q4:=idx4
 have c3:=zZN4
 have c4:=zZJG
 have c5:=zZNc
 have c35:=zZNb
 have main : ∀ (a : Pl) (w : Str) (x : D),cnPl c = a → PlOK S.ks S.cs a → cnD c = .tup [.str w,.str (mowS a.1),.str (fnm a.2),x] → (w = "equal" ∨ w = "least" ∨ w = "among") → ((∃ a v,c = .equal a v) ∨ ∃ a,cnIn c = some a) → satB S.ks S.cs pk c = decide (pv pk a ∈ cand S.ks S.cs c) → ∃ z3' z4' z5' z6' z7',
   exS (cfgN T (n + 3)) lanS [.val (.own a0),.val (.lst (pk.map pkD)),.val (cnD c),z3,z4,z5,z6,z7] W =
    if satB S.ks S.cs pk c then .ok (.nx [.val (.own a0),.val (.lst (pk.map pkD)),.val (cnD c),z3',z4',z5',z6',z7']) W else .ok (.rt (.bl false)) W:=by
  intro a w x ha hpl hD hw hk hs
  simp only [lanS,zZu,forCB]
  have h1:=xZi (n + 2) S d a0 W h K a hpl
  have hcd:=zZKY (n + 1) S d a0 W h K c hc hk
  obtain ⟨k,b1,b2,b3⟩:=xZ3 P hpl
  have hni:=fun d=>zZG2 W (pv pk a) d (cand S.ks S.cs c)
  rw [hs]
  clear hs hk hc
  rw [hD] at hcd ⊢
  by_cases e : pv pk a ∈ cand S.ks S.cs c
  ·rw [decide_eq_true e]
   simp only [decide_eq_true e,Bool.not_true] at hni
   refine ⟨.val (.int (pv pk a)),.val (.int (a.1 : Int)),.val (.int (a.2 : Int)),z6,z7, ?_⟩
   rw [if_pos rfl]
   clear e hD ha hpl P K h
   simp only [nmD,plD,pkD] at *
   generalize (cand S.ks S.cs c).map D.int = CA at *
   generalize pv pk a = V at *
   generalize pk.map pkD = PD at *
   rcases hw with rfl | rfl | rfl <;> walk_at "ev3"
  ·rw [decide_eq_false e]
   simp only [decide_eq_false e,Bool.not_false] at hni
   refine ⟨.no,.no,.no,.no,.no, ?_⟩
   rw [if_neg Bool.false_ne_true]
   clear e hD ha hpl P K h
   simp only [nmD,plD,pkD] at *
   generalize (cand S.ks S.cs c).map D.int = CA at *
   generalize pv pk a = V at *
   generalize pk.map pkD = PD at *
   rcases hw with rfl | rfl | rfl <;> walk_at "ev3"
 simp only [lanS,zZu,forCB] at main
 cases c with
 | equal a v=>exact main a _ _ rfl hc.1 rfl (.inl rfl) (.inl ⟨a,v,rfl⟩) rfl
 | least a v=>exact main a _ _ rfl hc.1 rfl (.inr (.inl rfl)) (.inr ⟨a,rfl⟩) rfl
 | among a vs=>exact main a _ _ rfl hc.1 rfl (.inr (.inr rfl)) (.inr ⟨a,rfl⟩) rfl
 | tell a =>
  have h1:=xZi (n + 2) S d a0 W h K a hc
  obtain ⟨k,b1,b2,b3⟩:=xZ3 P hc
  refine ⟨.val (.int (pv pk a)),.val (.int (a.1 : Int)),.val (.int (a.2 : Int)),z6,z7, ?_⟩
  have e : satB S.ks S.cs pk (.tell a) = true:=rfl
  rw [e]
  clear e main hc P K h
  simp only [cnD,nmD,plD,pkD] at *
  generalize pv pk a = V at *
  generalize pk.map pkD = PD at *
  walk_at "ev3"
 | same a b =>
  have h1:=xZi (n + 2) S d a0 W h K a hc.1
  have h2:=xZi (n + 2) S d a0 W h K b hc.2
  obtain ⟨k,b1,b2,b3⟩:=xZ3 P hc.1
  obtain ⟨k',b1',b2',b3'⟩:=xZ3 P hc.2
  have e : satB S.ks S.cs pk (.same a b) = decide (pv pk b = pv pk a):=rfl
  rw [e]
  clear e main hc h
  by_cases e : pv pk b = pv pk a
  ·rw [decide_eq_true e]
   refine ⟨.val (.int (pv pk a)),.val (.int (a.1 : Int)),.val (.int (a.2 : Int)),.val (.int (b.1 : Int)),.val (.int (b.2 : Int)), ?_⟩
   rw [if_pos rfl]
   rw [e] at b3'
   clear P K e
   simp only [cnD,nmD,plD,pkD] at *
   generalize pv pk a = V at *
   generalize pk.map pkD = PD at *
   walk_at "ev3"
  ·rw [decide_eq_false e]
   refine ⟨.no,.no,.no,.no,.no, ?_⟩
   rw [if_neg Bool.false_ne_true]
   clear P K
   simp only [cnD,nmD,plD,pkD] at *
   generalize pv pk a = V at *
   generalize pv pk b = U at *
   generalize pk.map pkD = PD at *
   walk_at "ev3"
theorem zZLS (n : Nat) (S : Sc) (d : Ad) (a0 : Nat) (pk : List Pk) (W : Wd) (h : ScAt W a0 d S) (K : CsOK S.ks S.cs) (P : PkOK S.ks S.cs pk) (ys : List D) (aN : Nat) (hy : W[aN]? = some (.lst ys)) : ∀ (l : List Cn) (z2 z3 z4 z5 z6 z7 : Slot),(∀ c ∈ l,CnOK S.ks S.cs c) → ∃ e',
  forK (ckL (cfgN T (n + 3)) aN ys) (tgD (.nm 2)) (exS (cfgN T (n + 3)) lanS) (l.map cnD) [.val (.own a0),.val (.lst (pk.map pkD)),z2,z3,z4,z5,z6,z7] W = if ansB S.ks S.cs pk l then .ok (.nx e') W else .ok (.rt (.bl false)) W:=by
 have hck : ckL (cfgN T (n + 3)) aN ys W = true:=zZJp hy
 intro l
 induction l with
 | nil=>intro z2 z3 z4 z5 z6 z7 _; exact ⟨_,zZIG hck⟩
 | cons c l ih =>
  intro z2 z3 z4 z5 z6 z7 hl
  obtain ⟨z3',z4',z5',z6',z7',hs⟩:=zZJ6 n S d a0 pk W h K P c (hl c List.mem_cons_self) z3 z4 z5 z6 z7
  obtain ⟨e',hz⟩:=ih (.val (cnD c)) z3' z4' z5' z6' z7' (fun x h=>hl x (List.mem_cons_of_mem _ h))
  refine ⟨e', ?_⟩
  have e : ansB S.ks S.cs pk (c :: l) = (satB S.ks S.cs pk c && ansB S.ks S.cs pk l):=rfl
  rw [e,List.map_cons,zZGs hck]
  cases hc : satB S.ks S.cs pk c with
  | true =>
   rw [hc,if_pos rfl] at hs
   rw [Bool.true_and,← hz]
   clear hz ih hl P K h hy
   generalize lanS = AS at *
   walk_at "ev3"
  | false =>
   rw [hc,if_neg Bool.false_ne_true] at hs
   rw [Bool.false_and,if_neg Bool.false_ne_true]
   clear hz ih hl P K h hy
   generalize lanS = AS at *
   walk_at "ev3"
theorem zZHr (n : Nat) (S : Sc) (d : Ad) (a0 : Nat) (pk : List Pk) (W : Wd) (h : ScAt W a0 d S) (K : CsOK S.ks S.cs) (hn : ∀ c ∈ S.cn,CnOK S.ks S.cs c) (hl : S.cn.length ≤ 100) (P : PkOK S.ks S.cs pk) : (cfgN T (n + 4)).call zZBf [.own a0,.lst (pk.map pkD)] W = .ok (.bl (ansB S.ks S.cs pk S.cn)) W:=by
 have hN:=h.n
 have lc:=zZEp S d
 have hsc:=h.sc
 simp only [scC] at hsc
 obtain ⟨e',hz⟩:=zZLS n S d a0 pk W h K P (S.cn.map cnD) d.n hN S.cn .no .no .no .no .no .no hn
 rw [zZE (F:=yZs) rfl]
 have hB : zZu = .seq (.forC (.nm 2) false (.dgc (.var 0) (.str "conditions")) lanS) (.seq (.ret (.bl true)) .skip):=rfl
 simp only [yZs]
 rw [hB]
 clear hB hn P K h
 generalize lanS = AS at *
 generalize scL S d = SL at *
 have hcl : (S.cn.map cnD).length ≤ 100:=by rw [List.length_map]; exact hl
 generalize S.cn.map cnD = CN at *
 generalize pk.map pkD = PD at *
 cases hb : ansB S.ks S.cs pk S.cn with
 | true =>
  rw [hb,if_pos rfl] at hz
  walk_at "ev3"
 | false =>
  rw [hb,if_neg Bool.false_ne_true] at hz
  walk_at "ev3"
structure Hd where
 nm : Str
 ix : Int
 k : Str
 r : Int
 vs : List Int
def hdD (h : Hd) : D:=.tup [.str h.nm,.int h.ix,.str h.k,.int h.r,.tup (h.vs.map .int)]
def wI (p q : Int) (bs : List Int) (s : Int) (h : Nat) : D:=.ins zZEo [(19,gI p q bs),(51,.int s),(59,.own h)]
theorem zZJ1 (n : Nat) (p q : Int) (bs : List Int) (s : Int) (W : Wd) : (cfgN T (n + 1)).init zZEo [gI p q bs,.int s] W = .ok [(19,gI p q bs),(51,.int s),(59,.own W.length)] (W ++ [.lst []]):=by
 rw [zZAR (F:=yZP) rfl]
 have hc0 : 0 ≤ cap:=by decide
 have hn : ∀ (c : Cell) (W : Wd),newCell c W = .ok (.own W.length) (W ++ [c]):=fun _ _=>rfl
 simp only [yZP,yZ0]
 walk_at "ev3"
theorem zZKA (n : Nat) (p q : Int) (bs : List Int) (s : Int) (h : Nat) (x : Hd) (xs : List D) (W : Wd) (hh : W[h]? = some (.lst xs)) (hl : xs.length < 1000) :
  (cfgN T (n + 1)).call zZAL [wI p q bs s h,.str x.nm,.int x.ix,.str x.k,.int x.r,.lst (x.vs.map .int)] W = .ok .non (W.set h (.lst (xs ++ [hdD x]))):=by
 have hls:=yZM hh
 have hl2 : xs.length < cap:=by unfold cap; omega
 have hc5 : 5 ≤ cap:=by decide
 rw [zZE (F:=yZ7) rfl]
 simp only [wI,hdD,gI] at *
 simp only [yZ7,zZAK]
 walk_at "ev3"
theorem zZM5 {α : Type} [DecidableEq α] (F : α → D) (hi : ∀ a b,F a = F b → a = b) (hb : ∀ a,nb 59 (F a) = true) (a : α) (l : List α) (W : Wd) (dd : D) : ixdG W (.frz (l.map F) dd) (F a) = (l.findIdx? fun x=>decide (x = a)).map fun (k : Nat)=>D.int (k : Int):=by
 obtain ⟨d,hd⟩:=zZD7 59 (F a) (hb a)
 have hd60:=zZJO 59 _ _ hd
 have hall : ∀ L : List α,∃ ds,(L.map F).mapM (pd 59) = some ds ∧ (ds.findIdx? fun z=>PySem.PyData.eqv z d) = L.findIdx? fun x=>decide (x = a):=by
  intro L
  induction L with
  | nil=>exact ⟨[],rfl,rfl⟩
  | cons x L ih =>
   obtain ⟨ds,h1,h2⟩:=ih
   obtain ⟨p,hp⟩:=zZD7 59 (F x) (hb x)
   refine ⟨p :: ds, ?_, ?_⟩
   ·rw [List.map_cons,List.mapM_cons,hp,h1]
    rfl
   ·have h3:=zZHs 59 (F x) (F a) p d (hb x) (hb a) hp hd
    have h4 : PySem.PyData.eqv p d = decide (x = a):=by
     rw [Bool.eq_iff_iff,h3,decide_eq_true_eq]
     exact ⟨hi _ _,fun e=>by rw [e]⟩
    rw [List.findIdx?_cons,List.findIdx?_cons,h2,h4]
 obtain ⟨ds,h1,h2⟩:=hall l
 show ((some (l.map F)).bind fun xs=>(pd 60 (F a)).bind fun d=>(xs.mapM (pd 59)).bind fun ds=>(ds.findIdx? fun z=>PySem.PyData.eqv z d).map fun (k : Nat)=>D.int (k : Int)) = _
 simp only [Option.bind_some,hd60,h1,h2]
/-- the key of a row,of a holding -/
abbrev Ke:={ x : Str × Int // PySem.PyData.strOk x.1 = true }
def keD (x : Ke) : D:=.tup [.str x.1.1,.int x.1.2]
theorem zZJN (a b : Ke) (h : keD a = keD b) : a = b:=by
 obtain ⟨⟨a1,a2⟩,ha⟩:=a
 obtain ⟨⟨b1,b2⟩,hb⟩:=b
 simp only [keD,D.tup.injEq,List.cons.injEq,D.str.injEq,D.int.injEq,and_true] at h
 obtain ⟨rfl,rfl⟩:=h
 rfl
theorem zZKU (a : Ke) : nb 59 (keD a) = true:=by
 obtain ⟨⟨a1,a2⟩,ha⟩:=a
 simp only [keD,nb,List.all_cons,List.all_nil,Bool.and_true]
 exact ha
theorem zZLG (a : Ke) (l : List Ke) : indD (keD a) (l.map keD) = some (decide (a ∈ l)):=by
 rw [zZN2 keD zZJN zZKU a l]
 congr
theorem zZK1 (a : Ke) (l : List Ke) (W : Wd) (dd : D) : ixdG W (.frz (l.map keD) dd) (keD a) = (l.findIdx? fun x=>decide (x = a)).map fun (k : Nat)=>D.int (k : Int):=zZM5 keD zZJN zZKU a l W dd
abbrev Hk:={ h : Hd // PySem.PyData.strOk h.nm = true }
def hkK (h : Hk) : Ke:=⟨(h.1.nm,h.1.ix),h.2⟩
def rkD (t : Tr3) : D:=.tup [.str t.nm,.int t.ix]
theorem zZOK : PySem.PyData.strOk "" = true:=by decide +kernel
def keT (t : Tr3) : Ke:=if h : PySem.PyData.strOk t.nm = true then ⟨(t.nm,t.ix),h⟩ else ⟨("",t.ix),zZOK⟩
theorem zZO8 {t : Tr3} (h : PySem.PyData.strOk t.nm = true) : keD (keT t) = rkD t:=by
 unfold keT
 rw [dif_pos h]
 rfl
theorem zZMg (r : List Tr3) (hr : ∀ t ∈ r,PySem.PyData.strOk t.nm = true) : (r.map keT).map keD = r.map rkD:=by
 rw [List.map_map]
 exact List.map_congr_left fun t ht=>zZO8 (hr t ht)
def fitO (kn : Str) (kl : List Ke) (h : Hk) : Option Pk:=if h.1.k = kn then (kl.findIdx? fun x=>decide (x = hkK h)).map fun i : Nat=>⟨(i : Int),h.1.r,h.1.vs⟩ else none
theorem zZEm : ∀ (kl : List Ke) (a : Ke),(kl.findIdx? fun x=>decide (x = a)).isSome = decide (a ∈ kl)
 | [],a=>by simp
 | x :: kl,a=>by
  rw [List.findIdx?_cons]
  by_cases e : x = a
  ·subst e
   simp
  ·have e2 : ¬ a = x:=fun h=>e h.symm
   rw [decide_eq_false e,if_neg Bool.false_ne_true,Option.isSome_map,zZEm kl a]
   simp only [List.mem_cons,e2,false_or]
abbrev wfE (w Q : D) (c : Nat) (acc : List Pk) (kl : List Ke) (z5 z6 z7 z8 z9 : Slot) : Env:=[.val w,.val Q,.val (.int (c : Int)),.ol (acc.map pkI),.val (.lst (kl.map keD)),z5,z6,z7,z8,z9,.no]
theorem zZNl (n : Nat) (p q : Int) (bs : List Int) (ks : List Kd) (cs : List Cd) (cn : List Cn) (rows : List (List Tr3)) (W : Wd) (c : Nat) (cd : Cd) (hc : cs[c]? = some cd) (kl : List Ke) (hkl : kl.length ≤ 100) (w : D) (a : Nat) (ys : List D) (hy : W[a]? = some (.lst ys)) : ∀ (l : List Hk) (acc : List Pk) (z5 z6 z7 z8 z9 : Slot),acc.length + l.length ≤ 100 → ∃ z5' z6' z7' z8' z9',
  forK (ckL (cfgN T (n + 2)) a ys) (tgD (.tup (.cons (.nm 5) (.cons (.nm 6) (.cons (.nm 7) (.cons (.nm 8) (.cons (.nm 9) .nil))))))) (exS (cfgN T (n + 2)) (forCB zZF)) (l.map fun h=>hdD h.1) (wfE w (qD p q bs ks cs cn rows) c acc kl z5 z6 z7 z8 z9) W =
   .ok (.nx (wfE w (qD p q bs ks cs cn rows) c (acc ++ l.filterMap (fitO cd.k kl)) kl z5' z6' z7' z8' z9')) W:=by
 have hck : ckL (cfgN T (n + 2)) a ys W = true:=zZJp hy
 have q1:=idx1
 have hca : atD (cs.map cdD) (.int (c : Int)) = some (cdD cd):=zZG (by rw [List.getElem?_map,hc]; rfl)
 simp only [zZF,forCB]
 intro l
 induction l with
 | nil=>intro acc z5 z6 z7 z8 z9 _; exact ⟨z5,z6,z7,z8,z9,by rw [List.filterMap_nil,List.append_nil]; exact zZIG hck⟩
 | cons h l ih =>
  intro acc z5 z6 z7 z8 z9 hb
  rw [List.length_cons] at hb
  have hkd : cmpD .eq (.str h.1.k) (.str cd.k) = some (.bl (decide (h.1.k = cd.k))):=rfl
  have hin:=zZLG (hkK h) kl
  have hix:=fun dd=>zZK1 (hkK h) kl W dd
  have hkey : keD (hkK h) = .tup [.str h.1.nm,.int h.1.ix]:=rfl
  rw [hkey] at hin hix
  have hind : indG false W (.tup [.str h.1.nm,.int h.1.ix]) (.frz (kl.map keD) (.lst (kl.map keD))) = some (.bl (decide (hkK h ∈ kl))):=by
   show ((some (kl.map keD)).bind fun xs=>(indD _ xs).map fun k=>D.bl (if false = true then !k else k)) = _
   rw [Option.bind_some,hin]
   rfl
  have hfm:=zZEm kl (hkK h)
  have hc2 : 2 ≤ cap:=by decide
  have hal : (acc.map pkI).length < cap:=by rw [List.length_map]; unfold cap; omega
  have hls : lstSrc W (.frz (kl.map keD) (.lst (kl.map keD))) = true:=rfl
  rw [List.map_cons,zZGs hck]
  by_cases hk : h.1.k = cd.k
  ·rw [decide_eq_true hk] at hkd
   cases hf : kl.findIdx? fun x=>decide (x = hkK h) with
   | none =>
    rw [hf] at hfm
    have hfm : decide (hkK h ∈ kl) = false:=hfm.symm
    rw [hfm] at hind
    have e : (h :: l).filterMap (fitO cd.k kl) = l.filterMap (fitO cd.k kl):=by
     rw [List.filterMap_cons]
     unfold fitO
     rw [if_pos hk,hf]
     rfl
    obtain ⟨y5,y6,y7,y8,y9,hz⟩:=ih acc (.val (.str h.1.nm)) (.val (.int h.1.ix)) (.val (.str h.1.k)) (.val (.int h.1.r)) (.val (.tup (h.1.vs.map .int))) (by omega)
    refine ⟨y5,y6,y7,y8,y9, ?_⟩
    rw [e,← hz]
    clear hz ih hf e hin hix hfm hk hb hc hy hkey
    simp only [wfE,hdD,qD,polD,cdD] at *
    generalize kl.map keD = KL at *
    generalize acc.map pkI = AC at *
    generalize h.1.vs.map D.int = VS at *
    walk_at "ev4"
   | some i =>
    rw [hf] at hfm hix
    have hfm : decide (hkK h ∈ kl) = true:=hfm.symm
    rw [hfm] at hind
    have e : (h :: l).filterMap (fitO cd.k kl) = ⟨(i : Int),h.1.r,h.1.vs⟩ :: l.filterMap (fitO cd.k kl):=by
     rw [List.filterMap_cons]
     unfold fitO
     rw [if_pos hk,hf]
     rfl
    have hpi:=zZJv (n + 1) (i : Int) h.1.r h.1.vs (.tup (h.1.vs.map .int)) W (.inl rfl)
    have hixs:=hix (.lst (kl.map keD))
    simp only [Option.map_some] at hixs
    obtain ⟨y5,y6,y7,y8,y9,hz⟩:=ih (acc ++ [⟨(i : Int),h.1.r,h.1.vs⟩]) (.val (.str h.1.nm)) (.val (.int h.1.ix)) (.val (.str h.1.k)) (.val (.int h.1.r)) (.val (.tup (h.1.vs.map .int))) (by rw [List.length_append,List.length_singleton]; omega)
    refine ⟨y5,y6,y7,y8,y9, ?_⟩
    rw [List.append_assoc,List.singleton_append] at hz
    rw [e,← hz]
    clear hz ih hf e hin hix hfm hk hb hc hy hkey
    simp only [wfE,hdD,qD,polD,cdD,pkI,List.map_append,List.map_cons,List.map_nil] at *
    generalize kl.map keD = KL at *
    generalize acc.map pkI = AC at *
    generalize h.1.vs.map D.int = VS at *
    walk_at "ev4"
  ·rw [decide_eq_false hk] at hkd
   have e : (h :: l).filterMap (fitO cd.k kl) = l.filterMap (fitO cd.k kl):=by
    rw [List.filterMap_cons]
    unfold fitO
    rw [if_neg hk]
   obtain ⟨y5,y6,y7,y8,y9,hz⟩:=ih acc (.val (.str h.1.nm)) (.val (.int h.1.ix)) (.val (.str h.1.k)) (.val (.int h.1.r)) (.val (.tup (h.1.vs.map .int))) (by omega)
   refine ⟨y5,y6,y7,y8,y9, ?_⟩
   rw [e,← hz]
   clear hz ih e hin hix hfm hk hb hc hy hkey hind
   simp only [wfE,hdD,qD,polD,cdD] at *
   generalize kl.map keD = KL at *
   generalize acc.map pkI = AC at *
   generalize h.1.vs.map D.int = VS at *
   walk_at "ev4"
theorem zZIq (n : Nat) (p q : Int) (bs : List Int) (ks : List Kd) (cs : List Cd) (cn : List Cn) (rows : List (List Tr3)) (W : Wd) (c : Nat) (cd : Cd) (hc : cs[c]? = some cd) (r : List Tr3) (hr : rows[c]? = some r) (hrs : ∀ t ∈ r,PySem.PyData.strOk t.nm = true) (hrl : r.length ≤ 50) (p' q' : Int) (bs' : List Int) (s : Int) (a : Nat) (l : List Hk) (hl : l.length ≤ 100) (hy : W[a]? = some (.lst (l.map fun h=>hdD h.1))) :
  (cfgN T (n + 3)).call xZE [wI p' q' bs' s a,qD p q bs ks cs cn rows,.int (c : Int)] W = .ok (.lst ((l.filterMap (fitO cd.k (r.map keT))).map pkI)) W:=by
 obtain ⟨z5,z6,z7,z8,z9,hz⟩:=zZNl n p q bs ks cs cn rows W c cd hc (r.map keT) (by rw [List.length_map]; omega) (wI p' q' bs' s a) a _ hy l [] .no .no .no .no .no (by simp; omega)
 rw [List.nil_append] at hz
 have hra : atD (rows.map trsD) (.int (c : Int)) = some (trsD r):=zZG (by rw [List.getElem?_map,hr]; rfl)
 have hcomp : ∀ (y0 y1 y2 y3 y4 y5 y6 y7 y8 y9 : Slot) (b : Bool),compR (cfgN T (n + 2)) (.sl (.var 10) .none (.some (.int 2))) (.nm 10) .nil [y0,y1,y2,y3,y4,y5,y6,y7,y8,y9,.no] (r.map trD,b) W = .ok (r.map rkD) W:=by
  intro y0 y1 y2 y3 y4 y5 y6 y7 y8 y9 b
  refine yZV trD rkD r (by unfold cap; omega) fun x _=>⟨_,rfl, ?_⟩
  rfl
 have hc0 : 0 ≤ cap:=by decide
 have hyl : (l.map fun h=>hdD h.1).length ≤ 100:=by rw [List.length_map]; exact hl
 rw [zZE (F:=yZd) rfl]
 have hB : zZF = .seq (headS zZF) (.seq (headS (dropS 1 zZF)) (.seq (.forC (.tup (.cons (.nm 5) (.cons (.nm 6) (.cons (.nm 7) (.cons (.nm 8) (.cons (.nm 9) .nil)))))) false (.fld 59 (.var 0)) (forCB zZF)) (dropS 3 zZF))):=rfl
 simp only [yZd]
 rw [hB]
 generalize hFB : forCB zZF = FB at *
 simp only [headS,dropS,zZF]
 clear hB hFB hc hr hl hrl
 simp only [wfE,qD,polD,wI,trsD,zZMg r hrs,List.map_nil] at *
 generalize (l.map fun h=>hdD h.1) = HL at *
 generalize (l.filterMap (fitO cd.k (r.map keT))).map pkI = FL at *
 generalize r.map rkD = RK at *
 generalize r.map trD = RT at *
 generalize rows.map (fun l=>D.tup (l.map trD)) = RS at *
 generalize rows.map trsD = RS2 at *
 clear hrs
 walk_at "ev3"
theorem zZGn {α : Type} {tg : D → Option Env} {elt : Env → Wd → R D} {ck : Wd → Bool} {W : Wd} (hk : ck W = true) (f g : α → D) : ∀ {ds : List α},(∀ d ∈ ds,∃ e,tg (f d) = some e ∧ elt e W = .ok (g d) W) → compK ck tg elt (ds.map f) W = .ok (ds.map g) W
 | [],_=>by
  rw [List.map_nil]
  unfold compK
  rw [hk]
  rfl
 | d :: ds,h=>by
  obtain ⟨e,h1,h2⟩:=h d List.mem_cons_self
  rw [List.map_cons]
  unfold compK
  rw [hk,h1,zZn,R.bind_ok,h2,R.calm_ok,R.bind_ok,zZGn hk f g fun x hx=>h x (List.mem_cons_of_mem _ hx)]
  rfl
theorem zZHB {α β : Type} {tg : D → Option Env} {it : Env → Wd → R (List D × Bool)} {tg2 : D → Env → Option Env} {elt : Env → Wd → R D} {W : Wd} (f : α → D) (h : β → D) (g : α → β → D) (ys : List β) (b : Bool) : ∀ (xs : List α) (k : Nat),(∀ x ∈ xs,∃ e2,tg (f x) = some e2 ∧ it e2 W = .ok (ys.map h,b) W ∧ ∀ y ∈ ys,∃ e3,tg2 (h y) e2 = some e3 ∧ elt e3 W = .ok (g x y) W) → k + xs.length * ys.length ≤ cap → comp2L tg it tg2 elt k (xs.map f) W = .ok (xs.flatMap fun x=>ys.map (g x)) W
 | [],k,_,_=>rfl
 | x :: xs,k,hx,hb=>by
  obtain ⟨e2,h1,h2,h3⟩:=hx x List.mem_cons_self
  rw [List.length_cons,Nat.succ_mul] at hb
  rw [List.map_cons]
  unfold comp2L
  have hle : k + (ys.map h).length ≤ cap:=by rw [List.length_map]; omega
  rw [h1,zZn,R.bind_ok,h2,R.calm_ok,R.bind_ok,if_pos hle,zZGn (f:=h) (g:=g x) rfl h3,R.bind_ok,zZHB f h g ys b xs (k + (ys.map (g x)).length) (fun y hy=>hx y (List.mem_cons_of_mem _ hy)) (by rw [List.length_map]; omega)]
  rfl
def fitL (cs : List Cd) (rows : List (List Tr3)) (l : List Hk) (c : Nat) : List Pk:=match cs[c]?,rows[c]? with
 | some cd,some r=>l.filterMap (fitO cd.k (r.map keT))
 | _,_=>[]
theorem zZI0 {cs : List Cd} {rows : List (List Tr3)} {l : List Hk} {c : Nat} {cd : Cd} {r : List Tr3} (h1 : cs[c]? = some cd) (h2 : rows[c]? = some r) : fitL cs rows l c = l.filterMap (fitO cd.k (r.map keT)):=by
 unfold fitL
 rw [h1,h2]
theorem zZHi (cs : List Cd) (rows : List (List Tr3)) (l : List Hk) (c : Nat) : (fitL cs rows l c).length ≤ l.length:=by
 unfold fitL
 split
 ·exact List.length_filterMap_le ..
 ·exact Nat.zero_le _
def pkN (cs : List Cd) (rows : List (List Tr3)) (l : List Hk) : Nat → List (List Pk)
 | 0=>[[]]
 | c + 1=>(pkN cs rows l c).flatMap fun row=>(fitL cs rows l c).map fun x=>row ++ [x]
theorem zZIM {α β : Type} (g : α → List β) (m : Nat) : ∀ (xs : List α),(∀ x ∈ xs,(g x).length ≤ m) → (xs.flatMap g).length ≤ xs.length * m
 | [],_=>by simp
 | x :: xs,h=>by
  have h1:=h x List.mem_cons_self
  have h2:=zZIM g m xs fun y hy=>h y (List.mem_cons_of_mem _ hy)
  rw [List.flatMap_cons,List.length_append,List.length_cons,Nat.succ_mul]
  omega
theorem zZGX (cs : List Cd) (rows : List (List Tr3)) (l : List Hk) (hl : l.length ≤ 20) : ∀ c,c ≤ 3 → (pkN cs rows l c).length ≤ 20 ^ c
 | 0,_=>by simp [pkN]
 | c + 1,h=>by
  have h1:=zZGX cs rows l hl c (by omega)
  have h2:=zZIM (fun row=>(fitL cs rows l c).map fun x=>row ++ [x]) 20 (pkN cs rows l c) fun x _=>by
   rw [List.length_map]
   have:=zZHi cs rows l c
   omega
  have h3 : (pkN cs rows l c).length * 20 ≤ 20 ^ c * 20:=Nat.mul_le_mul_right _ h1
  rw [Nat.pow_succ]
  exact Nat.le_trans h2 h3
theorem zZHz (cs : List Cd) (rows : List (List Tr3)) (l : List Hk) (hl : l.length ≤ 20) (c : Nat) (hc : c ≤ 3) : (pkN cs rows l c).length ≤ 8000 :=
 Nat.le_trans (zZGX cs rows l hl c hc) (by
  have : c = 0 ∨ c = 1 ∨ c = 2 ∨ c = 3:=by omega
  rcases this with rfl | rfl | rfl | rfl <;> decide)
theorem zZED {cs : List Cd} {rows : List (List Tr3)} {l : List Hk} : ∀ {c : Nat} {pk : List Pk},pk ∈ pkN cs rows l c → pk.length = c ∧ ∀ i k,pk[i]? = some k → k ∈ fitL cs rows l i
 | 0,pk,h=>by
  simp only [pkN,List.mem_singleton] at h
  subst h
  exact ⟨rfl,fun i k h=>by simp at h⟩
 | c + 1,pk,h=>by
  simp only [pkN,List.mem_flatMap,List.mem_map] at h
  obtain ⟨row,h1,x,h2,rfl⟩:=h
  obtain ⟨e1,e2⟩:=zZED h1
  refine ⟨by rw [List.length_append,e1]; rfl,fun i k hk => ?_⟩
  by_cases hi : i < row.length
  ·rw [List.getElem?_append_left hi] at hk
   exact e2 i k hk
  ·rw [List.getElem?_append_right (by omega)] at hk
   have : i - row.length = 0:=by
    cases q : i - row.length with
    | zero=>rfl
    | succ _=>rw [q] at hk; simp at hk
   rw [this] at hk
   simp only [List.getElem?_cons_zero,Option.some.injEq] at hk
   subst hk
   rw [show i = c by omega]
   exact h2
def lI (pk : List Pk) : D:=.lst (pk.map pkI)
def lT (pk : List Pk) : D:=.lst (pk.map pkD)
theorem zZNS (n : Nat) (p q : Int) (bs : List Int) (ks : List Kd) (cs : List Cd) (cn : List Cn) (rows : List (List Tr3)) (W : Wd) (hrl : rows.length = cs.length) (hrs : ∀ r ∈ rows,r.length ≤ 50 ∧ ∀ t ∈ r,PySem.PyData.strOk t.nm = true) (h3 : cs.length ≤ 3) (p' q' : Int) (bs' : List Int) (s : Int) (a : Nat) (l : List Hk) (hl : l.length ≤ 20) (hy : W[a]? = some (.lst (l.map fun h=>hdD h.1))) : ∀ (m c : Nat) (z3 : Slot),c + m = cs.length → ∃ z3',
  forL (tgD (.nm 3)) (exS (cfgN T (n + 3)) ((forsS zZj).getD 0 .skip)) (rangeD (c : Int) m) [.val (wI p' q' bs' s a),.val (qD p q bs ks cs cn rows),.val (.lst ((pkN cs rows l c).map lI)),z3,.no,.no] W =
   .ok (.nx [.val (wI p' q' bs' s a),.val (qD p q bs ks cs cn rows),.val (.lst ((pkN cs rows l cs.length).map lI)),z3',.no,.no]) W:=by
 simp only [zZj,forsS,List.getD_cons_zero]
 intro m
 induction m with
 | zero =>
  intro c z3 hc
  refine ⟨z3, ?_⟩
  have : c = cs.length:=by omega
  rw [this]
  rfl
 | succ m ih =>
  intro c z3 hc
  obtain ⟨z3',hz⟩:=ih (c + 1) (.val (.int (c : Int))) (by omega)
  refine ⟨z3', ?_⟩
  have hcd : cs[c]? = some (cs[c]'(by omega)):=List.getElem?_eq_getElem _
  have hcr : rows[c]? = some (rows[c]'(by omega)):=List.getElem?_eq_getElem _
  obtain ⟨r1,r2⟩:=hrs _ (List.getElem_mem (l:=rows) (n:=c) (by omega))
  have hfit:=zZIq n p q bs ks cs cn rows W c _ hcd _ hcr r2 r1 p' q' bs' s a l (by omega) hy
  rw [← zZI0 hcd hcr] at hfit
  have hfl:=zZHi cs rows l c
  have hpl:=zZHz cs rows l hl c (by omega)
  have hmem:=fun pk (h : pk ∈ pkN cs rows l c)=>(zZED h).1
  have hmul : (pkN cs rows l c).length * (fitL cs rows l c).length ≤ 8000 * 20:=Nat.mul_le_mul hpl (by omega)
  have hq : wipeE [Slot.val (wI p' q' bs' s a),.val (qD p q bs ks cs cn rows),.val (.lst ((pkN cs rows l c).map lI)),.val (.int (c : Int)),.no,.no] (tgN (.nm 4) ++ tgN (.nm 5)) = [Slot.val (wI p' q' bs' s a),.val (qD p q bs ks cs cn rows),.val (.lst ((pkN cs rows l c).map lI)),.val (.int (c : Int)),.no,.no]:=rfl
  have hcomp : comp2R (cfgN T (n + 3)) (.frz (.add (.var 4) (.frz (.disp (.cons (.var 5) .nil))))) (.nm 4) (.nm 5) (.seq (.meth 67 (.var 0) (.cons (.var 1) (.cons (.var 3) .nil)))) [.val (wI p' q' bs' s a),.val (qD p q bs ks cs cn rows),.val (.lst ((pkN cs rows l c).map lI)),.val (.int (c : Int)),.no,.no] ((pkN cs rows l c).map lI,false) W = .ok ((pkN cs rows l (c + 1)).map lI) W:=by
   have e : (pkN cs rows l (c + 1)).map lI = (pkN cs rows l c).flatMap fun row=>(fitL cs rows l c).map fun x=>lI (row ++ [x]):=by
    show ((pkN cs rows l c).flatMap _).map lI = _
    rw [List.map_flatMap]
    congr
    funext row
    rw [List.map_map]
    rfl
   rw [e]
   unfold comp2R
   rw [hq]
   refine zZHB lI pkI (fun row x=>lI (row ++ [x])) (fitL cs rows l c) false _ 0 (fun row hrow=>⟨_,rfl, ?_,fun x hx=>⟨_,rfl, ?_⟩⟩) (by unfold cap; omega)
   ·show evIt _ _ [.val (wI p' q' bs' s a),.val (qD p q bs ks cs cn rows),.val (.lst ((pkN cs rows l c).map lI)),.val (.int (c : Int)),.val (lI row),.no] W = _
    clear hz ih hq hmem hcd hcr hmul hpl hfl
    generalize qD p q bs ks cs cn rows = Q at *
    generalize (pkN cs rows l c).map lI = PL at *
    generalize (fitL cs rows l c).map pkI = FL at *
    simp only [wI] at *
    walk_at "ev4"
   ·show evE _ _ [.val (wI p' q' bs' s a),.val (qD p q bs ks cs cn rows),.val (.lst ((pkN cs rows l c).map lI)),.val (.int (c : Int)),.val (lI row),.val (pkI x)] W = _
    have hrl2:=hmem row hrow
    have h1 : 1 ≤ cap:=by decide
    have h2 : (row.map pkI).length + [pkI x].length ≤ cap:=by rw [List.length_map,List.length_singleton]; unfold cap; omega
    clear hz ih hq hmem hcd hcr hmul hpl hfl hfit
    simp only [lI,List.map_append,List.map_cons,List.map_nil]
    generalize row.map pkI = RW at *
    generalize pkI x = X at *
    walk_at "ev4"
  have e1 : ((c : Int) + 1) = ((c + 1 : Nat) : Int):=by omega
  rw [range_succ,zZD,e1,← hz]
  clear hz ih hq hfit hmem hcd hcr hmul hpl hfl
  generalize qD p q bs ks cs cn rows = Q at *
  generalize wI p' q' bs' s a = WW at *
  generalize (pkN cs rows l c).map lI = PL at *
  generalize (pkN cs rows l (c + 1)).map lI = PL2 at *
  generalize (pkN cs rows l cs.length).map lI = PL3 at *
  walk_at "ev4"
theorem zZJ2 (n : Nat) (p q : Int) (bs : List Int) (ks : List Kd) (cs : List Cd) (cn : List Cn) (rows : List (List Tr3)) (W : Wd) (K : CsOK ks cs) (hn : ∀ c ∈ cn,CnOK ks cs c) (w fo : D) (z3 : Slot) : ∀ (L : List (List Pk)) (z4 : Slot),(∀ pk ∈ L,PkOK ks cs pk) → ∃ e',
  forL (tgD (.nm 4)) (exS (cfgN T (n + 6)) ((forsS zZj).getD 1 .skip)) (L.map lI) [.val w,.val (qD p q bs ks cs cn rows),.val fo,z3,z4,.no] W =
   match L.find? fun pk=>ansB ks cs pk cn with
   | some pk=>.ok (.rt (lI pk)) W
   | none=>.ok (.nx e') W:=by
 simp only [zZj,forsS,List.getD_cons_zero,List.getD_cons_succ]
 intro L
 induction L with
 | nil=>intro z4 _; exact ⟨_,rfl⟩
 | cons pk L ih =>
  intro z4 hL
  obtain ⟨e',hz⟩:=ih (.val (lI pk)) (fun x hx=>hL x (List.mem_cons_of_mem _ hx))
  have ha:=zZIp n p q bs ks cs cn rows pk (lI pk) W K hn (hL pk List.mem_cons_self) (.inl rfl)
  refine ⟨e', ?_⟩
  rw [List.map_cons,zZD,List.find?_cons]
  cases hb : ansB ks cs pk cn with
  | true =>
   rw [hb] at ha
   dsimp only
   clear hz ih hL K hn hb
   generalize qD p q bs ks cs cn rows = Q at *
   generalize lI pk = PD at *
   walk_at "ev4"
  | false =>
   rw [hb] at ha
   simp only []
   rw [← hz]
   clear hz ih hL K hn hb
   generalize qD p q bs ks cs cn rows = Q at *
   generalize lI pk = PD at *
   walk_at "ev4"
def opk (f : List Pk → D) : Option (List Pk) → D
 | none=>.non
 | some pk=>f pk
theorem zZK8 (n : Nat) (p q : Int) (bs : List Int) (ks : List Kd) (cs : List Cd) (cn : List Cn) (rows : List (List Tr3)) (W : Wd) (K : CsOK ks cs) (hn : ∀ c ∈ cn,CnOK ks cs c) (hrl : rows.length = cs.length) (hrs : ∀ r ∈ rows,r.length ≤ 50 ∧ ∀ t ∈ r,PySem.PyData.strOk t.nm = true) (p' q' : Int) (bs' : List Int) (s : Int) (a : Nat) (l : List Hk) (hl : l.length ≤ 20) (hy : W[a]? = some (.lst (l.map fun h=>hdD h.1))) (hP : ∀ pk ∈ pkN cs rows l cs.length,PkOK ks cs pk) :
  (cfgN T (n + 7)).call xZn [wI p' q' bs' s a,qD p q bs ks cs cn rows] W = .ok (opk lI ((pkN cs rows l cs.length).find? fun pk=>ansB ks cs pk cn)) W:=by
 have h3:=K.l3
 obtain ⟨z3,h1⟩:=zZNS (n + 3) p q bs ks cs cn rows W hrl hrs h3 p' q' bs' s a l hl hy cs.length 0 .no (by omega)
 obtain ⟨e',h2⟩:=zZJ2 n p q bs ks cs cn rows W K hn (wI p' q' bs' s a) (.lst ((pkN cs rows l cs.length).map lI)) z3 (pkN cs rows l cs.length) .no hP
 have e0 : ((0 : Nat) : Int) = 0:=rfl
 have e1 : (pkN cs rows l 0).map lI = [.lst []]:=rfl
 rw [e0,e1] at h1
 have hc0 : 0 ≤ cap:=by decide
 have hc1 : 1 ≤ cap:=by decide
 have hg : -4611686018427387904 ≤ (cs.length : Int) ∧ (cs.length : Int) < 4611686018427387904:=by omega
 have hcl : (cs.map cdD).length = cs.length:=List.length_map _
 rw [zZE (F:=yZt) rfl]
 simp only [zZj,forsS,List.getD_cons_zero,List.getD_cons_succ] at h1 h2
 simp only [yZt,zZj]
 clear hP hrs hrl hn K hy
 cases hf : (pkN cs rows l cs.length).find? fun pk=>ansB ks cs pk cn with
 | none =>
  rw [hf] at h2
  simp only [qD,polD,opk] at *
  generalize wI p' q' bs' s a = WW at *
  generalize (pkN cs rows l cs.length).map lI = PL at *
  generalize gI p q bs = GI at *
  generalize ks.map kI = KI at *
  generalize cs.length = L at *
  generalize cs.map cdD = CS at *
  subst hcl
  clear hf
  walk_at "ev4"
 | some pk =>
  rw [hf] at h2
  simp only [qD,polD,opk] at *
  generalize lI pk = PK at *
  generalize wI p' q' bs' s a = WW at *
  generalize (pkN cs rows l cs.length).map lI = PL at *
  generalize gI p q bs = GI at *
  generalize ks.map kI = KI at *
  generalize cs.length = L at *
  generalize cs.map cdD = CS at *
  subst hcl
  clear hf
  walk_at "ev4"
def lfB1 : S:=(forsS zZJ).getD 0 .skip
def lfB2 : S:=(forsS lfB1).getD 0 .skip
def lfB3 : S:=(forsS lfB2).getD 0 .skip
theorem zZPB (n : Nat) (S : Sc) (d : Ad) (a0 : Nat) (W : Wd) (h : ScAt W a0 d S) (hs fo : D) (c : Nat) (cd : Cd) (hc : S.cs[c]? = some cd) (kl : List Ke) (pk : List Pk) (hpk : pk.length ≤ 10) (y7 : Slot) : ∀ (l : List Hk) (acc : List (List Pk)) (z8 z9 z10 z11 z12 : Slot),acc.length + l.length ≤ 100000 → ∃ z8' z9' z10' z11' z12',
  forL (tgD (.tup (.cons (.nm 8) (.cons (.nm 9) (.cons (.nm 10) (.cons (.nm 11) (.cons (.nm 12) .nil))))))) (exS (cfgN T n) lfB3) (l.map fun h=>hdD h.1) [.val (.own a0),.val hs,.val fo,.val (.int (c : Int)),.val (lT pk),.ol (acc.map lT),.val (.lst (kl.map keD)),y7,z8,z9,z10,z11,z12] W =
   .ok (.nx [.val (.own a0),.val hs,.val fo,.val (.int (c : Int)),.val (lT pk),.ol ((acc ++ (l.filterMap (fitO cd.k kl)).map fun x=>pk ++ [x]).map lT),.val (.lst (kl.map keD)),y7,z8',z9',z10',z11',z12']) W:=by
 obtain ⟨hsc,hcc,-,-,-,-⟩:=h
 have lc:=zZ9 S d
 simp only [scC] at hsc
 generalize scL S d = SL at *
 have q1:=idx1
 have hca : atD (S.cs.map cdD) (.int (c : Int)) = some (cdD cd):=zZG (by rw [List.getElem?_map,hc]; rfl)
 simp only [lfB3,lfB2,lfB1,zZJ,forsS,List.getD_cons_zero]
 intro l
 induction l with
 | nil=>intro acc z8 z9 z10 z11 z12 _; exact ⟨z8,z9,z10,z11,z12,by simp only [List.filterMap_nil,List.map_nil,List.append_nil]; rfl⟩
 | cons h l ih =>
  intro acc z8 z9 z10 z11 z12 hb
  rw [List.length_cons] at hb
  have hkd : cmpD .eq (.str h.1.k) (.str cd.k) = some (.bl (decide (h.1.k = cd.k))):=rfl
  have hin:=zZLG (hkK h) kl
  have hix:=fun dd=>zZK1 (hkK h) kl W dd
  have hkey : keD (hkK h) = .tup [.str h.1.nm,.int h.1.ix]:=rfl
  rw [hkey] at hin hix
  have hind : indG false W (.tup [.str h.1.nm,.int h.1.ix]) (.frz (kl.map keD) (.lst (kl.map keD))) = some (.bl (decide (hkK h ∈ kl))):=by
   show ((some (kl.map keD)).bind fun xs=>(indD _ xs).map fun k=>D.bl (if false = true then !k else k)) = _
   rw [Option.bind_some,hin]
   rfl
  have hfm:=zZEm kl (hkK h)
  have hc2 : 2 ≤ cap:=by decide
  have hc3 : 3 ≤ cap:=by decide
  have hc1 : 1 ≤ cap:=by decide
  have hal : (acc.map lT).length < cap:=by rw [List.length_map]; unfold cap; omega
  have hls : lstSrc W (.frz (kl.map keD) (.lst (kl.map keD))) = true:=rfl
  rw [List.map_cons,zZD]
  by_cases hk : h.1.k = cd.k
  ·rw [decide_eq_true hk] at hkd
   cases hf : kl.findIdx? fun x=>decide (x = hkK h) with
   | none =>
    rw [hf] at hfm
    have hfm : decide (hkK h ∈ kl) = false:=hfm.symm
    rw [hfm] at hind
    have e : (h :: l).filterMap (fitO cd.k kl) = l.filterMap (fitO cd.k kl):=by
     rw [List.filterMap_cons]
     unfold fitO
     rw [if_pos hk,hf]
     rfl
    obtain ⟨y8,y9,y10,y11,y12,hz⟩:=ih acc (.val (.str h.1.nm)) (.val (.int h.1.ix)) (.val (.str h.1.k)) (.val (.int h.1.r)) (.val (.tup (h.1.vs.map .int))) (by omega)
    refine ⟨y8,y9,y10,y11,y12, ?_⟩
    rw [e,← hz]
    clear hz ih hf e hin hix hfm hk hb hc hkey
    simp only [hdD,cdD] at *
    generalize kl.map keD = KL at *
    generalize acc.map lT = AC at *
    generalize lT pk = LP at *
    generalize h.1.vs.map D.int = VS at *
    generalize S.cs.map cdD = CS at *
    generalize S.cs.map (fun c=>D.tup [.str c.nm,.str c.k,.tup (c.ns.map .str)]) = CS2 at *
    walk_at "ev4"
   | some i =>
    rw [hf] at hfm hix
    have hfm : decide (hkK h ∈ kl) = true:=hfm.symm
    rw [hfm] at hind
    have e : (h :: l).filterMap (fitO cd.k kl) = ⟨(i : Int),h.1.r,h.1.vs⟩ :: l.filterMap (fitO cd.k kl):=by
     rw [List.filterMap_cons]
     unfold fitO
     rw [if_pos hk,hf]
     rfl
    have hixs:=hix (.lst (kl.map keD))
    simp only [Option.map_some] at hixs
    obtain ⟨y8,y9,y10,y11,y12,hz⟩:=ih (acc ++ [pk ++ [⟨(i : Int),h.1.r,h.1.vs⟩]]) (.val (.str h.1.nm)) (.val (.int h.1.ix)) (.val (.str h.1.k)) (.val (.int h.1.r)) (.val (.tup (h.1.vs.map .int))) (by rw [List.length_append,List.length_singleton]; omega)
    refine ⟨y8,y9,y10,y11,y12, ?_⟩
    rw [List.append_assoc,List.singleton_append] at hz
    rw [e,List.map_cons,← hz,List.map_append,List.map_cons,List.map_nil]
    have hlp : lT (pk ++ [⟨(i : Int),h.1.r,h.1.vs⟩]) = .lst (pk.map pkD ++ [.tup [.int (i : Int),.int h.1.r,.tup (h.1.vs.map .int)]]):=by
     unfold lT
     rw [List.map_append]
     rfl
    have hpl : (pk.map pkD).length + 1 ≤ cap:=by rw [List.length_map]; unfold cap; omega
    clear hz ih hf e hin hix hfm hk hb hc hkey
    rw [hlp]
    have hlp2 : lT pk = .lst (pk.map pkD):=rfl
    rw [hlp2]
    clear hlp hlp2
    simp only [hdD,cdD] at *
    generalize kl.map keD = KL at *
    generalize acc.map lT = AC at *
    generalize pk.map pkD = LP at *
    generalize h.1.vs.map D.int = VS at *
    generalize S.cs.map cdD = CS at *
    generalize S.cs.map (fun c=>D.tup [.str c.nm,.str c.k,.tup (c.ns.map .str)]) = CS2 at *
    walk_at "ev4"
  ·rw [decide_eq_false hk] at hkd
   have e : (h :: l).filterMap (fitO cd.k kl) = l.filterMap (fitO cd.k kl):=by
    rw [List.filterMap_cons]
    unfold fitO
    rw [if_neg hk]
   obtain ⟨y8,y9,y10,y11,y12,hz⟩:=ih acc (.val (.str h.1.nm)) (.val (.int h.1.ix)) (.val (.str h.1.k)) (.val (.int h.1.r)) (.val (.tup (h.1.vs.map .int))) (by omega)
   refine ⟨y8,y9,y10,y11,y12, ?_⟩
   rw [e,← hz]
   clear hz ih e hin hix hfm hk hb hc hkey hind
   simp only [hdD,cdD] at *
   generalize kl.map keD = KL at *
   generalize acc.map lT = AC at *
   generalize lT pk = LP at *
   generalize h.1.vs.map D.int = VS at *
   generalize S.cs.map cdD = CS at *
   generalize S.cs.map (fun c=>D.tup [.str c.nm,.str c.k,.tup (c.ns.map .str)]) = CS2 at *
   walk_at "ev4"
theorem zZOw (n : Nat) (S : Sc) (d : Ad) (a0 : Nat) (W : Wd) (h : ScAt W a0 d S) (fo : D) (c : Nat) (cd : Cd) (hc : S.cs[c]? = some cd) (kl : List Ke) (l : List Hk) (y7 : Slot) : ∀ (L : List (List Pk)) (acc : List (List Pk)) (z4 z8 z9 z10 z11 z12 : Slot),(∀ pk ∈ L,pk.length ≤ 10) → acc.length + L.length * l.length + l.length ≤ 100000 → ∃ z4' z8' z9' z10' z11' z12',
  forL (tgD (.nm 4)) (exS (cfgN T n) lfB2) (L.map lT) [.val (.own a0),.val (.lst (l.map fun h=>hdD h.1)),.val fo,.val (.int (c : Int)),z4,.ol (acc.map lT),.val (.lst (kl.map keD)),y7,z8,z9,z10,z11,z12] W =
   .ok (.nx [.val (.own a0),.val (.lst (l.map fun h=>hdD h.1)),.val fo,.val (.int (c : Int)),z4',.ol ((acc ++ L.flatMap fun pk=>(l.filterMap (fitO cd.k kl)).map fun x=>pk ++ [x]).map lT),.val (.lst (kl.map keD)),y7,z8',z9',z10',z11',z12']) W:=by
 intro L
 induction L with
 | nil=>intro acc z4 z8 z9 z10 z11 z12 _ _; exact ⟨z4,z8,z9,z10,z11,z12,by rw [List.flatMap_nil,List.append_nil]; rfl⟩
 | cons pk L ih =>
  intro acc z4 z8 z9 z10 z11 z12 hL hb
  rw [List.length_cons,Nat.succ_mul] at hb
  obtain ⟨x8,x9,x10,x11,x12,h1⟩:=zZPB n S d a0 W h (.lst (l.map fun h=>hdD h.1)) fo c cd hc kl pk (hL pk List.mem_cons_self) y7 l acc z8 z9 z10 z11 z12 (by omega)
  have hfl : (l.filterMap (fitO cd.k kl)).length ≤ l.length:=List.length_filterMap_le ..
  obtain ⟨y4,y8,y9,y10,y11,y12,h2⟩:=ih (acc ++ (l.filterMap (fitO cd.k kl)).map fun x=>pk ++ [x]) (.val (lT pk)) x8 x9 x10 x11 x12 (fun x hx=>hL x (List.mem_cons_of_mem _ hx)) (by rw [List.length_append,List.length_map]; omega)
  refine ⟨y4,y8,y9,y10,y11,y12, ?_⟩
  rw [List.flatMap_cons,← List.append_assoc,← h2,List.map_cons,zZD]
  have hB : lfB2 = .seq (.forS (.tup (.cons (.nm 8) (.cons (.nm 9) (.cons (.nm 10) (.cons (.nm 11) (.cons (.nm 12) .nil)))))) (.seq (.var 1)) lfB3) .skip:=rfl
  rw [hB]
  clear hB h2 ih hL hb hfl h hc
  generalize lfB3 = B3 at *
  generalize (l.map fun h=>hdD h.1) = HL at *
  generalize lT pk = LP at *
  generalize acc.map lT = AC at *
  generalize (acc ++ (l.filterMap (fitO cd.k kl)).map fun x=>pk ++ [x]).map lT = AC2 at *
  generalize kl.map keD = KL at *
  walk_at "ev4"
theorem zZOo (n : Nat) (S : Sc) (d : Ad) (a0 : Nat) (W : Wd) (h : ScAt W a0 d S) (hrl : S.rows.length = S.cs.length) (hrs : ∀ r ∈ S.rows,r.length ≤ 50 ∧ ∀ t ∈ r,PySem.PyData.strOk t.nm = true) (h3 : S.cs.length ≤ 3) (l : List Hk) (hl : l.length ≤ 20) : ∀ (m c : Nat) (z3 z4 z5 z6 z8 z9 z10 z11 z12 : Slot),c + m = S.cs.length → ∃ z3' z4' z5' z6' z8' z9' z10' z11' z12',
  forL (tgD (.nm 3)) (exS (cfgN T n) lfB1) (rangeD (c : Int) m) [.val (.own a0),.val (.lst (l.map fun h=>hdD h.1)),.val (.lst ((pkN S.cs S.rows l c).map lT)),z3,z4,z5,z6,.no,z8,z9,z10,z11,z12] W =
   .ok (.nx [.val (.own a0),.val (.lst (l.map fun h=>hdD h.1)),.val (.lst ((pkN S.cs S.rows l S.cs.length).map lT)),z3',z4',z5',z6',.no,z8',z9',z10',z11',z12']) W:=by
 intro m
 induction m with
 | zero =>
  intro c z3 z4 z5 z6 z8 z9 z10 z11 z12 hc
  refine ⟨z3,z4,z5,z6,z8,z9,z10,z11,z12, ?_⟩
  have : c = S.cs.length:=by omega
  rw [this]
  rfl
 | succ m ih =>
  intro c z3 z4 z5 z6 z8 z9 z10 z11 z12 hc
  have hcd : S.cs[c]? = some (S.cs[c]'(by omega)):=List.getElem?_eq_getElem _
  have hcr : S.rows[c]? = some (S.rows[c]'(by omega)):=List.getElem?_eq_getElem _
  obtain ⟨r1,r2⟩:=hrs _ (List.getElem_mem (l:=S.rows) (n:=c) (by omega))
  generalize S.cs[c]'(by omega) = cd at *
  generalize S.rows[c]'(by omega) = r at *
  have hfe:=zZI0 (l:=l) hcd hcr
  have hpl:=zZHz S.cs S.rows l hl c (by omega)
  have hmul : (pkN S.cs S.rows l c).length * l.length ≤ 8000 * 20:=Nat.mul_le_mul hpl hl
  have hmul2 : (pkN S.cs S.rows l c).length * l.length ≤ 20 ^ c * 20:=Nat.mul_le_mul (zZGX S.cs S.rows l hl c (by omega)) hl
  have hmul3 : 20 ^ c * 20 ≤ 8000:=by
   have : c = 0 ∨ c = 1 ∨ c = 2:=by omega
   rcases this with rfl | rfl | rfl <;> decide
  obtain ⟨x4,x8,x9,x10,x11,x12,h1⟩:=zZOw n S d a0 W h (.lst ((pkN S.cs S.rows l c).map lT)) c cd hcd (r.map keT) l .no (pkN S.cs S.rows l c) [] z4 z8 z9 z10 z11 z12 (fun pk hpk=>by have:=(zZED hpk).1; omega) (by simp only [List.length_nil]; omega)
  have hnx : (pkN S.cs S.rows l c).flatMap (fun pk=>(l.filterMap (fitO cd.k (r.map keT))).map fun x=>pk ++ [x]) = pkN S.cs S.rows l (c + 1):=by
   show _ = (pkN S.cs S.rows l c).flatMap _
   rw [hfe]
  rw [List.nil_append,hnx,List.map_nil,zZMg r r2] at h1
  obtain ⟨y3,y4,y5,y6,y8,y9,y10,y11,y12,hz⟩:=ih (c + 1) (.val (.int (c : Int))) x4 (.val (.lst ((pkN S.cs S.rows l (c + 1)).map lT))) (.val (.lst (r.map rkD))) x8 x9 x10 x11 x12 (by omega)
  refine ⟨y3,y4,y5,y6,y8,y9,y10,y11,y12, ?_⟩
  have hra : atD (S.rows.map trsD) (.int (c : Int)) = some (trsD r):=zZG (by rw [List.getElem?_map,hcr]; rfl)
  have hcomp : ∀ (y0 y1 y2 y3 y4 y5 y6 y8 y9 y10 y11 y12 : Slot) (b : Bool),compR (cfgN T n) (.sl (.var 7) .none (.some (.int 2))) (.nm 7) .nil [y0,y1,y2,y3,y4,y5,y6,.no,y8,y9,y10,y11,y12] (r.map trD,b) W = .ok (r.map rkD) W:=by
   intro y0 y1 y2 y3 y4 y5 y6 y8 y9 y10 y11 y12 b
   refine yZV trD rkD r (by unfold cap; omega) fun x _=>⟨_,rfl, ?_⟩
   rfl
  obtain ⟨hsc,-,-,hcc,-,-⟩:=h
  have lr:=zZCf S d
  simp only [scC] at hsc
  have hc0 : 0 ≤ cap:=by decide
  have e1 : ((c : Int) + 1) = ((c + 1 : Nat) : Int):=by omega
  have hB : lfB1 = .seq (.asgO 5 (.disp .nil)) (.seq (.asg (.nm 6) (.frz (.comp (.sl (.var 7) .none (.some (.int 2))) (.nm 7) (.seq (.idx (.dgc (.var 0) (.str "rows")) (.var 3))) .nil))) (.seq (.forS (.nm 4) (.seq (.var 2)) lfB2) (.seq (.freeze 5) (.seq (.asg (.nm 2) (.var 5)) .skip)))):=rfl
  rw [range_succ,zZD,e1,← hz]
  clear hz ih hfe hcd hcr hmul hmul2 hmul3 hpl hnx hrs hrl
  rw [hB]
  generalize exS (cfgN T n) lfB1 = XB at *
  generalize lfB2 = B2 at *
  simp only [trsD] at *
  clear hB
  generalize scL S d = SL at *
  generalize (l.map fun h=>hdD h.1) = HL at *
  generalize (pkN S.cs S.rows l c).map lT = PL at *
  generalize (pkN S.cs S.rows l (c + 1)).map lT = PL2 at *
  generalize r.map rkD = RK at *
  generalize r.map trD = RT at *
  generalize S.rows.map (fun l=>D.tup (l.map trD)) = RS at *
  generalize S.rows.map trsD = RS2 at *
  walk_at "ev4"
theorem zZMQ (n : Nat) (S : Sc) (d : Ad) (a0 : Nat) (W : Wd) (h : ScAt W a0 d S) (K : CsOK S.ks S.cs) (hn : ∀ c ∈ S.cn,CnOK S.ks S.cs c) (hl : S.cn.length ≤ 100) (hs fo : D) (z3 z5 z6 z7 z8 z9 z10 z11 z12 : Slot) : ∀ (L : List (List Pk)) (z4 : Slot),(∀ pk ∈ L,PkOK S.ks S.cs pk) → ∃ e',
  forL (tgD (.nm 4)) (exS (cfgN T (n + 4)) ((forsS zZJ).getD 1 .skip)) (L.map lT) [.val (.own a0),.val hs,.val fo,z3,z4,z5,z6,z7,z8,z9,z10,z11,z12] W =
   match L.find? fun pk=>ansB S.ks S.cs pk S.cn with
   | some pk=>.ok (.rt (lT pk)) W
   | none=>.ok (.nx e') W:=by
 simp only [zZJ,forsS,List.getD_cons_zero,List.getD_cons_succ]
 intro L
 induction L with
 | nil=>intro z4 _; exact ⟨_,rfl⟩
 | cons pk L ih =>
  intro z4 hL
  obtain ⟨e',hz⟩:=ih (.val (lT pk)) (fun x hx=>hL x (List.mem_cons_of_mem _ hx))
  have ha:=zZHr n S d a0 pk W h K hn hl (hL pk List.mem_cons_self)
  have hlt : (.lst (pk.map pkD) : D) = lT pk:=rfl
  rw [hlt] at ha
  refine ⟨e', ?_⟩
  rw [List.map_cons,zZD,List.find?_cons]
  cases hb : ansB S.ks S.cs pk S.cn with
  | true =>
   rw [hb] at ha
   dsimp only
   clear hz ih hL K hn hb h hlt
   generalize lT pk = PD at *
   walk_at "ev4"
  | false =>
   rw [hb] at ha
   simp only []
   rw [← hz]
   clear hz ih hL K hn hb h hlt
   generalize lT pk = PD at *
   walk_at "ev4"
theorem zZJj (n : Nat) (S : Sc) (d : Ad) (a0 : Nat) (W : Wd) (h : ScAt W a0 d S) (K : CsOK S.ks S.cs) (hn : ∀ c ∈ S.cn,CnOK S.ks S.cs c) (hnl : S.cn.length ≤ 100) (hrl : S.rows.length = S.cs.length) (hrs : ∀ r ∈ S.rows,r.length ≤ 50 ∧ ∀ t ∈ r,PySem.PyData.strOk t.nm = true) (l : List Hk) (hl : l.length ≤ 20) (hP : ∀ pk ∈ pkN S.cs S.rows l S.cs.length,PkOK S.ks S.cs pk) :
  (cfgN T (n + 5)).call zZDB [.own a0,.lst (l.map fun h=>hdD h.1)] W = .ok (opk lT ((pkN S.cs S.rows l S.cs.length).find? fun pk=>ansB S.ks S.cs pk S.cn)) W:=by
 have h3:=K.l3
 obtain ⟨z3,z4,z5,z6,z8,z9,z10,z11,z12,h1⟩:=zZOo (n + 4) S d a0 W h hrl hrs h3 l hl S.cs.length 0 .no .no .no .no .no .no .no .no .no (by omega)
 obtain ⟨e',h2⟩:=zZMQ n S d a0 W h K hn hnl (.lst (l.map fun h=>hdD h.1)) (.lst ((pkN S.cs S.rows l S.cs.length).map lT)) z3 z5 z6 .no z8 z9 z10 z11 z12 (pkN S.cs S.rows l S.cs.length) z4 hP
 have e0 : ((0 : Nat) : Int) = 0:=rfl
 have e1 : (pkN S.cs S.rows l 0).map lT = [.lst []]:=rfl
 rw [e0,e1] at h1
 have hc0 : 0 ≤ cap:=by decide
 have hc1 : 1 ≤ cap:=by decide
 have hg : -4611686018427387904 ≤ (S.cs.length : Int) ∧ (S.cs.length : Int) < 4611686018427387904:=by omega
 have hcl : (S.cs.map cdD).length = S.cs.length:=List.length_map _
 obtain ⟨hsc,hcc,-,-,-,-⟩:=h
 have lc:=zZ9 S d
 simp only [scC] at hsc
 rw [zZE (F:=xZb) rfl]
 have hB : zZJ = .seq (headS zZJ) (.seq (.forS (.nm 3) (.range1 (.b1 .len (.dgc (.var 0) (.str "cards")))) lfB1) (.seq (.forS (.nm 4) (.seq (.var 2)) ((forsS zZJ).getD 1 .skip)) (dropS 3 zZJ))):=rfl
 simp only [xZb]
 rw [hB]
 clear hP hrs hrl hn K hB
 generalize lfB1 = B1 at *
 generalize (forsS zZJ).getD 1 .skip = B2 at *
 simp only [headS,dropS,zZJ]
 generalize scL S d = SL at *
 cases hf : (pkN S.cs S.rows l S.cs.length).find? fun pk=>ansB S.ks S.cs pk S.cn with
 | none =>
  rw [hf] at h2
  simp only [opk] at *
  generalize (pkN S.cs S.rows l S.cs.length).map lT = PL at *
  generalize (l.map fun h=>hdD h.1) = HL at *
  generalize S.cs.length = L at *
  generalize S.cs.map cdD = CS at *
  subst hcl
  clear hf
  walk_at "ev4"
 | some pk =>
  rw [hf] at h2
  simp only [opk] at *
  generalize lT pk = PK at *
  generalize (pkN S.cs S.rows l S.cs.length).map lT = PL at *
  generalize (l.map fun h=>hdD h.1) = HL at *
  generalize S.cs.length = L at *
  generalize S.cs.map cdD = CS at *
  subst hcl
  clear hf
  walk_at "ev4"
def kfl (ks : List Kd) (k : Str) : List (Str × Int):=match kfind ks k with
 | none=>[]
 | some k=>k.2
theorem zZIF {ks : List Kd} {cs : List Cd} {i : Nat} {c : Cd} (h : cs[i]? = some c) : fl ks cs i = kfl ks c.k:=by
 unfold fl kfl
 rw [h] <;> (dsimp only; cases kfind ks c.k <;> rfl)
structure HdOK (ks : List Kd) (h : Hd) : Prop where
 vl : h.vs.length = (kfl ks h.k).length
 vb : ∀ (j : Nat) (f : Str × Int) (v : Int),(kfl ks h.k)[j]? = some f → h.vs[j]? = some v → 0 ≤ v ∧ v < f.2
theorem zZMC (n p0 : Nat) (W0 : Wd) (y1 y2 y3 y4 y5 y6 y7 y8 y9 y10 y11 y12 y13 y14 : Slot) : ∀ (fs : List (Str × Int)) (W : Wd),(∀ f ∈ fs,1 ≤ f.2 ∧ f.2 ≤ 1000) → PoolK W0 W p0 → ∃ (ns : List Int) (W' : Wd),ns.length = fs.length ∧ (∀ (j : Nat) (f : Str × Int) (x : Int),fs[j]? = some f → ns[j]? = some x → 0 ≤ x ∧ x < f.2) ∧ PoolK W0 W' p0 ∧
  compL (fun d=>tgD (.tup (.cons (.nm 15) (.cons (.nm 16) .nil))) d [.val (.own p0),y1,y2,y3,y4,y5,y6,y7,y8,y9,y10,y11,y12,y13,y14,.no,.no]) (evTs (cfgN T (n + 1)) .nil) (evE (cfgN T (n + 1)) (.call zZA (.cons (.var 0) (.cons (.var 16) .nil)))) (fs.map flD) W = .ok (ns.map .int) W':=by
 intro fs
 induction fs with
 | nil=>intro W _ hP; exact ⟨[],W,rfl,(fun j f x h=>by simp at h),hP,rfl⟩
 | cons f fs ih =>
  intro W hf hP
  obtain ⟨f1,f2⟩:=hf f List.mem_cons_self
  obtain ⟨v,W1,d1,a1,b1,P1⟩:=xZ7 n W0 W p0 f.2 hP (by omega) (by omega)
  obtain ⟨ns,W',h1,h2,h3,h4⟩:=ih W1 (fun g hg=>hf g (List.mem_cons_of_mem _ hg)) P1
  refine ⟨v :: ns,W',by simp [h1], ?_,h3, ?_⟩
  ·intro j g x hg hx
   cases j with
   | zero=>simp at hg hx; subst hg; subst hx; exact ⟨a1,b1⟩
   | succ j=>exact h2 j g x (by simpa using hg) (by simpa using hx)
  ·rw [List.map_cons,List.map_cons]
   refine yZZ (e1:=[.val (.own p0),y1,y2,y3,y4,y5,y6,y7,y8,y9,y10,y11,y12,y13,y14,.val (.str f.1),.val (.int f.2)]) rfl xZO ?_ h4
   clear ih h4 hP P1 hf
   walk_at "ev4"
def hlB : S:=(forsS zZN).getD 0 .skip
abbrev hlE (p0 a : Nat) (sd : Int) (acc : List D) (z4 z5 z6 z7 z8 z9 z10 z11 z12 z13 : Slot) : Env:=[.val (.own p0),.val (.own a),.val (.int sd),.ol acc,z4,z5,z6,z7,z8,z9,z10,z11,z12,z13,.no,.no,.no]
/-- the card's kind,by name -/
theorem zZKr (n : Nat) (S : Sc) (d : Ad) (a0 : Nat) (W : Wd) (h : ScAt W a0 d S) (K : CsOK S.ks S.cs) (c : Nat) (hc : c < S.cs.length) : ∃ r : List D,∀ (y0 y2 y3 y4 y6 y7 y8 y9 y10 y11 y12 y13 y14 y15 y16 : Slot),compR (cfgN T n) (.var 10) (.tup (.cons (.nm 14) (.cons (.nm 10) .nil))) (.cons (.cmp .eq (.var 14) (.idx (.idx (.dgc (.var 1) (.str "cards")) (.var 5)) (.int 1))) .nil) [y0,.val (.own a0),y2,y3,y4,.val (.int (c : Int)),y6,y7,y8,y9,y10,y11,y12,y13,y14,y15,y16] (S.ks.map kT,false) W =
   .ok (flsD (fl S.ks S.cs c) :: r) W:=by
 obtain ⟨hsc,hcc,-,-,-,-⟩:=h
 have lc:=zZ9 S d
 simp only [scC] at hsc
 generalize scL S d = SL at *
 obtain ⟨cd,k,e1,hk,e2,e3,e4,e5⟩:=K.kd hc
 have hkl:=K.kk.1
 have hca:=zZD6 K e1
 obtain ⟨rk,hfk⟩:=kfilter e4
 refine ⟨rk.map fun k=>flsD k.2,fun y0 y2 y3 y4 y6 y7 y8 y9 y10 y11 y12 y13 y14 y15 y16 => ?_⟩
 have:=zZm (g:=cfgN T n) (elt:=.var 10) (t:=.tup (.cons (.nm 14) (.cons (.nm 10) .nil))) (ifs:=.cons (.cmp .eq (.var 14) (.idx (.idx (.dgc (.var 1) (.str "cards")) (.var 5)) (.int 1))) .nil) (e:=[y0,.val (.own a0),y2,y3,y4,.val (.int (c : Int)),y6,y7,y8,y9,y10,y11,y12,y13,y14,y15,y16]) (b:=false) (W:=W) kT (fun k=>flsD k.2) (fun x=>decide (x.1 = k.1)) S.ks (by unfold cap; omega) fun x _=>⟨_,rfl, ?_,fun _=>rfl⟩
 ·rw [this,hfk,e5]
  rfl
 show evTs _ _ [y0,.val (.own a0),y2,y3,y4,.val (.int (c : Int)),y6,y7,y8,y9,.val (flsD x.2),y11,y12,y13,.val (.str x.1),y15,y16] W = _
 simp only [cdD] at *
 rw [e3] at hca
 generalize S.cs.map cdD = CS at *
 generalize S.cs.map (fun c=>D.tup [.str c.nm,.str c.k,.tup (c.ns.map .str)]) = CS2 at *
 have:=idx1
 clear e1 e4 hfk e2 e3 e5
 walk_at "ev4"
/-- a row and values,of the pick or drawn -/
theorem zZOZ (n p0 a0 : Nat) (d : Ad) (S : Sc) (W : Wd) (h : ScP p0 W a0 d S) (K : CsOK S.ks S.cs) (c : Nat) (cd : Cd) (hc : S.cs[c]? = some cd) (r : List Tr3) (hr : S.rows[c]? = some r) (hrl : 1 ≤ r.length ∧ r.length ≤ 50) (k : Pk) (hk : ∃ i : Nat,k.i = (i : Int) ∧ i < r.length) (hkv : k.vs.length = (kfl S.ks cd.k).length ∧ ∀ (j : Nat) (f : Str × Int) (v : Int),(kfl S.ks cd.k)[j]? = some f → k.vs[j]? = some v → 0 ≤ v ∧ v < f.2) (sd way : Int) (acc : List D) (z4 z10 z11 z12 z13 : Slot) : ∃ (i : Nat) (ns : List Int) (W' : Wd) (z10' : Slot),i < r.length ∧ ns.length = (kfl S.ks cd.k).length ∧ (∀ (j : Nat) (f : Str × Int) (v : Int),(kfl S.ks cd.k)[j]? = some f → ns[j]? = some v → 0 ≤ v ∧ v < f.2) ∧ PoolK W W' p0 ∧ ScP p0 W' a0 d S ∧
  exS (cfgN T (n + 1)) (headS (dropS 3 hlB)) (hlE p0 a0 sd acc z4 (.val (.int (c : Int))) (.val (.int way)) (.val (.int k.i)) (.val (.int k.r)) (.val (.tup (k.vs.map .int))) z10 z11 z12 z13) W =
   .ok (.nx (hlE p0 a0 sd acc z4 (.val (.int (c : Int))) (.val (.int way)) (.val (.int (i : Int))) (.val (.int k.r)) (.val (.tup (ns.map .int))) z10' z11 z12 z13)) W':=by
 by_cases hw : way < 3
 ·have hcl : c < S.cs.length:=(List.getElem?_eq_some_iff.mp hc).1
  obtain ⟨v,W1,e1,a1,b1,P1,h1⟩:=zZI n (r.length : Int) h (by omega) (by omega)
  obtain ⟨i,rfl⟩:=Int.eq_ofNat_of_zero_le a1
  obtain ⟨rf,hcomp⟩:=zZKr (n + 1) S d a0 W1 h1.at_ K c hcl
  have hfl:=zZIF (ks:=S.ks) hc
  have hle:=K.fl_le c
  obtain ⟨ns,W2,n1,n2,P2,e2⟩:=zZMC n p0 W1 (.val (.own a0)) (.val (.int sd)) (.ol acc) z4 (.val (.int (c : Int))) (.val (.int way)) (.val (.int (i : Int))) (.val (.int k.r)) (.val (.tup (k.vs.map .int))) (.val (flsD (fl S.ks S.cs c))) z11 z12 z13 .no (fl S.ks S.cs c) W1 (fun f hf=>by
   obtain ⟨j,hj⟩:=List.mem_iff_getElem?.mp hf
   have:=K.fl_get hj
   omega) ⟨P1.1,Kp.refl p0 W1⟩
  rw [hfl] at n1 n2
  refine ⟨i,ns,W2,.val (flsD (fl S.ks S.cs c)),by omega,n1,n2,⟨P2.1,P1.2.trans P2.2⟩,h1.kp P2, ?_⟩
  have hl2 : ((fl S.ks S.cs c).map flD).length ≤ cap:=by rw [List.length_map]; unfold cap; omega
  have hc2:=yZa (g:=cfgN T (n + 1)) (elt:=.call zZA (.cons (.var 0) (.cons (.var 16) .nil))) (t:=.tup (.cons (.nm 15) (.cons (.nm 16) .nil))) (ifs:=.nil) (e:=[.val (.own p0),.val (.own a0),.val (.int sd),.ol acc,z4,.val (.int (c : Int)),.val (.int way),.val (.int (i : Int)),.val (.int k.r),.val (.tup (k.vs.map .int)),.val (flsD (fl S.ks S.cs c)),z11,z12,z13,.no,.no,.no]) (b:=false) (W:=W1) hl2
  have hwp : wipeE [Slot.val (.own p0),.val (.own a0),.val (.int sd),.ol acc,z4,.val (.int (c : Int)),.val (.int way),.val (.int (i : Int)),.val (.int k.r),.val (.tup (k.vs.map .int)),.val (flsD (fl S.ks S.cs c)),z11,z12,z13,.no,.no,.no] (tgN (.tup (.cons (.nm 15) (.cons (.nm 16) .nil)))) = [Slot.val (.own p0),.val (.own a0),.val (.int sd),.ol acc,z4,.val (.int (c : Int)),.val (.int way),.val (.int (i : Int)),.val (.int k.r),.val (.tup (k.vs.map .int)),.val (flsD (fl S.ks S.cs c)),z11,z12,z13,.no,.no,.no]:=rfl
  rw [hwp,e2] at hc2
  have hra : atD (S.rows.map trsD) (.int (c : Int)) = some (trsD r):=zZG (by rw [List.getElem?_map,hr]; rfl)
  have hrlD : (r.map trD).length = r.length:=List.length_map _
  have lr:=zZCf S d
  have lk:=zZA6 S d
  have hsc:=h.at_.sc
  have hrr:=h.at_.r
  have hsc1:=h1.at_.sc
  have q0:=idx0
  simp only [scC] at hsc hsc1
  have hwd : cmpD .lt (.int way) (.int 3) = some (.bl true):=by
   have : cmpD .lt (.int way) (.int 3) = some (.bl (decide (way < 3))):=rfl
   rw [this,decide_eq_true hw]
  clear h h1 K P1 P2 e2 n1 n2 hl2 hwp hfl hle hcl hk hkv hc hr hw
  simp only [headS,dropS,hlB,zZN,forsS,List.getD_cons_zero,trsD,hlE,flsD] at *
  generalize scL S d = SL at *
  generalize (fl S.ks S.cs c).map flD = FL at *
  generalize S.ks.map kT = KT at *
  generalize k.vs.map D.int = VS at *
  generalize ns.map D.int = NS at *
  generalize S.rows.map (fun l=>D.tup (l.map trD)) = RS at *
  generalize S.rows.map trsD = RS2 at *
  rw [← hrlD] at e1
  generalize r.map trD = RT at *
  clear hrlD
  walk_at "ev4"
 ·obtain ⟨i,h1,h2⟩:=hk
  refine ⟨i,k.vs,W,z10,h2,hkv.1,hkv.2,⟨h.pool,Kp.refl p0 W⟩,h, ?_⟩
  have hwd : cmpD .lt (.int way) (.int 3) = some (.bl false):=by
   have : cmpD .lt (.int way) (.int 3) = some (.bl (decide (way < 3))):=rfl
   rw [this,decide_eq_false hw]
  clear h K hkv hc hr hw
  simp only [headS,dropS,hlB,zZN,forsS,List.getD_cons_zero,hlE,h1] at *
  walk_at "ev4"
theorem zZNM (n p0 a0 : Nat) (d : Ad) (S : Sc) (K : CsOK S.ks S.cs) (hrl : S.rows.length = S.cs.length) (hrs : ∀ r ∈ S.rows,1 ≤ r.length ∧ r.length ≤ 50 ∧ ∀ t ∈ r,PySem.PyData.strOk t.nm = true) (pk : List Pk) (px : Nat) (P : PkOK S.ks S.cs pk) (hpr : ∀ (c : Nat) (k : Pk) (r : List Tr3),pk[c]? = some k → S.rows[c]? = some r → ∃ i : Nat,k.i = (i : Int) ∧ i < r.length) (hpx : ∀ W,ScP p0 W a0 d S → W[px]? = some (.lst (pk.map pkD))) (sd : Int) (hsd : atD [.own d.p1,.own d.p2] (.int sd) = some (.own px)) : ∀ (m i : Nat) (acc : List Hk) (W : Wd) (z4 z5 z6 z7 z8 z9 z10 z11 z12 z13 : Slot),acc.length + m ≤ 20 → (∀ h ∈ acc,HdOK S.ks h.1) → ScP p0 W a0 d S → ∃ (l : List Hk) (W' : Wd) (z4' z5' z6' z7' z8' z9' z10' z11' z12' z13' : Slot),l.length = acc.length + m ∧ (∀ h ∈ l,HdOK S.ks h.1) ∧ PoolK W W' p0 ∧ ScP p0 W' a0 d S ∧
  forL (tgD (.nm 4)) (exS (cfgN T (n + 1)) hlB) (rangeD (i : Int) m) (hlE p0 a0 sd (acc.map fun h=>hdD h.1) z4 z5 z6 z7 z8 z9 z10 z11 z12 z13) W =
   .ok (.nx (hlE p0 a0 sd (l.map fun h=>hdD h.1) z4' z5' z6' z7' z8' z9' z10' z11' z12' z13')) W':=by
 have h3:=K.l3
 have h0:=K.l0
 intro m
 induction m with
 | zero=>intro i acc W z4 z5 z6 z7 z8 z9 z10 z11 z12 z13 _ ha h; exact ⟨acc,W,z4,z5,z6,z7,z8,z9,z10,z11,z12,z13,rfl,ha,⟨h.pool,Kp.refl p0 W⟩,h,rfl⟩
 | succ m ih =>
  intro i acc W z4 z5 z6 z7 z8 z9 z10 z11 z12 z13 hb ha h
  obtain ⟨cv,W1,e1,a1,b1,P1,h1⟩:=zZI n (S.cs.length : Int) h (by omega) (by omega)
  obtain ⟨c,rfl⟩:=Int.eq_ofNat_of_zero_le a1
  have hcl : c < S.cs.length:=by omega
  have hcd : S.cs[c]? = some (S.cs[c]'hcl):=List.getElem?_eq_getElem _
  generalize S.cs[c]'hcl = cd at *
  have hcr : S.rows[c]? = some (S.rows[c]'(by omega)):=List.getElem?_eq_getElem _
  obtain ⟨r0,r1,r2⟩:=hrs _ (List.getElem_mem (l:=S.rows) (n:=c) (by omega))
  generalize S.rows[c]'(by omega) = r at *
  have hck : pk[c]? = some (pk[c]'(by rw [P.l]; exact hcl)):=List.getElem?_eq_getElem _
  generalize pk[c]'(by rw [P.l]; exact hcl) = k at *
  obtain ⟨v1,-,-,v2⟩:=P.v c k hck
  have hkr:=hpr c k r hck hcr
  have hfk:=zZIF (ks:=S.ks) hcd
  have hkv : k.vs.length = (kfl S.ks cd.k).length ∧ ∀ (j : Nat) (f : Str × Int) (v : Int),(kfl S.ks cd.k)[j]? = some f → k.vs[j]? = some v → 0 ≤ v ∧ v < f.2:=by
   rw [← hfk]
   refine ⟨v1,fun j f v hf hv => ?_⟩
   have:=v2 j v hv
   unfold sz at this
   simp only [hf,Option.map_some,Option.getD_some] at this
   exact this
  obtain ⟨way,W2,e2,a2,b2,P2,h2⟩:=zZI n 6 h1 (by omega) (by omega)
  obtain ⟨x,ns,W3,y10,x1,x2,x3,P3,h3',e3⟩:=zZOZ n p0 a0 d S W2 h2 K c cd hcd r hcr ⟨r0,r1⟩ k hkr hkv sd way (acc.map fun h=>hdD h.1) (.val (.int (i : Int))) z10 z11 z12 z13
  have hrx : r[x]? = some (r[x]'x1):=List.getElem?_eq_getElem _
  have hts:=r2 _ (List.getElem_mem (l:=r) (n:=x) x1)
  generalize r[x]'x1 = t at *
  -- the new holding
  let ix : Int:=if way = 3 then t.ix + 9 else t.ix
  let hd : Hd:=⟨t.nm,ix,cd.k,k.r,ns⟩
  have hhd : HdOK S.ks hd:=⟨x2,x3⟩
  obtain ⟨l,W',w4,w5,w6,w7,w8,w9,w10,w11,w12,w13,u1,u2,u3,u4,hz⟩:=ih (i + 1) (acc ++ [⟨hd,hts⟩]) W3 (.val (.int (i : Int))) (.val (.int (c : Int))) (.val (.int way)) (.val (.int (x : Int))) (.val (.int k.r)) (.val (.tup (ns.map .int))) y10 (.val (.str t.nm)) (.val (.int ix)) (.val (.int t.el)) (by rw [List.length_append,List.length_singleton]; omega) (fun g hg=>by
   rcases List.mem_append.mp hg with hg | hg
   ·exact ha g hg
   ·rw [List.mem_singleton.mp hg]
    exact hhd) h3'
  refine ⟨l,W',w4,w5,w6,w7,w8,w9,w10,w11,w12,w13,by rw [u1,List.length_append,List.length_singleton]; omega,u2,⟨u3.1,P1.2.trans (P2.2.trans (P3.2.trans u3.2))⟩,u4, ?_⟩
  have hpc : atD (pk.map pkD) (.int (c : Int)) = some (pkD k):=zZG (by rw [List.getElem?_map,hck]; rfl)
  have hp1:=hpx W1 h1
  have hra : atD (S.rows.map trsD) (.int (c : Int)) = some (trsD r):=zZG (by rw [List.getElem?_map,hcr]; rfl)
  have hrt : atD (r.map trD) (.int (x : Int)) = some (trD t):=zZG (by rw [List.getElem?_map,hrx]; rfl)
  have hca : atD (S.cs.map cdD) (.int (c : Int)) = some (cdD cd):=zZG (by rw [List.getElem?_map,hcd]; rfl)
  have hcsl : (S.cs.map cdD).length = S.cs.length:=List.length_map _
  have lc:=zZ9 S d
  have lr:=zZCf S d
  have lp:=zZEb S d
  have hsc:=h.at_.sc
  have hcc:=h.at_.c
  have hsc1:=h1.at_.sc
  have hsc3:=h3'.at_.sc
  have hr3:=h3'.at_.r
  have hc3:=h3'.at_.c
  simp only [scC] at hsc hsc1 hsc3
  have q1:=idx1
  have hc5 : 5 ≤ cap:=by decide
  have hal : (acc.map fun h=>hdD h.1).length < cap:=by rw [List.length_map]; unfold cap; omega
  have ei : ((i : Int) + 1) = ((i + 1 : Nat) : Int):=by omega
  have hmap : ((acc ++ [(⟨hd,hts⟩ : Hk)]).map fun h=>hdD h.1) = (acc.map fun h=>hdD h.1) ++ [hdD hd]:=by rw [List.map_append]; rfl
  rw [hmap] at hz
  have hhdD : hdD hd = .tup [.str t.nm,.int ix,.str cd.k,.int k.r,.tup (ns.map .int)]:=rfl
  rw [hhdD] at hz
  have hwd : cmpD .eq (.int way) (.int 3) = some (.bl (decide (way = 3))):=rfl
  rw [range_succ,zZD,ei,← hz]
  have hB : hlB = .seq (.asg (.nm 5) (.call zZA (.cons (.var 0) (.cons (.b1 .len (.dgc (.var 1) (.str "cards"))) .nil)))) (.seq (.asg (.tup (.cons (.nm 7) (.cons (.nm 8) (.cons (.nm 9) .nil)))) (.idx (.idx (.dgc (.var 1) (.str "picks")) (.var 2)) (.var 5))) (.seq (.asg (.nm 6) (.call zZA (.cons (.var 0) (.cons (.int 6) .nil)))) (.seq (headS (dropS 3 hlB)) (.seq (.asg (.tup (.cons (.nm 11) (.cons (.nm 12) (.cons (.nm 13) .nil)))) (.idx (.idx (.dgc (.var 1) (.str "rows")) (.var 5)) (.var 7))) (.seq (.ite (.cmp .eq (.var 6) (.int 3)) (.seq (.asg (.nm 12) (.bin .add (.var 12) (.int 9))) .skip) .skip) (.seq (.append (.var 3) (.tup (.cons (.var 11) (.cons (.var 12) (.cons (.idx (.idx (.dgc (.var 1) (.str "cards")) (.var 5)) (.int 1)) (.cons (.var 8) (.cons (.var 9) .nil))))))) .skip)))))):=rfl
  rw [hB]
  clear hz ih hB hmap hhdD
  have hix : ix = if way = 3 then t.ix + 9 else t.ix:=rfl
  generalize ix = ix' at *
  clear u1 u2 u3 u4 hhd hd ix h h1 h2 h3' P1 P2 P3 ha hrs hpx hpr P K x2 x3 v2 hkv hkr hfk hts hck hcr hcd hrx hcl v1
  generalize hT3 : headS (dropS 3 hlB) = T3 at *
  generalize exS (cfgN T (n + 1)) hlB = XB at *
  clear hT3
  simp only [trsD,trD,pkD,cdD,hlE] at *
  generalize scL S d = SL at *
  generalize k.vs.map D.int = VS at *
  generalize ns.map D.int = NS at *
  generalize pk.map _ = PD at *
  generalize (acc.map fun h=>hdD h.1) = AC at *
  generalize S.rows.map _ = RS2 at *
  generalize r.map _ = RT at *
  rw [← hcsl] at e1
  generalize S.cs.map _ = CS at *
  clear hcsl
  by_cases hw : way = 3
  ·rw [if_pos hw] at hix
   rw [decide_eq_true hw] at hwd
   clear hw
   subst hix
   walk_at "ev4"
  ·rw [if_neg hw] at hix
   rw [decide_eq_false hw] at hwd
   clear hw
   subst hix
   walk_at "ev4"
theorem zZKC (n p0 a0 : Nat) (d : Ad) (S : Sc) (K : CsOK S.ks S.cs) (hrl : S.rows.length = S.cs.length) (hrs : ∀ r ∈ S.rows,1 ≤ r.length ∧ r.length ≤ 50 ∧ ∀ t ∈ r,PySem.PyData.strOk t.nm = true) (pk : List Pk) (px : Nat) (P : PkOK S.ks S.cs pk) (hpr : ∀ (c : Nat) (k : Pk) (r : List Tr3),pk[c]? = some k → S.rows[c]? = some r → ∃ i : Nat,k.i = (i : Int) ∧ i < r.length) (hpx : ∀ W,ScP p0 W a0 d S → W[px]? = some (.lst (pk.map pkD))) (sd : Int) (hsd : atD [.own d.p1,.own d.p2] (.int sd) = some (.own px)) (W : Wd) (h : ScP p0 W a0 d S) : ∃ (l : List Hk) (W' : Wd),l.length ≤ 7 ∧ (∀ h ∈ l,HdOK S.ks h.1) ∧ PoolK W W' p0 ∧ ScP p0 W' a0 d S ∧
  (cfgN T (n + 2)).call zZBN [.own p0,.own a0,.int sd] W = .ok (.lst (l.map fun h=>hdD h.1)) W':=by
 obtain ⟨v,W1,e1,a1,b1,P1,h1⟩:=zZI n 8 h (by omega) (by omega)
 obtain ⟨m,rfl⟩:=Int.eq_ofNat_of_zero_le a1
 obtain ⟨l,W',w4,w5,w6,w7,w8,w9,w10,w11,w12,w13,u1,u2,u3,u4,hz⟩:=zZNM n p0 a0 d S K hrl hrs pk px P hpr hpx sd hsd m 0 [] W1 .no .no .no .no .no .no .no .no .no .no (by simp only [List.length_nil]; omega) (by simp) h1
 rw [List.length_nil] at u1
 refine ⟨l,W',by omega,u2,⟨u3.1,P1.2.trans u3.2⟩,u4, ?_⟩
 have e0 : ((0 : Nat) : Int) = 0:=rfl
 rw [e0,List.map_nil] at hz
 have hc0 : 0 ≤ cap:=by decide
 have hg : -4611686018427387904 ≤ (m : Int) ∧ (m : Int) < 4611686018427387904:=by omega
 rw [zZE (F:=yZi) rfl]
 have hB : zZN = .seq (headS zZN) (.seq (.forS (.nm 4) (.range1 (.call zZA (.cons (.var 0) (.cons (.int 8) .nil)))) hlB) (dropS 2 zZN)):=rfl
 simp only [yZi]
 rw [hB]
 clear hB u2 u3 u4 h h1 P1 hrs hpx hpr P K u1
 generalize hlB = HB at *
 simp only [headS,dropS,zZN,hlE] at *
 generalize (l.map fun h=>hdD h.1) = HL at *
 walk_at "ev4"
theorem zZJq (n a : Nat) (xs : List D) (W : Wd) (ha : W[a]? = some (.lst xs)) (ih : ∀ x ∈ xs,(cfgN T (n + 1)).call zZb [x,x] W = .ok (.bl true) W) :
  ∀ (k i : Nat) (z : Slot),i + k = xs.length → ∃ z',forL (tgD (.nm 2)) (exS (cfgN T (n + 1)) (foS2 zZZ)) (rangeD (i : Int) k) [.val (.own a),.val (.lst xs),z] W = .ok (.nx [.val (.own a),.val (.lst xs),z']) W:=by
 intro k
 induction k with
 | zero=>intro i z h; exact ⟨z,rfl⟩
 | succ k ihk =>
  intro i z h
  obtain ⟨z',hz⟩:=ihk (i + 1) (.val (.int i)) (by omega)
  have hi : i < xs.length:=by omega
  have hx : xs[i]? = some xs[i]:=List.getElem?_eq_getElem hi
  have ha:=zZG hx
  have hs:=ih xs[i] (List.getElem_mem hi)
  generalize xs[i] = x at *
  clear ih ihk
  refine ⟨z', ?_⟩
  rw [range_succ,zZD]
  have e1 : ((i : Int) + 1) = ((i + 1 : Nat) : Int):=by omega
  rw [e1]
  simp only [zZZ,foS2,foS] at hz ⊢
  walk_at "ev4"
theorem zZJe (m a : Nat) (xs : List D) (W : Wd) (ha : W[a]? = some (.lst xs)) (hc : xs.length ≤ cap) (ih : ∀ x ∈ xs,(cfgN T (m + 1)).call zZb [x,x] W = .ok (.bl true) W) :
  (cfgN T (m + 1 + 1)).call zZb [.own a,.lst xs] W = .ok (.bl true) W:=by
 obtain ⟨z',hz⟩:=zZJq m a xs W ha ih xs.length 0 .no (by omega)
 have h1:=zZGw hc
 clear hc
 have e0 : ((0 : Nat) : Int) = 0:=rfl
 rw [e0] at hz
 clear ih
 rw [zZE (F:=yZE) rfl]
 simp only [zZZ,foS2,foS] at hz
 simp only [yZE,zZZ]
 walk_at "ev4"
abbrev l5E (ns : List Int) (a : Nat) (p q : Int) (bs : List Int) (sd : Int) (w hl z7 z8 z9 z10 z11 z12 z13 z14 : Slot) : Env:=[.val (.ext ns),.val (.own 0),.val (.own a),.val (gT p q bs),.val (.int sd),w,hl,z7,z8,z9,z10,z11,z12,z13,z14,.no]
theorem zZNr (n : Nat) (ns : List Int) (a : Nat) (d : Ad) (S : Sc) (p q : Int) (bs : List Int) (sd s : Int) (hw : Nat) (oh : Out 0 a d hw) (hl : Slot) (z7 z8 z9 : Slot) : ∀ (l acc : List Hk) (W : Wd) (z10 z11 z12 z13 z14 : Slot),acc.length + l.length ≤ 100 → ScP 0 W a d S → W[hw]? = some (.lst (acc.map fun h=>hdD h.1)) → ∃ (W' : Wd) (z10' z11' z12' z13' z14' : Slot),ScP 0 W' a d S ∧ W'[hw]? = some (.lst ((acc ++ l).map fun h=>hdD h.1)) ∧
  forL (tgD (.tup (.cons (.nm 10) (.cons (.nm 11) (.cons (.nm 12) (.cons (.nm 13) (.cons (.nm 14) .nil))))))) (exS (cfgN T (n + 1)) ((forsS zZl).getD 0 .skip)) (l.map fun h=>hdD h.1) (l5E ns a p q bs sd (.val (wI p q bs s hw)) hl z7 z8 z9 z10 z11 z12 z13 z14) W =
   .ok (.nx (l5E ns a p q bs sd (.val (wI p q bs s hw)) hl z7 z8 z9 z10' z11' z12' z13' z14')) W':=by
 simp only [zZl,forsS,List.getD_cons_zero]
 intro l
 induction l with
 | nil=>intro acc W z10 z11 z12 z13 z14 _ h hy; exact ⟨W,z10,z11,z12,z13,z14,h,by rw [List.append_nil]; exact hy,rfl⟩
 | cons h l ih =>
  intro acc W z10 z11 z12 z13 z14 hb hS hy
  rw [List.length_cons] at hb
  have hk:=zZKA n p q bs s hw h.1 _ W hy (by rw [List.length_map]; omega)
  have hmap : ((acc ++ [h]).map fun h=>hdD h.1) = (acc.map fun h=>hdD h.1) ++ [hdD h.1]:=by rw [List.map_append]; rfl
  rw [← hmap] at hk
  obtain ⟨W',y10,y11,y12,y13,y14,u1,u2,hz⟩:=ih (acc ++ [h]) (W.set hw (.lst ((acc ++ [h]).map fun h=>hdD h.1))) (.val (.str h.1.nm)) (.val (.int h.1.ix)) (.val (.str h.1.k)) (.val (.int h.1.r)) (.val (.tup (h.1.vs.map .int))) (by rw [List.length_append,List.length_singleton]; omega) (hS.setO oh _) (gself hy)
  rw [List.append_assoc,List.singleton_append] at u2
  refine ⟨W',y10,y11,y12,y13,y14,u1,u2, ?_⟩
  rw [List.map_cons,zZD,← hz]
  clear hz ih hS hy u1 u2 hmap hb
  simp only [hdD,wI,l5E,gT,gI] at *
  generalize h.1.vs.map D.int = VS at *
  generalize W.set hw _ = W2 at *
  generalize bs.map D.int = BS at *
  walk_at "ev4"
theorem zZMD {ks : List Kd} (K : KsOK 16 ks) {h : Hd} (H : HdOK ks h) : plainD 2 (hdD h) = true:=by
 have hk : (kfl ks h.k).length ≤ 4:=by
  unfold kfl
  split
  ·exact Nat.zero_le _
  ·rename_i k hf
   obtain ⟨j,_,ok⟩:=K.get (List.mem_of_find?_eq_some hf)
   exact ok.le
 have:=H.vl
 have hi : ∀ xs : List Int,(xs.map D.int).all (plainD 0) = true:=fun xs=>by
  rw [List.all_eq_true]
  intro x hx
  obtain ⟨i,_,rfl⟩:=List.mem_map.mp hx
  rfl
 have hv : plainD 1 (.tup (h.vs.map .int)) = true:=by
  show (decide ((h.vs.map D.int).length ≤ cap) && (h.vs.map D.int).all (plainD 0)) = true
  rw [hi,decide_eq_true (by rw [List.length_map]; unfold cap; omega)]
  rfl
 show (decide (5 ≤ cap) && (true && (true && (true && (true && (plainD 1 (.tup (h.vs.map .int)) && true)))))) = true
 rw [hv]
 decide
theorem zZKN {ks : List Kd} {cs : List Cd} {pk : List Pk} (K : CsOK ks cs) (P : PkOK ks cs pk) : plainD 3 (lT pk) = true:=by
 have hi : ∀ xs : List Int,(xs.map D.int).all (plainD 0) = true:=fun xs=>by
  rw [List.all_eq_true]
  intro x hx
  obtain ⟨i,_,rfl⟩:=List.mem_map.mp hx
  rfl
 have hl:=P.l
 have h3:=K.l3
 show (decide ((pk.map pkD).length ≤ cap) && (pk.map pkD).all (plainD 2)) = true
 rw [decide_eq_true (by rw [List.length_map]; unfold cap; omega),Bool.true_and,List.all_eq_true]
 intro x hx
 obtain ⟨k,hk,rfl⟩:=List.mem_map.mp hx
 obtain ⟨i,hki⟩:=List.mem_iff_getElem?.mp hk
 have hv:=(P.v i k hki).1
 have hf:=K.fl_le i
 have hv1 : plainD 1 (.tup (k.vs.map .int)) = true:=by
  show (decide ((k.vs.map D.int).length ≤ cap) && (k.vs.map D.int).all (plainD 0)) = true
  rw [hi,decide_eq_true (by rw [List.length_map]; unfold cap; omega)]
  rfl
 show (decide (3 ≤ cap) && (true && (true && (plainD 1 (.tup (k.vs.map .int)) && true)))) = true
 rw [hv1]
 decide
/-- every full choice of holdings has values as the kinds let -/
theorem zZOU {ks : List Kd} {cs : List Cd} {rows : List (List Tr3)} {l : List Hk} (hl : ∀ h ∈ l,HdOK ks h.1) (hr : ∀ r ∈ rows,r.length ≤ 4) : ∀ pk ∈ pkN cs rows l cs.length,PkOK ks cs pk:=by
 intro pk hpk
 obtain ⟨h1,h2⟩:=zZED hpk
 refine ⟨h1,fun i k hk => ?_⟩
 have hm:=h2 i k hk
 unfold fitL at hm
 cases hc : cs[i]? with
 | none=>rw [hc] at hm; cases hm
 | some c =>
  cases hrr : rows[i]? with
  | none=>rw [hc,hrr] at hm; cases hm
  | some r =>
   rw [hc,hrr] at hm
   obtain ⟨h,hh,hf⟩:=List.mem_filterMap.mp hm
   unfold fitO at hf
   by_cases e : h.1.k = c.k
   ·rw [if_pos e] at hf
    cases hx : (r.map keT).findIdx? fun x=>decide (x = hkK h) with
    | none=>rw [hx] at hf; cases hf
    | some j =>
     rw [hx] at hf
     simp only [Option.map_some,Option.some.injEq] at hf
     subst hf
     have hj : j < (r.map keT).length:=(List.findIdx?_eq_some_iff_getElem.mp hx).1
     rw [List.length_map] at hj
     have hr4:=hr r (List.mem_of_getElem? hrr)
     obtain ⟨v1,v2⟩:=hl h hh
     rw [e,← zZIF hc] at v1 v2
     refine ⟨v1,by simp only []; omega,by simp only []; omega,fun j' v hv => ?_⟩
     have hjl : j' < (fl ks cs i).length:=by
      have:=(List.getElem?_eq_some_iff.mp hv).1
      simp only [] at this v1
      omega
     have hf : (fl ks cs i)[j']? = some (fl ks cs i)[j']:=List.getElem?_eq_getElem hjl
     have:=v2 j' _ v hf hv
     unfold sz
     simp only [hf,Option.map_some,Option.getD_some]
     exact this
   ·rw [if_neg e] at hf
    cases hf
theorem xZC {g : Cfg} {a b : DL.S} {e e1 : Env} {W W1 : Wd} {X : R D} (h : exS g a e W = .ok (.nx e1) W1) (k : bnd (exS g b e1 W1) endR .mk = X) : bnd (exS g (.seq a b) e W) endR .mk = X:=by
 rw [zZD5,h]
 exact k
theorem end50 (ns : List Int) (a : Nat) (d : Ad) (S : Sc) (W : Wd) (h : ScP 0 W a d S) (M : ScW S) (hnl : S.cn.length ≤ 100) (hrs : ∀ r ∈ S.rows,1 ≤ r.length ∧ r.length ≤ 4 ∧ ∀ t ∈ r,PySem.PyData.strOk t.nm = true) (sd s : Int) (hw : Nat) (l : List Hk) (hl : l.length ≤ 7) (hok : ∀ h ∈ l,HdOK S.ks h.1) (hy : W[hw]? = some (.lst (l.map fun h=>hdD h.1))) (z10 z11 z12 z13 z14 : Slot) :
  bnd (exS (cfgN T 39) (dropS 7 zZl) (l5E ns a S.p S.q S.bs sd (.val (wI S.p S.q S.bs s hw)) (.val (.lst (l.map fun h=>hdD h.1))) .no .no .no z10 z11 z12 z13 z14) W) endR .mk = .ok (.bl true) W:=by
 have MV:=M.v
 have hrl:=MV.rw_.l
 have hn:=fun c hc=>(M.cn c hc).1
 have hP:=zZOU hok (cs:=S.cs) (rows:=S.rows) fun r hr=>(hrs r hr).2.1
 have hrs2 : ∀ r ∈ S.rows,r.length ≤ 50 ∧ ∀ t ∈ r,PySem.PyData.strOk t.nm = true:=fun r hr=>⟨by have:=(hrs r hr).2.1; omega,(hrs r hr).2.2⟩
 have hq:=zZHH 36 0 a d S W h MV
 have hpk:=zZK8 32 S.p S.q S.bs S.ks S.cs S.cn S.rows W M.k.cs hn hrl hrs2 S.p S.q S.bs s hw l (by omega) hy hP
 have hlf:=zZJj 34 S d a W h.at_ M.k.cs hn hnl hrl hrs2 l (by omega) hP
 have hll : (l.map fun h=>hdD h.1).length ≤ cap:=by rw [List.length_map]; unfold cap; omega
 have hsm:=zZJe 37 hw (l.map fun h=>hdD h.1) W hy hll fun x hx=>by
  obtain ⟨g,hg,rfl⟩:=List.mem_map.mp hx
  exact zZG3 W 2 37 _ (zZMD M.k.cs.kk (hok g hg)) (by omega)
 cases hf : (pkN S.cs S.rows l S.cs.length).find? fun pk=>ansB S.ks S.cs pk S.cn with
 | none =>
  rw [hf] at hpk hlf
  clear hP hrs hrs2 hn hok MV M hf h hy hnl hl hll
  simp only [opk,wI,l5E] at *
  generalize qD S.p S.q S.bs S.ks S.cs S.cn S.rows = Q at *
  generalize (l.map fun h=>hdD h.1) = HL at *
  simp only [dropS,zZl]
  walk_at "ev4"
 | some pk =>
  have hpp:=hP pk (List.mem_of_find?_eq_some hf)
  have hpl:=zZKN M.k.cs hpp
  have hs2:=zZG3 W 3 38 _ hpl (by omega)
  have h3:=M.k.cs.l3
  have hpl2:=hpp.l
  have hcomp : ∀ (y0 y1 y2 y3 y4 y5 y6 y7 y8 y9 y10 y11 y12 y13 y14 : Slot) (b : Bool),compR (cfgN T 39) (.tup (.cons (.fld 47 (.var 15)) (.cons (.fld 48 (.var 15)) (.cons (.fld 49 (.var 15)) .nil)))) (.nm 15) .nil [y0,y1,y2,y3,y4,y5,y6,y7,y8,y9,y10,y11,y12,y13,y14,.no] (pk.map pkI,b) W = .ok (pk.map pkD) W:=by
   intro y0 y1 y2 y3 y4 y5 y6 y7 y8 y9 y10 y11 y12 y13 y14 b
   refine yZV pkI pkD pk (by unfold cap; omega) fun x _=>⟨_,rfl, ?_⟩
   show evE _ _ [y0,y1,y2,y3,y4,y5,y6,y7,y8,y9,y10,y11,y12,y13,y14,.val (pkI x)] W = _
   have hc3 : 3 ≤ cap:=by decide
   clear hP hrs hrs2 hn hok MV M hf h hy hnl hl hll hq hpk hlf hsm hs2
   simp only [pkI,pkD]
   generalize x.vs.map D.int = VS at *
   walk_at "ev4"
  rw [hf] at hpk hlf
  clear hP hrs hrs2 hn hok MV M hf h hy hnl hl hll hpl hpp
  simp only [opk,wI,l5E,lI,lT] at *
  generalize qD S.p S.q S.bs S.ks S.cs S.cn S.rows = Q at *
  generalize (l.map fun h=>hdD h.1) = HL at *
  generalize pk.map pkI = PI at *
  generalize pk.map pkD = PD at *
  simp only [dropS,zZl]
  walk_at "ev4"
theorem plain (ns : List Int) (hn : ns.length ≤ 63) : ∃ W,(cfgN T 40).call zZJg [.ext ns] [] = .ok (.bl true) W:=by
 rw [zZE (n:=39) (F:=zZJx) rfl,zZBa rfl]
 have hp:=zZLa 38 ns []
 have P0 : Pool ([] ++ [poolC ns 0 0 1 0 (.int 0)]) 0:=⟨ns,0,0,1,0,.int 0,rfl,by omega⟩
 rw [show ([] : Wd).length = 0 from rfl] at hp
 generalize ([] ++ [poolC ns 0 0 1 0 (.int 0)] : Wd) = W0 at *
 obtain ⟨S,d,a,W2,hS,M,hl,hsc⟩:=zZJr 31 0 W0 P0 2 3 (by omega) (by omega)
 obtain ⟨sd,W3,d3,a3,b3,P3,h3⟩:=zZI 38 2 hS (by omega) (by omega)
 have hs : sd = 0 ∨ sd = 1:=by omega
 have hrs : ∀ r ∈ S.rows,1 ≤ r.length ∧ r.length ≤ 4 ∧ ∀ t ∈ r,PySem.PyData.strOk t.nm = true:=fun r hr=>by
  obtain ⟨i,hi⟩:=List.mem_iff_getElem?.mp hr
  obtain ⟨r1,r2,⟨c,hc,hsp⟩,-⟩:=M.rw_.r i r hi
  refine ⟨by omega,r2,fun t ht => ?_⟩
  obtain ⟨j,hj⟩:=List.mem_iff_getElem?.mp ht
  exact (M.k.cs.c i c hc).2.2.2 _ (hsp.t j t hj).2.2.2.2
 have hprA : ∀ (c : Nat) (r : List Tr3),S.rows[c]? = some r → ∀ k,(S.pk1[c]? = some k ∨ S.pk2[c]? = some k) → ∃ i : Nat,k.i = (i : Int) ∧ i < r.length:=fun c r hr k hk=>by
  obtain ⟨-,-,-,k1,k2,e1,e2,s1,s2,-⟩:=M.rw_.r c r hr
  rcases hk with hk | hk
  ·rw [e1] at hk
   simp only [Option.some.injEq] at hk
   subst hk
   obtain ⟨i,t,q1,q2,-⟩:=s1.t
   exact ⟨i,q1,(List.getElem?_eq_some_iff.mp q2).1⟩
  ·rw [e2] at hk
   simp only [Option.some.injEq] at hk
   subst hk
   obtain ⟨i,t,q1,q2,-⟩:=s2.t
   exact ⟨i,q1,(List.getElem?_eq_some_iff.mp q2).1⟩
 obtain ⟨pk,px,P,hpx,hpr,hsd⟩ : ∃ (pk : List Pk) (px : Nat),PkOK S.ks S.cs pk ∧ (∀ W,ScP 0 W a d S → W[px]? = some (.lst (pk.map pkD))) ∧ (∀ (c : Nat) (k : Pk) (r : List Tr3),pk[c]? = some k → S.rows[c]? = some r → ∃ i : Nat,k.i = (i : Int) ∧ i < r.length) ∧ atD [.own d.p1,.own d.p2] (.int sd) = some (.own px):=by
  rcases hs with rfl | rfl
  ·exact ⟨S.pk1,d.p1,M.k.p1,fun W h=>h.at_.p1,fun c k r hk hr=>hprA c r hr k (.inl hk),rfl⟩
  ·exact ⟨S.pk2,d.p2,M.k.p2,fun W h=>h.at_.p2,fun c k r hk hr=>hprA c r hr k (.inr hk),rfl⟩
 obtain ⟨s,hss⟩ : ∃ s : Int,atD [.int S.s1,.int S.s2] (.int sd) = some (.int s):=by
  rcases hs with rfl | rfl
  ·exact ⟨S.s1,rfl⟩
  ·exact ⟨S.s2,rfl⟩
 have hgi:=zZG8 37 S.p S.q S.bs W3 M.g (by have:=M.bl; omega) (by have:=M.bl; omega)
 have hwi:=zZJ1 38 S.p S.q S.bs s W3
 have h4:=h3.push [.lst []]
 have hoh:=h3.out (x:=W3.length) (Nat.le_refl _)
 have hg4 : (W3 ++ [Cell.lst []])[W3.length]? = some (.lst []):=by simp
 generalize hW4 : W3 ++ [Cell.lst []] = W4 at *
 generalize hhw : W3.length = hw at *
 obtain ⟨l,W5,l7,lok,P5,h5,hho⟩:=zZKC 37 0 a d S M.k.cs M.rw_.l (fun r hr=>⟨(hrs r hr).1,by have:=(hrs r hr).2.1; omega,(hrs r hr).2.2⟩) pk px P hpr hpx sd hsd W4 h4
 have hy5:=P5.2.get hoh.o.1 hg4
 obtain ⟨W6,x10,x11,x12,x13,x14,h6,hy6,hkl⟩:=zZNr 38 ns a d S S.p S.q S.bs sd s hw hoh (.val (.lst (l.map fun h=>hdD h.1))) .no .no .no l [] W5 .no .no .no .no .no (by simp only [List.length_nil]; omega) h5 hy5
 rw [List.nil_append] at hy6
 have he:=end50 ns a d S W6 h6 M (by omega) hrs sd s hw l l7 lok hy6 x10 x11 x12 x13 x14
 have lg:=zZEl S d
 have ls:=zZGL S d
 have hs2:=hS.at_.sc
 have hs3:=h3.at_.sc
 simp only [scC] at hs2 hs3
 have q0:=idx0
 have q1:=idx1
 have q2:=idx2
 refine ⟨W6, ?_⟩
 clear P0 hS M P3 h3 P hpx hpr hprA hrs h4 hoh hg4 P5 h5 hy5 h6 hy6 lok hs hW4 hhw hsd
 show bnd (exS (cfgN T 39) (.seq (headS (dropS 0 zZl)) (.seq (headS (dropS 1 zZl)) (.seq (headS (dropS 2 zZl)) (.seq (headS (dropS 3 zZl)) (.seq (headS (dropS 4 zZl)) (.seq (headS (dropS 5 zZl)) (.seq (headS (dropS 6 zZl)) (dropS 7 zZl)))))))) [.val (.ext ns),.no,.no,.no,.no,.no,.no,.no,.no,.no,.no,.no,.no,.no,.no,.no] []) endR .mk = _
 refine xZC (e1:=[.val (.ext ns),.val (.own 0),.no,.no,.no,.no,.no,.no,.no,.no,.no,.no,.no,.no,.no,.no]) (W1:=W0) ?_ ?_
 ·clear hsc d3 hgi hwi hho hkl he hs2 hs3
  simp only [headS,dropS,zZl]
  walk_at "ev4"
 refine xZC (e1:=[.val (.ext ns),.val (.own 0),.val (.own a),.no,.no,.no,.no,.no,.no,.no,.no,.no,.no,.no,.no,.no]) (W1:=W2) ?_ ?_
 ·clear d3 hgi hwi hho hkl he hs2 hs3
  simp only [headS,dropS,zZl]
  walk_at "ev4"
 refine xZC (e1:=[.val (.ext ns),.val (.own 0),.val (.own a),.val (gT S.p S.q S.bs),.no,.no,.no,.no,.no,.no,.no,.no,.no,.no,.no,.no]) (W1:=W2) ?_ ?_
 ·clear d3 hgi hwi hho hkl he hs3 hsc
  simp only [headS,dropS,zZl]
  generalize scL S d = SL at *
  walk_at "ev4"
 refine xZC (e1:=[.val (.ext ns),.val (.own 0),.val (.own a),.val (gT S.p S.q S.bs),.val (.int sd),.no,.no,.no,.no,.no,.no,.no,.no,.no,.no,.no]) (W1:=W3) ?_ ?_
 ·clear hgi hwi hho hkl he hs2 hs3 hsc
  simp only [headS,dropS,zZl]
  generalize gT S.p S.q S.bs = GT at *
  walk_at "ev4"
 refine xZC (e1:=l5E ns a S.p S.q S.bs sd (.val (wI S.p S.q S.bs s hw)) .no .no .no .no .no .no .no .no .no) (W1:=W4) ?_ ?_
 ·clear hho hkl he hs2 hsc d3
  simp only [headS,dropS,zZl,l5E,gT,gI,wI] at *
  generalize scL S d = SL at *
  generalize S.bs.map D.int = BS at *
  walk_at "ev4"
 refine xZC (e1:=l5E ns a S.p S.q S.bs sd (.val (wI S.p S.q S.bs s hw)) (.val (.lst (l.map fun h=>hdD h.1))) .no .no .no .no .no .no .no .no) (W1:=W5) ?_ ?_
 ·clear hkl he hs2 hs3 hsc d3 hgi hwi
  simp only [headS,dropS,zZl,l5E] at *
  generalize wI S.p S.q S.bs s hw = WI at *
  generalize gT S.p S.q S.bs = GT at *
  generalize (l.map fun h=>hdD h.1) = HL at *
  walk_at "ev4"
 refine xZC (e1:=l5E ns a S.p S.q S.bs sd (.val (wI S.p S.q S.bs s hw)) (.val (.lst (l.map fun h=>hdD h.1))) .no .no .no x10 x11 x12 x13 x14) (W1:=W6) ?_ ?_
 ·clear hho he hs2 hs3 hsc d3 hgi hwi
  have hB : headS (dropS 6 zZl) = .forS (.tup (.cons (.nm 10) (.cons (.nm 11) (.cons (.nm 12) (.cons (.nm 13) (.cons (.nm 14) .nil)))))) (.seq (.var 6)) ((forsS zZl).getD 0 .skip):=rfl
  rw [hB]
  clear hB
  generalize (forsS zZl).getD 0 .skip = B at *
  simp only [l5E] at *
  generalize wI S.p S.q S.bs s hw = WI at *
  generalize gT S.p S.q S.bs = GT at *
  generalize (l.map fun h=>hdD h.1) = HL at *
  walk_at "ev4"
 exact he
end PL
set_option maxRecDepth 100000
set_option maxHeartbeats 4000000
namespace Gen
open PySem PySem.W PySem.Calls PyProof.Rows
abbrev vS (s : String) (t : Nat) : Value:=.str (Str.ofString s) t
abbrev vI (i : Int) : Value:=.int i 0
abbrev de (P : Params) (s : String) (t : Nat) (v : Value) : DictEntry:=⟨PyData.keyHash P (Str.ofString s),.str (Str.ofString s) t,v⟩
abbrev oC (x : Array Value) : Obj:=.mk (.type "code") none (.fields x) #[]
abbrev oD (x : Array DictEntry) (n : Nat) : Obj:=.mk (.type "dict") none (.dict x n) #[]
abbrev oF (n q : String) (s : PySem.Stmt) (clo : List (Str × Addr)) (dv kv doc pm : Value) (an : Option Addr) (cd ct : Value) : Obj :=
 .mk (.type "function") none (.func (FuncData.mk (Str.ofString n) (Str.ofString q) (L2.defArgs s) (.stmts (L2.defBody s)) (L2.defScope s) 3 clo dv kv doc pm an cd ct 0)) #[]
noncomputable def KK (P : Params) : Frag :=
 (nat_lit 2,Obj.mk .none none (Data.dict #[]) #[]) ::
 (nat_lit 3,oD #[de P "__name__" 165 (vS "law_vouchdoor_k50_picks_of_a_wallet" 672),de P "__doc__" 166 .none,de P "__package__" 167 .none,de P "__loader__" 168 (.builtin "__main__.__loader__#opaque"),de P "__spec__" 169 .none,de P "__annotations__" 170 (.ref 6),de P "__builtins__" 171 (.ref 4),de P "__file__" 173 (vS "/claim/cut.py" 172),de P "__cached__" 174 .none,de P "_wall" 193 (.ref 21),de P "is_prime" 203 (.ref 28),de P "power" 213 (.ref 35),de P "VouchError" 233 (.ref 45),de P "BadGroup" 260 (.ref 67),de P "GREATEST" 264 (Value.int 1000000 263),de P "MOST_BASES" 266 (Value.int 12 265),de P "Group" 343 (.ref 121),de P "Kind" 385 (.ref 149),de P "kind_named" 394 (.ref 160),de P "Question" 470 (.ref 215),de P "candidates" 478 (.ref 226),de P "Pick" 522 (.ref 250),de P "answers" 536 (.ref 261),de P "Wallet" 623 (.ref 316),de P "Policy" 671 (.ref 349),de P "_law_pool" 681 (.ref 360),de P "_law_draw" 691 (.ref 367),de P "_law_same" 700 (.ref 374),de P "_law_power" 711 (.ref 381),de P "_law_raised" 720 (.ref 388),de P "_law_product" 731 (.ref 395),de P "_law_commit" 737 (.ref 400),de P "_law_group" 743 (.ref 405),de P "_law_numbers" 749 (.ref 410),de P "_law_kinds" 755 (.ref 415),de P "_law_scene" 775 (.ref 422),de P "_law_rows" 781 (.ref 427),de P "_law_fields" 787 (.ref 432),de P "_law_condition" 793 (.ref 437),de P "_law_question" 799 (.ref 442),de P "_law_place" 805 (.ref 447),de P "_law_sizes" 811 (.ref 452),de P "_law_allowed" 819 (.ref 459),de P "_law_answers" 833 (.ref 466),de P "_law_holdings" 839 (.ref 471),de P "_law_first" 845 (.ref 476),de P "law" 851 (.ref 481)] 47) ::
 (nat_lit 20,oC #[vS "_wall" 187,vS "_wall" 188,vS "/claim/cut.py" 189,vI 1,vI 1,vI 0,vI 0,vI 3,.ref 15,.bool true,vI 181,.ref 16,.none,.ref 17,.ref 18,.ref 19,vI 191,vI 1,vS "/claim/cut.py" 192]) ::
 (nat_lit 21,oF "_wall" "_wall" (top 0) [] .none .none .none (vS "__main__" 164) none (.ref 20) .none) ::
 (nat_lit 27,oC #[vS "is_prime" 196,vS "is_prime" 197,vS "/claim/cut.py" 198,vI 5,vI 1,vI 0,vI 0,vI 3,.ref 22,.bool true,vI 181,.ref 23,.none,.ref 24,.ref 25,.ref 26,vI 201,vI 5,vS "/claim/cut.py" 202]) ::
 (nat_lit 28,oF "is_prime" "is_prime" (top 2) [] .none .none .none (vS "vouchdoor.numbers" 194) none (.ref 27) .none) ::
 (nat_lit 34,oC #[vS "power" 204,vS "power" 205,vS "/claim/cut.py" 206,vI 14,vI 3,vI 0,vI 0,vI 3,.ref 29,.bool true,vI 181,.ref 30,.none,.ref 31,.ref 32,.ref 33,vI 211,vI 14,vS "/claim/cut.py" 212]) ::
 (nat_lit 35,oF "power" "power" (top 3) [] .none .none .none (vS "vouchdoor.numbers" 194) none (.ref 34) .none) ::
 (nat_lit 44,oD #[de P "__module__" 223 (vS "vouchdoor.errors" 214),de P "__firstlineno__" 227 (Value.int 24 226),de P "__static_attributes__" 228 (.ref 43),de P "__weakref__" 230 (.ref 46),de P "__doc__" 231 .none] 3) ::
 (nat_lit 45,Obj.mk (.type "type") none (Data.cls (ClassData.mk (Str.ofString "VouchError") [.type "ValueError"] [.ref 45,.type "ValueError",.type "Exception",.type "BaseException",.type "object"] 44 (Str.ofString "VouchError") true [] [.ref 67] false none false)) #[some (.ref 36),none,some (vS "VouchError" 216),some (vS "VouchError" 224),some (.builtin "ValueError.__new__"),some (.bool true)]) ::
 (nat_lit 46,Obj.mk (.type "getset_descriptor") none (Data.fields #[vS "__weakref__" 229,.ref 45,.builtin "ExceptionGroup.__weakref__",.none]) #[]) ::
 (nat_lit 52,Obj.mk (.type "cell") none (Data.cell (some (.ref 67))) #[]) ::
 (nat_lit 63,oC #[vS "__init__" 246,vS "BadGroup.__init__" 247,vS "/claim/cut.py" 248,vI 28,vI 2,vI 0,vI 0,vI 3,.ref 58,.bool true,vI 181,.ref 59,.none,.ref 60,.ref 61,.ref 62,vI 252,vI 28,vS "/claim/cut.py" 253]) ::
 (nat_lit 64,oF "__init__" "BadGroup.__init__" (L2.inClass (top 6) 0) [(Str.ofString "__class__",52)] .none .none .none (vS "vouchdoor.errors" 214) none (.ref 63) (.ref 57)) ::
 (nat_lit 66,oD #[de P "__module__" 241 (vS "vouchdoor.errors" 214),de P "__firstlineno__" 245 (Value.int 26 244),de P "__init__" 254 (.ref 64),de P "__static_attributes__" 256 (.ref 65),de P "__doc__" 258 .none] 3) ::
 (nat_lit 67,Obj.mk (.type "type") none (Data.cls (ClassData.mk (Str.ofString "BadGroup") [.ref 45] [.ref 67,.ref 45,.type "ValueError",.type "Exception",.type "BaseException",.type "object"] 66 (Str.ofString "BadGroup") true [] [] false none false)) #[some (.ref 49),none,some (vS "BadGroup" 234),some (vS "BadGroup" 242),some (.builtin "ValueError.__new__"),some (.bool true)]) ::
 (nat_lit 82,oC #[vS "__init__" 279,vS "Group.__init__" 280,vS "/claim/cut.py" 281,vI 36,vI 4,vI 0,vI 0,vI 3,.ref 77,.bool true,vI 181,.ref 78,.none,.ref 79,.ref 80,.ref 81,vI 288,vI 36,vS "/claim/cut.py" 289]) ::
 (nat_lit 83,oF "__init__" "Group.__init__" (L2.inClass (top 10) 0) [] .none .none .none (vS "vouchdoor.group" 261) none (.ref 82) .none) ::
 (nat_lit 89,oC #[vS "__eq__" 291,vS "Group.__eq__" 292,vS "/claim/cut.py" 293,vI 50,vI 2,vI 0,vI 0,vI 3,.ref 84,.bool true,vI 181,.ref 85,.none,.ref 86,.ref 87,.ref 88,vI 296,vI 50,vS "/claim/cut.py" 297]) ::
 (nat_lit 90,oF "__eq__" "Group.__eq__" (L2.inClass (top 10) 1) [] .none .none .none (vS "vouchdoor.group" 261) none (.ref 89) .none) ::
 (nat_lit 96,oC #[vS "is_element" 299,vS "Group.is_element" 300,vS "/claim/cut.py" 301,vI 53,vI 2,vI 0,vI 0,vI 3,.ref 91,.bool true,vI 181,.ref 92,.none,.ref 93,.ref 94,.ref 95,vI 304,vI 53,vS "/claim/cut.py" 305]) ::
 (nat_lit 97,oF "is_element" "Group.is_element" (L2.inClass (top 10) 2) [] .none .none .none (vS "vouchdoor.group" 261) none (.ref 96) .none) ::
 (nat_lit 103,oC #[vS "raised" 307,vS "Group.raised" 308,vS "/claim/cut.py" 309,vI 56,vI 3,vI 0,vI 0,vI 3,.ref 98,.bool true,vI 181,.ref 99,.none,.ref 100,.ref 101,.ref 102,vI 313,vI 56,vS "/claim/cut.py" 314]) ::
 (nat_lit 104,oF "raised" "Group.raised" (L2.inClass (top 10) 3) [] .none .none .none (vS "vouchdoor.group" 261) none (.ref 103) .none) ::
 (nat_lit 110,oC #[vS "product" 316,vS "Group.product" 317,vS "/claim/cut.py" 318,vI 59,vI 2,vI 0,vI 0,vI 3,.ref 105,.bool true,vI 181,.ref 106,.none,.ref 107,.ref 108,.ref 109,vI 321,vI 59,vS "/claim/cut.py" 322]) ::
 (nat_lit 111,oF "product" "Group.product" (L2.inClass (top 10) 4) [] .none .none .none (vS "vouchdoor.group" 261) none (.ref 110) .none) ::
 (nat_lit 117,oC #[vS "log" 324,vS "Group.log" 325,vS "/claim/cut.py" 326,vI 62,vI 2,vI 0,vI 0,vI 3,.ref 112,.bool true,vI 181,.ref 113,.none,.ref 114,.ref 115,.ref 116,vI 329,vI 62,vS "/claim/cut.py" 330]) ::
 (nat_lit 118,oF "log" "Group.log" (L2.inClass (top 10) 5) [] .none .none .none (vS "vouchdoor.group" 261) none (.ref 117) .none) ::
 (nat_lit 120,oD #[de P "__module__" 274 (vS "vouchdoor.group" 261),de P "__firstlineno__" 278 (Value.int 34 277),de P "__init__" 290 (.ref 83),de P "__eq__" 298 (.ref 90),de P "is_element" 306 (.ref 97),de P "raised" 315 (.ref 104),de P "product" 323 (.ref 111),de P "log" 331 (.ref 118),de P "__static_attributes__" 335 (.ref 119),de P "__dict__" 337 (.ref 122),de P "__weakref__" 339 (.ref 123),de P "__doc__" 340 .none,de P "__hash__" 341 .none] 5) ::
 (nat_lit 121,Obj.mk (.type "type") none (Data.cls (ClassData.mk (Str.ofString "Group") [.type "object"] [.ref 121,.type "object"] 120 (Str.ofString "Group") true [] [] false none false)) #[none,none,some (vS "Group" 267),some (vS "Group" 275),some (.builtin "object.__new__"),some (.bool true)]) ::
 (nat_lit 122,Obj.mk (.type "getset_descriptor") none (Data.fields #[vS "__dict__" 336,.ref 121,.builtin "function.__dict__",.builtin "function.__dict__#set"]) #[]) ::
 (nat_lit 123,Obj.mk (.type "getset_descriptor") none (Data.fields #[vS "__weakref__" 338,.ref 121,.builtin "ExceptionGroup.__weakref__",.none]) #[]) ::
 (nat_lit 138,oC #[vS "__init__" 358,vS "Kind.__init__" 359,vS "/claim/cut.py" 360,vI 67,vI 3,vI 0,vI 0,vI 3,.ref 133,.bool true,vI 181,.ref 134,.none,.ref 135,.ref 136,.ref 137,vI 364,vI 67,vS "/claim/cut.py" 365]) ::
 (nat_lit 139,oF "__init__" "Kind.__init__" (L2.inClass (top 12) 0) [] .none .none .none (vS "vouchdoor.issuer" 344) none (.ref 138) .none) ::
 (nat_lit 145,oC #[vS "__eq__" 367,vS "Kind.__eq__" 368,vS "/claim/cut.py" 369,vI 71,vI 2,vI 0,vI 0,vI 3,.ref 140,.bool true,vI 181,.ref 141,.none,.ref 142,.ref 143,.ref 144,vI 372,vI 71,vS "/claim/cut.py" 373]) ::
 (nat_lit 146,oF "__eq__" "Kind.__eq__" (L2.inClass (top 12) 1) [] .none .none .none (vS "vouchdoor.issuer" 344) none (.ref 145) .none) ::
 (nat_lit 148,oD #[de P "__module__" 353 (vS "vouchdoor.issuer" 344),de P "__firstlineno__" 357 (Value.int 65 356),de P "__init__" 366 (.ref 139),de P "__eq__" 374 (.ref 146),de P "__static_attributes__" 377 (.ref 147),de P "__dict__" 379 (.ref 150),de P "__weakref__" 381 (.ref 151),de P "__doc__" 382 .none,de P "__hash__" 383 .none] 5) ::
 (nat_lit 149,Obj.mk (.type "type") none (Data.cls (ClassData.mk (Str.ofString "Kind") [.type "object"] [.ref 149,.type "object"] 148 (Str.ofString "Kind") true [] [] false none false)) #[none,none,some (vS "Kind" 346),some (vS "Kind" 354),some (.builtin "object.__new__"),some (.bool true)]) ::
 (nat_lit 150,Obj.mk (.type "getset_descriptor") none (Data.fields #[vS "__dict__" 378,.ref 149,.builtin "function.__dict__",.builtin "function.__dict__#set"]) #[]) ::
 (nat_lit 151,Obj.mk (.type "getset_descriptor") none (Data.fields #[vS "__weakref__" 380,.ref 149,.builtin "ExceptionGroup.__weakref__",.none]) #[]) ::
 (nat_lit 159,oC #[vS "kind_named" 386,vS "kind_named" 387,vS "/claim/cut.py" 388,vI 73,vI 2,vI 0,vI 0,vI 3,.ref 154,.bool true,vI 181,.ref 155,.none,.ref 156,.ref 157,.ref 158,vI 392,vI 73,vS "/claim/cut.py" 393]) ::
 (nat_lit 160,oF "kind_named" "kind_named" (top 13) [] .none .none .none (vS "vouchdoor.issuer" 344) none (.ref 159) .none) ::
 (nat_lit 171,oC #[vS "__init__" 409,vS "Question.__init__" 410,vS "/claim/cut.py" 411,vI 81,vI 5,vI 0,vI 0,vI 3,.ref 168,.bool true,vI 181,.ref 169,.none,.none,.none,.ref 170,vI 412,vI 81,vS "/claim/cut.py" 413]) ::
 (nat_lit 172,oF "__init__" "Question.__init__" (L2.inClass (top 15) 0) [] .none .none .none (vS "vouchdoor.question" 395) none (.ref 171) .none) ::
 (nat_lit 178,oC #[vS "kind" 415,vS "Question.kind" 416,vS "/claim/cut.py" 417,vI 87,vI 2,vI 0,vI 0,vI 3,.ref 173,.bool true,vI 181,.ref 174,.none,.ref 175,.ref 176,.ref 177,vI 420,vI 87,vS "/claim/cut.py" 421]) ::
 (nat_lit 179,oF "kind" "Question.kind" (L2.inClass (top 15) 1) [] .none .none .none (vS "vouchdoor.question" 395) none (.ref 178) .none) ::
 (nat_lit 183,oC #[vS "place" 423,vS "Question.place" 424,vS "/claim/cut.py" 425,vI 90,vI 3,vI 0,vI 0,vI 3,.ref 180,.bool true,vI 181,.ref 181,.none,.none,.none,.ref 182,vI 426,vI 90,vS "/claim/cut.py" 427]) ::
 (nat_lit 184,oF "place" "Question.place" (L2.inClass (top 15) 2) [] .none .none .none (vS "vouchdoor.question" 395) none (.ref 183) .none) ::
 (nat_lit 190,oC #[vS "size" 429,vS "Question.size" 430,vS "/claim/cut.py" 431,vI 94,vI 2,vI 0,vI 0,vI 3,.ref 185,.bool true,vI 181,.ref 186,.none,.ref 187,.ref 188,.ref 189,vI 434,vI 94,vS "/claim/cut.py" 435]) ::
 (nat_lit 191,oF "size" "Question.size" (L2.inClass (top 15) 3) [] .none .none .none (vS "vouchdoor.question" 395) none (.ref 190) .none) ::
 (nat_lit 197,oC #[vS "places" 437,vS "Question.places" 438,vS "/claim/cut.py" 439,vI 97,vI 1,vI 0,vI 0,vI 3,.ref 192,.bool true,vI 181,.ref 193,.none,.ref 194,.ref 195,.ref 196,vI 441,vI 97,vS "/claim/cut.py" 442]) ::
 (nat_lit 198,oF "places" "Question.places" (L2.inClass (top 15) 4) [] .none .none .none (vS "vouchdoor.question" 395) none (.ref 197) .none) ::
 (nat_lit 204,oC #[vS "tells" 444,vS "Question.tells" 445,vS "/claim/cut.py" 446,vI 100,vI 1,vI 0,vI 0,vI 3,.ref 199,.bool true,vI 181,.ref 200,.none,.ref 201,.ref 202,.ref 203,vI 448,vI 100,vS "/claim/cut.py" 449]) ::
 (nat_lit 205,oF "tells" "Question.tells" (L2.inClass (top 15) 5) [] .none .none .none (vS "vouchdoor.question" 395) none (.ref 204) .none) ::
 (nat_lit 211,oC #[vS "base" 451,vS "Question.base" 452,vS "/claim/cut.py" 453,vI 103,vI 2,vI 0,vI 0,vI 3,.ref 206,.bool true,vI 181,.ref 207,.none,.ref 208,.ref 209,.ref 210,vI 456,vI 103,vS "/claim/cut.py" 457]) ::
 (nat_lit 212,oF "base" "Question.base" (L2.inClass (top 15) 6) [] .none .none .none (vS "vouchdoor.question" 395) none (.ref 211) .none) ::
 (nat_lit 214,oD #[de P "__module__" 404 (vS "vouchdoor.question" 395),de P "__firstlineno__" 408 (Value.int 79 407),de P "__init__" 414 (.ref 172),de P "kind" 422 (.ref 179),de P "place" 428 (.ref 184),de P "size" 436 (.ref 191),de P "places" 443 (.ref 198),de P "tells" 450 (.ref 205),de P "base" 458 (.ref 212),de P "__static_attributes__" 463 (.ref 213),de P "__dict__" 465 (.ref 216),de P "__weakref__" 467 (.ref 217),de P "__doc__" 468 .none] 4) ::
 (nat_lit 215,Obj.mk (.type "type") none (Data.cls (ClassData.mk (Str.ofString "Question") [.type "object"] [.ref 215,.type "object"] 214 (Str.ofString "Question") true [] [] false none false)) #[none,none,some (vS "Question" 397),some (vS "Question" 405),some (.builtin "object.__new__"),some (.bool true)]) ::
 (nat_lit 216,Obj.mk (.type "getset_descriptor") none (Data.fields #[vS "__dict__" 464,.ref 215,.builtin "function.__dict__",.builtin "function.__dict__#set"]) #[]) ::
 (nat_lit 217,Obj.mk (.type "getset_descriptor") none (Data.fields #[vS "__weakref__" 466,.ref 215,.builtin "ExceptionGroup.__weakref__",.none]) #[]) ::
 (nat_lit 225,oC #[vS "candidates" 471,vS "candidates" 472,vS "/claim/cut.py" 473,vI 105,vI 2,vI 0,vI 0,vI 3,.ref 220,.bool true,vI 181,.ref 221,.none,.ref 222,.ref 223,.ref 224,vI 476,vI 105,vS "/claim/cut.py" 477]) ::
 (nat_lit 226,oF "candidates" "candidates" (top 16) [] .none .none .none (vS "vouchdoor.question" 395) none (.ref 225) .none) ::
 (nat_lit 239,oC #[vS "__init__" 493,vS "Pick.__init__" 494,vS "/claim/cut.py" 495,vI 114,vI 4,vI 0,vI 0,vI 3,.ref 234,.bool true,vI 181,.ref 235,.none,.ref 236,.ref 237,.ref 238,vI 500,vI 114,vS "/claim/cut.py" 501]) ::
 (nat_lit 240,oF "__init__" "Pick.__init__" (L2.inClass (top 18) 0) [] .none .none .none (vS "vouchdoor.showing" 479) none (.ref 239) .none) ::
 (nat_lit 246,oC #[vS "__eq__" 503,vS "Pick.__eq__" 504,vS "/claim/cut.py" 505,vI 119,vI 2,vI 0,vI 0,vI 3,.ref 241,.bool true,vI 181,.ref 242,.none,.ref 243,.ref 244,.ref 245,vI 508,vI 119,vS "/claim/cut.py" 509]) ::
 (nat_lit 247,oF "__eq__" "Pick.__eq__" (L2.inClass (top 18) 1) [] .none .none .none (vS "vouchdoor.showing" 479) none (.ref 246) .none) ::
 (nat_lit 249,oD #[de P "__module__" 488 (vS "vouchdoor.showing" 479),de P "__firstlineno__" 492 (Value.int 112 491),de P "__init__" 502 (.ref 240),de P "__eq__" 510 (.ref 247),de P "__static_attributes__" 514 (.ref 248),de P "__dict__" 516 (.ref 251),de P "__weakref__" 518 (.ref 252),de P "__doc__" 519 .none,de P "__hash__" 520 .none] 5) ::
 (nat_lit 250,Obj.mk (.type "type") none (Data.cls (ClassData.mk (Str.ofString "Pick") [.type "object"] [.ref 250,.type "object"] 249 (Str.ofString "Pick") true [] [] false none false)) #[none,none,some (vS "Pick" 481),some (vS "Pick" 489),some (.builtin "object.__new__"),some (.bool true)]) ::
 (nat_lit 251,Obj.mk (.type "getset_descriptor") none (Data.fields #[vS "__dict__" 515,.ref 250,.builtin "function.__dict__",.builtin "function.__dict__#set"]) #[]) ::
 (nat_lit 252,Obj.mk (.type "getset_descriptor") none (Data.fields #[vS "__weakref__" 517,.ref 250,.builtin "ExceptionGroup.__weakref__",.none]) #[]) ::
 (nat_lit 260,oC #[vS "answers" 523,vS "answers" 524,vS "/claim/cut.py" 525,vI 121,vI 2,vI 0,vI 0,vI 3,.ref 255,.bool true,vI 181,.ref 256,.none,.ref 257,.ref 258,.ref 259,vI 534,vI 121,vS "/claim/cut.py" 535]) ::
 (nat_lit 261,oF "answers" "answers" (top 19) [] .none .none .none (vS "vouchdoor.showing" 479) none (.ref 260) .none) ::
 (nat_lit 274,oC #[vS "__init__" 551,vS "Wallet.__init__" 552,vS "/claim/cut.py" 553,vI 135,vI 3,vI 0,vI 0,vI 3,.ref 269,.bool true,vI 181,.ref 270,.none,.ref 271,.ref 272,.ref 273,vI 557,vI 135,vS "/claim/cut.py" 558]) ::
 (nat_lit 275,oF "__init__" "Wallet.__init__" (L2.inClass (top 21) 0) [] .none .none .none (vS "vouchdoor.wallet" 537) none (.ref 274) .none) ::
 (nat_lit 281,oC #[vS "ask" 560,vS "Wallet.ask" 561,vS "/claim/cut.py" 562,vI 140,vI 3,vI 0,vI 0,vI 3,.ref 276,.bool true,vI 181,.ref 277,.none,.ref 278,.ref 279,.ref 280,vI 566,vI 140,vS "/claim/cut.py" 567]) ::
 (nat_lit 282,oF "ask" "Wallet.ask" (L2.inClass (top 21) 1) [] .none .none .none (vS "vouchdoor.wallet" 537) none (.ref 281) .none) ::
 (nat_lit 288,oC #[vS "reply" 569,vS "Wallet.reply" 570,vS "/claim/cut.py" 571,vI 143,vI 4,vI 0,vI 0,vI 3,.ref 283,.bool true,vI 181,.ref 284,.none,.ref 285,.ref 286,.ref 287,vI 576,vI 143,vS "/claim/cut.py" 577]) ::
 (nat_lit 289,oF "reply" "Wallet.reply" (L2.inClass (top 21) 2) [] .none .none .none (vS "vouchdoor.wallet" 537) none (.ref 288) .none) ::
 (nat_lit 295,oC #[vS "keep" 579,vS "Wallet.keep" 580,vS "/claim/cut.py" 581,vI 146,vI 6,vI 0,vI 0,vI 3,.ref 290,.bool true,vI 181,.ref 291,.none,.ref 292,.ref 293,.ref 294,vI 588,vI 146,vS "/claim/cut.py" 589]) ::
 (nat_lit 296,oF "keep" "Wallet.keep" (L2.inClass (top 21) 3) [] .none .none .none (vS "vouchdoor.wallet" 537) none (.ref 295) .none) ::
 (nat_lit 300,oC #[vS "fitting" 591,vS "Wallet.fitting" 592,vS "/claim/cut.py" 593,vI 149,vI 3,vI 0,vI 0,vI 3,.ref 297,.bool true,vI 181,.ref 298,.none,.none,.none,.ref 299,vI 594,vI 149,vS "/claim/cut.py" 595]) ::
 (nat_lit 301,oF "fitting" "Wallet.fitting" (L2.inClass (top 21) 4) [] .none .none .none (vS "vouchdoor.wallet" 537) none (.ref 300) .none) ::
 (nat_lit 305,oC #[vS "picks" 597,vS "Wallet.picks" 598,vS "/claim/cut.py" 599,vI 157,vI 2,vI 0,vI 0,vI 3,.ref 302,.bool true,vI 181,.ref 303,.none,.none,.none,.ref 304,vI 600,vI 157,vS "/claim/cut.py" 601]) ::
 (nat_lit 306,oF "picks" "Wallet.picks" (L2.inClass (top 21) 5) [] .none .none .none (vS "vouchdoor.wallet" 537) none (.ref 305) .none) ::
 (nat_lit 312,oC #[vS "opens" 603,vS "Wallet.opens" 604,vS "/claim/cut.py" 605,vI 166,vI 4,vI 0,vI 0,vI 3,.ref 307,.bool true,vI 181,.ref 308,.none,.ref 309,.ref 310,.ref 311,vI 610,vI 166,vS "/claim/cut.py" 611]) ::
 (nat_lit 313,oF "opens" "Wallet.opens" (L2.inClass (top 21) 6) [] .none .none .none (vS "vouchdoor.wallet" 537) none (.ref 312) .none) ::
 (nat_lit 315,oD #[de P "__module__" 546 (vS "vouchdoor.wallet" 537),de P "__firstlineno__" 550 (Value.int 133 549),de P "__init__" 559 (.ref 275),de P "ask" 568 (.ref 282),de P "reply" 578 (.ref 289),de P "keep" 590 (.ref 296),de P "fitting" 596 (.ref 301),de P "picks" 602 (.ref 306),de P "opens" 612 (.ref 313),de P "__static_attributes__" 616 (.ref 314),de P "__dict__" 618 (.ref 317),de P "__weakref__" 620 (.ref 318),de P "__doc__" 621 .none] 4) ::
 (nat_lit 316,Obj.mk (.type "type") none (Data.cls (ClassData.mk (Str.ofString "Wallet") [.type "object"] [.ref 316,.type "object"] 315 (Str.ofString "Wallet") true [] [] false none false)) #[none,none,some (vS "Wallet" 539),some (vS "Wallet" 547),some (.builtin "object.__new__"),some (.bool true)]) ::
 (nat_lit 317,Obj.mk (.type "getset_descriptor") none (Data.fields #[vS "__dict__" 617,.ref 316,.builtin "function.__dict__",.builtin "function.__dict__#set"]) #[]) ::
 (nat_lit 318,Obj.mk (.type "getset_descriptor") none (Data.fields #[vS "__weakref__" 619,.ref 316,.builtin "ExceptionGroup.__weakref__",.none]) #[]) ::
 (nat_lit 333,oC #[vS "__init__" 638,vS "Policy.__init__" 639,vS "/claim/cut.py" 640,vI 171,vI 3,vI 0,vI 0,vI 3,.ref 328,.bool true,vI 181,.ref 329,.none,.ref 330,.ref 331,.ref 332,vI 644,vI 171,vS "/claim/cut.py" 645]) ::
 (nat_lit 334,oF "__init__" "Policy.__init__" (L2.inClass (top 23) 0) [] .none .none .none (vS "vouchdoor.policy" 624) none (.ref 333) .none) ::
 (nat_lit 340,oC #[vS "__eq__" 647,vS "Policy.__eq__" 648,vS "/claim/cut.py" 649,vI 175,vI 2,vI 0,vI 0,vI 3,.ref 335,.bool true,vI 181,.ref 336,.none,.ref 337,.ref 338,.ref 339,vI 652,vI 175,vS "/claim/cut.py" 653]) ::
 (nat_lit 341,oF "__eq__" "Policy.__eq__" (L2.inClass (top 23) 1) [] .none .none .none (vS "vouchdoor.policy" 624) none (.ref 340) .none) ::
 (nat_lit 345,oC #[vS "place" 655,vS "Policy.place" 656,vS "/claim/cut.py" 657,vI 178,vI 2,vI 0,vI 0,vI 3,.ref 342,.bool true,vI 181,.ref 343,.none,.none,.none,.ref 344,vI 658,vI 178,vS "/claim/cut.py" 659]) ::
 (nat_lit 346,oF "place" "Policy.place" (L2.inClass (top 23) 2) [] .none .none .none (vS "vouchdoor.policy" 624) none (.ref 345) .none) ::
 (nat_lit 348,oD #[de P "__module__" 633 (vS "vouchdoor.policy" 624),de P "__firstlineno__" 637 (Value.int 169 636),de P "__init__" 646 (.ref 334),de P "__eq__" 654 (.ref 341),de P "place" 660 (.ref 346),de P "__static_attributes__" 663 (.ref 347),de P "__dict__" 665 (.ref 350),de P "__weakref__" 667 (.ref 351),de P "__doc__" 668 .none,de P "__hash__" 669 .none] 5) ::
 (nat_lit 349,Obj.mk (.type "type") none (Data.cls (ClassData.mk (Str.ofString "Policy") [.type "object"] [.ref 349,.type "object"] 348 (Str.ofString "Policy") true [] [] false none false)) #[none,none,some (vS "Policy" 626),some (vS "Policy" 634),some (.builtin "object.__new__"),some (.bool true)]) ::
 (nat_lit 350,Obj.mk (.type "getset_descriptor") none (Data.fields #[vS "__dict__" 664,.ref 349,.builtin "function.__dict__",.builtin "function.__dict__#set"]) #[]) ::
 (nat_lit 351,Obj.mk (.type "getset_descriptor") none (Data.fields #[vS "__weakref__" 666,.ref 349,.builtin "ExceptionGroup.__weakref__",.none]) #[]) ::
 (nat_lit 359,oC #[vS "_law_pool" 674,vS "_law_pool" 675,vS "/claim/cut.py" 676,vI 181,vI 2,vI 0,vI 0,vI 3,.ref 354,.bool true,vI 181,.ref 355,.none,.ref 356,.ref 357,.ref 358,vI 679,vI 181,vS "/claim/cut.py" 680]) ::
 (nat_lit 360,oF "_law_pool" "_law_pool" (top 25) [] .none .none .none (vS "law_vouchdoor_k50_picks_of_a_wallet" 672) none (.ref 359) .none) ::
 (nat_lit 366,oC #[vS "_law_draw" 682,vS "_law_draw" 683,vS "/claim/cut.py" 684,vI 183,vI 2,vI 0,vI 0,vI 3,.ref 361,.bool true,vI 181,.ref 362,.none,.ref 363,.ref 364,.ref 365,vI 689,vI 183,vS "/claim/cut.py" 690]) ::
 (nat_lit 367,oF "_law_draw" "_law_draw" (top 26) [] .none .none .none (vS "law_vouchdoor_k50_picks_of_a_wallet" 672) none (.ref 366) .none) ::
 (nat_lit 373,oC #[vS "_law_same" 692,vS "_law_same" 693,vS "/claim/cut.py" 694,vI 199,vI 2,vI 0,vI 0,vI 3,.ref 368,.bool true,vI 181,.ref 369,.none,.ref 370,.ref 371,.ref 372,vI 698,vI 199,vS "/claim/cut.py" 699]) ::
 (nat_lit 374,oF "_law_same" "_law_same" (top 27) [] .none .none .none (vS "law_vouchdoor_k50_picks_of_a_wallet" 672) none (.ref 373) .none) ::
 (nat_lit 380,oC #[vS "_law_power" 701,vS "_law_power" 702,vS "/claim/cut.py" 703,vI 214,vI 3,vI 0,vI 0,vI 3,.ref 375,.bool true,vI 181,.ref 376,.none,.ref 377,.ref 378,.ref 379,vI 709,vI 214,vS "/claim/cut.py" 710]) ::
 (nat_lit 381,oF "_law_power" "_law_power" (top 28) [] .none .none .none (vS "law_vouchdoor_k50_picks_of_a_wallet" 672) none (.ref 380) .none) ::
 (nat_lit 387,oC #[vS "_law_raised" 712,vS "_law_raised" 713,vS "/claim/cut.py" 714,vI 219,vI 3,vI 0,vI 0,vI 3,.ref 382,.bool true,vI 181,.ref 383,.none,.ref 384,.ref 385,.ref 386,vI 718,vI 219,vS "/claim/cut.py" 719]) ::
 (nat_lit 388,oF "_law_raised" "_law_raised" (top 29) [] .none .none .none (vS "law_vouchdoor_k50_picks_of_a_wallet" 672) none (.ref 387) .none) ::
 (nat_lit 394,oC #[vS "_law_product" 721,vS "_law_product" 722,vS "/claim/cut.py" 723,vI 221,vI 2,vI 0,vI 0,vI 3,.ref 389,.bool true,vI 181,.ref 390,.none,.ref 391,.ref 392,.ref 393,vI 729,vI 221,vS "/claim/cut.py" 730]) ::
 (nat_lit 395,oF "_law_product" "_law_product" (top 30) [] .none .none .none (vS "law_vouchdoor_k50_picks_of_a_wallet" 672) none (.ref 394) .none) ::
 (nat_lit 399,oC #[vS "_law_commit" 732,vS "_law_commit" 733,vS "/claim/cut.py" 734,vI 226,vI 2,vI 0,vI 0,vI 3,.ref 396,.bool true,vI 181,.ref 397,.none,.none,.none,.ref 398,vI 735,vI 226,vS "/claim/cut.py" 736]) ::
 (nat_lit 400,oF "_law_commit" "_law_commit" (top 31) [] .none .none .none (vS "law_vouchdoor_k50_picks_of_a_wallet" 672) none (.ref 399) .none) ::
 (nat_lit 404,oC #[vS "_law_group" 738,vS "_law_group" 739,vS "/claim/cut.py" 740,vI 228,vI 3,vI 0,vI 0,vI 3,.ref 401,.bool true,vI 181,.ref 402,.none,.none,.none,.ref 403,vI 741,vI 228,vS "/claim/cut.py" 742]) ::
 (nat_lit 405,oF "_law_group" "_law_group" (top 32) [] .none .none .none (vS "law_vouchdoor_k50_picks_of_a_wallet" 672) none (.ref 404) .none) ::
 (nat_lit 409,oC #[vS "_law_numbers" 744,vS "_law_numbers" 745,vS "/claim/cut.py" 746,vI 250,vI 3,vI 0,vI 0,vI 3,.ref 406,.bool true,vI 181,.ref 407,.none,.none,.none,.ref 408,vI 747,vI 250,vS "/claim/cut.py" 748]) ::
 (nat_lit 410,oF "_law_numbers" "_law_numbers" (top 33) [] .none .none .none (vS "law_vouchdoor_k50_picks_of_a_wallet" 672) none (.ref 409) .none) ::
 (nat_lit 414,oC #[vS "_law_kinds" 750,vS "_law_kinds" 751,vS "/claim/cut.py" 752,vI 252,vI 2,vI 0,vI 0,vI 3,.ref 411,.bool true,vI 181,.ref 412,.none,.none,.none,.ref 413,vI 753,vI 252,vS "/claim/cut.py" 754]) ::
 (nat_lit 415,oF "_law_kinds" "_law_kinds" (top 34) [] .none .none .none (vS "law_vouchdoor_k50_picks_of_a_wallet" 672) none (.ref 414) .none) ::
 (nat_lit 421,oC #[vS "_law_scene" 756,vS "_law_scene" 757,vS "/claim/cut.py" 758,vI 258,vI 3,vI 0,vI 0,vI 3,.ref 416,.bool true,vI 181,.ref 417,.none,.ref 418,.ref 419,.ref 420,vI 773,vI 258,vS "/claim/cut.py" 774]) ::
 (nat_lit 422,oF "_law_scene" "_law_scene" (top 35) [] .none .none .none (vS "law_vouchdoor_k50_picks_of_a_wallet" 672) none (.ref 421) .none) ::
 (nat_lit 426,oC #[vS "_law_rows" 776,vS "_law_rows" 777,vS "/claim/cut.py" 778,vI 275,vI 4,vI 0,vI 0,vI 3,.ref 423,.bool true,vI 181,.ref 424,.none,.none,.none,.ref 425,vI 779,vI 275,vS "/claim/cut.py" 780]) ::
 (nat_lit 427,oF "_law_rows" "_law_rows" (top 36) [] .none .none .none (vS "law_vouchdoor_k50_picks_of_a_wallet" 672) none (.ref 426) .none) ::
 (nat_lit 431,oC #[vS "_law_fields" 782,vS "_law_fields" 783,vS "/claim/cut.py" 784,vI 300,vI 1,vI 0,vI 0,vI 3,.ref 428,.bool true,vI 181,.ref 429,.none,.none,.none,.ref 430,vI 785,vI 300,vS "/claim/cut.py" 786]) ::
 (nat_lit 432,oF "_law_fields" "_law_fields" (top 37) [] .none .none .none (vS "law_vouchdoor_k50_picks_of_a_wallet" 672) none (.ref 431) .none) ::
 (nat_lit 436,oC #[vS "_law_condition" 788,vS "_law_condition" 789,vS "/claim/cut.py" 790,vI 308,vI 2,vI 0,vI 0,vI 3,.ref 433,.bool true,vI 181,.ref 434,.none,.none,.none,.ref 435,vI 791,vI 308,vS "/claim/cut.py" 792]) ::
 (nat_lit 437,oF "_law_condition" "_law_condition" (top 38) [] .none .none .none (vS "law_vouchdoor_k50_picks_of_a_wallet" 672) none (.ref 436) .none) ::
 (nat_lit 441,oC #[vS "_law_question" 794,vS "_law_question" 795,vS "/claim/cut.py" 796,vI 327,vI 1,vI 0,vI 0,vI 3,.ref 438,.bool true,vI 181,.ref 439,.none,.none,.none,.ref 440,vI 797,vI 327,vS "/claim/cut.py" 798]) ::
 (nat_lit 442,oF "_law_question" "_law_question" (top 39) [] .none .none .none (vS "law_vouchdoor_k50_picks_of_a_wallet" 672) none (.ref 441) .none) ::
 (nat_lit 446,oC #[vS "_law_place" 800,vS "_law_place" 801,vS "/claim/cut.py" 802,vI 332,vI 2,vI 0,vI 0,vI 3,.ref 443,.bool true,vI 181,.ref 444,.none,.none,.none,.ref 445,vI 803,vI 332,vS "/claim/cut.py" 804]) ::
 (nat_lit 447,oF "_law_place" "_law_place" (top 40) [] .none .none .none (vS "law_vouchdoor_k50_picks_of_a_wallet" 672) none (.ref 446) .none) ::
 (nat_lit 451,oC #[vS "_law_sizes" 806,vS "_law_sizes" 807,vS "/claim/cut.py" 808,vI 336,vI 1,vI 0,vI 0,vI 3,.ref 448,.bool true,vI 181,.ref 449,.none,.none,.none,.ref 450,vI 809,vI 336,vS "/claim/cut.py" 810]) ::
 (nat_lit 452,oF "_law_sizes" "_law_sizes" (top 41) [] .none .none .none (vS "law_vouchdoor_k50_picks_of_a_wallet" 672) none (.ref 451) .none) ::
 (nat_lit 458,oC #[vS "_law_allowed" 812,vS "_law_allowed" 813,vS "/claim/cut.py" 814,vI 343,vI 2,vI 0,vI 0,vI 3,.ref 453,.bool true,vI 181,.ref 454,.none,.ref 455,.ref 456,.ref 457,vI 817,vI 343,vS "/claim/cut.py" 818]) ::
 (nat_lit 459,oF "_law_allowed" "_law_allowed" (top 42) [] .none .none .none (vS "law_vouchdoor_k50_picks_of_a_wallet" 672) none (.ref 458) .none) ::
 (nat_lit 465,oC #[vS "_law_answers" 820,vS "_law_answers" 821,vS "/claim/cut.py" 822,vI 349,vI 2,vI 0,vI 0,vI 3,.ref 460,.bool true,vI 181,.ref 461,.none,.ref 462,.ref 463,.ref 464,vI 831,vI 349,vS "/claim/cut.py" 832]) ::
 (nat_lit 466,oF "_law_answers" "_law_answers" (top 43) [] .none .none .none (vS "law_vouchdoor_k50_picks_of_a_wallet" 672) none (.ref 465) .none) ::
 (nat_lit 470,oC #[vS "_law_holdings" 834,vS "_law_holdings" 835,vS "/claim/cut.py" 836,vI 360,vI 3,vI 0,vI 0,vI 3,.ref 467,.bool true,vI 181,.ref 468,.none,.none,.none,.ref 469,vI 837,vI 360,vS "/claim/cut.py" 838]) ::
 (nat_lit 471,oF "_law_holdings" "_law_holdings" (top 44) [] .none .none .none (vS "law_vouchdoor_k50_picks_of_a_wallet" 672) none (.ref 470) .none) ::
 (nat_lit 475,oC #[vS "_law_first" 840,vS "_law_first" 841,vS "/claim/cut.py" 842,vI 375,vI 2,vI 0,vI 0,vI 3,.ref 472,.bool true,vI 181,.ref 473,.none,.none,.none,.ref 474,vI 843,vI 375,vS "/claim/cut.py" 844]) ::
 (nat_lit 476,oF "_law_first" "_law_first" (top 45) [] .none .none .none (vS "law_vouchdoor_k50_picks_of_a_wallet" 672) none (.ref 475) .none) ::
 (nat_lit 480,oC #[vS "law" 846,vS "law" 847,vS "/claim/cut.py" 848,vI 389,vI 1,vI 0,vI 0,vI 3,.ref 477,.bool true,vI 181,.ref 478,.none,.none,.none,.ref 479,vI 849,vI 389,vS "/claim/cut.py" 850]) ::
 (nat_lit 481,oF "law" "law" (top 46) [] .none .none .none (vS "law_vouchdoor_k50_picks_of_a_wallet" 672) none (.ref 480) .none) ::
 []
def KA : List Addr :=
 nat_lit 2 :: nat_lit 3 :: nat_lit 20 :: nat_lit 21 :: nat_lit 27 :: nat_lit 28 :: nat_lit 34 :: nat_lit 35 :: nat_lit 44 :: nat_lit 45 :: nat_lit 46 :: nat_lit 52 :: nat_lit 63 :: nat_lit 64 :: nat_lit 66 :: nat_lit 67 :: nat_lit 82 :: nat_lit 83 :: nat_lit 89 :: nat_lit 90 :: nat_lit 96 :: nat_lit 97 :: nat_lit 103 :: nat_lit 104 :: nat_lit 110 :: nat_lit 111 :: nat_lit 117 :: nat_lit 118 :: nat_lit 120 :: nat_lit 121 :: nat_lit 122 :: nat_lit 123 :: nat_lit 138 :: nat_lit 139 :: nat_lit 145 :: nat_lit 146 :: nat_lit 148 :: nat_lit 149 :: nat_lit 150 :: nat_lit 151 :: nat_lit 159 :: nat_lit 160 :: nat_lit 171 :: nat_lit 172 :: nat_lit 178 :: nat_lit 179 :: nat_lit 183 :: nat_lit 184 :: nat_lit 190 :: nat_lit 191 :: nat_lit 197 :: nat_lit 198 :: nat_lit 204 :: nat_lit 205 :: nat_lit 211 :: nat_lit 212 :: nat_lit 214 :: nat_lit 215 :: nat_lit 216 :: nat_lit 217 :: nat_lit 225 :: nat_lit 226 :: nat_lit 239 :: nat_lit 240 :: nat_lit 246 :: nat_lit 247 :: nat_lit 249 :: nat_lit 250 :: nat_lit 251 :: nat_lit 252 :: nat_lit 260 :: nat_lit 261 :: nat_lit 274 :: nat_lit 275 :: nat_lit 281 :: nat_lit 282 :: nat_lit 288 :: nat_lit 289 :: nat_lit 295 :: nat_lit 296 :: nat_lit 300 :: nat_lit 301 :: nat_lit 305 :: nat_lit 306 :: nat_lit 312 :: nat_lit 313 :: nat_lit 315 :: nat_lit 316 :: nat_lit 317 :: nat_lit 318 :: nat_lit 333 :: nat_lit 334 :: nat_lit 340 :: nat_lit 341 :: nat_lit 345 :: nat_lit 346 :: nat_lit 348 :: nat_lit 349 :: nat_lit 350 :: nat_lit 351 :: nat_lit 359 :: nat_lit 360 :: nat_lit 366 :: nat_lit 367 :: nat_lit 373 :: nat_lit 374 :: nat_lit 380 :: nat_lit 381 :: nat_lit 387 :: nat_lit 388 :: nat_lit 394 :: nat_lit 395 :: nat_lit 399 :: nat_lit 400 :: nat_lit 404 :: nat_lit 405 :: nat_lit 409 :: nat_lit 410 :: nat_lit 414 :: nat_lit 415 :: nat_lit 421 :: nat_lit 422 :: nat_lit 426 :: nat_lit 427 :: nat_lit 431 :: nat_lit 432 :: nat_lit 436 :: nat_lit 437 :: nat_lit 441 :: nat_lit 442 :: nat_lit 446 :: nat_lit 447 :: nat_lit 451 :: nat_lit 452 :: nat_lit 458 :: nat_lit 459 :: nat_lit 465 :: nat_lit 466 :: nat_lit 470 :: nat_lit 471 :: nat_lit 475 :: nat_lit 476 :: nat_lit 480 :: nat_lit 481 :: []
theorem KE : ∀ P,KA = (KK P).map (·.1):=fun P=>by kernel_rfl
def loose0 : List Str:=["_wall","is_prime","power","VouchError","BadGroup","GREATEST","MOST_BASES","Group","Kind","kind_named","Question","candidates","Pick","answers","Wallet","Policy","_law_pool","_law_draw","_law_same","_law_power","_law_raised","_law_product","_law_commit","_law_group","_law_numbers","_law_kinds","_law_scene","_law_rows","_law_fields","_law_condition"]
def loose1 : List Str:=["_law_question","_law_place","_law_sizes","_law_allowed","_law_answers","_law_holdings","_law_first"]
def loose : List Str:=loose0 ++ (loose1)
abbrev hkR : OpenRow := OpenLaw.row PySem.Challenge.rw_vouchdoor_k50_picks_of_a_wallet
abbrev hkV : Program:=view hkR.prog [46]
theorem zZM2 {α β γ δ : Type} {X : Option α} {f : α → β} {g : α → γ} {h : α → δ} {b : β} {c : γ} {d : δ} (h1 : X.map (fun s=>(f s,g s)) = some (b,c)) (h2 : X.map h = some d) : X.map (fun s=>(f s,g s,h s)) = some (b,c,d):=by
 cases X with
 | none=>cases h1
 | some x =>
  simp only [Option.map_some,Option.some.injEq,Prod.mk.injEq] at h1 h2 ⊢
  exact ⟨h1.1,h1.2,h2⟩
theorem zZLz (w : World) (os : OsState) : (HandSHeadRun.endF (HandSHeadRun.stepQ (HandSHeadRun.denQ HandSHeadRun.tabQ) hkR.prog w) 3819 hkR.prog w os).map (fun s=>(HandSHeadRun.looksF hkR.prog (boot_heap w.params) s.abs,HandSHeadRun.seenQ hkV loose (importedModules hkR.prog.main.body) (fun s=>xlAt hkV [] s && recOk hkR.toRowW.records s) s.abs)) = some (true,openGood hkV loose):=by
 kernel_rfl
theorem zZNP (w : World) (os : OsState) : (HandSHeadRun.endF (HandSHeadRun.stepQ (HandSHeadRun.denQ HandSHeadRun.tabQ) hkR.prog w) 3819 hkR.prog w os).map (fun s=>KA.map (HandSHeadRun.getT s)) = some ((KK w.params).map fun p=>some p.2):=by
 kernel_rfl
theorem hk_run (w : World) : HandSHeadRun.RunEq hkR hkV (kHook KK KA KE) (fun s=>KA.map (HandSHeadRun.getT s)) 3819 loose w:=fun os=>zZM2 (zZLz w os) (zZNP w os)
theorem hk_obs (s : SharedT) : KA.map (HandSHeadRun.getT s) = (kHook KK KA KE).obs s.abs:=List.map_congr_left fun a _=>HandSHeadRun.getT_eq s a
end Gen
open PySem PySem.W PySem.Calls PyProof.Rows
set_option maxRecDepth 100000 in
set_option maxHeartbeats 0 in
theorem PySem.Challenge.cw_vouchdoor_k50_picks_of_a_wallet_holds : PySem.Challenge.rw_vouchdoor_k50_picks_of_a_wallet.Holds := by
 w_on; o_law
 refine HandSHeadRun.head_any (r:=Gen.hkR) (q:=Gen.hkV) (H:=kHook Gen.KK Gen.KA Gen.KE) (ob:=fun s=>Gen.KA.map (HandSHeadRun.getT s)) (loose:=Gen.loose) (kwd:=[]) Gen.hk_obs (by kernel_rfl) (fun s=>by kernel_rfl) Gen.hk_run (by rfl) (by rfl) (by rfl) (by rfl) (by first | assumption | decide +kernel) (by decide +kernel) ⟨rfl,rfl,rfl,rfl,rfl,by decide +kernel⟩ ?hw ?hc
 (case hw=>w_witness2)
 k_fill
 refine Gen.walk (l := PySem.Challenge.rw_vouchdoor_k50_picks_of_a_wallet) rfl rfl (fun w h Y => PySem.W.kIn_of Y) ?F
 case F =>
  intro w mg fa h KX G hmg
  refine' Gen.all_mk KX G hmg ?qc0 ?pg0 ?hd0 ?po0 ?sa0 ?mk0 ?kc0 ?qc1 ?pg1 ?hd1 ?po1 ?sa1 ?mk1 ?kc1 ?qc2 ?pg2 ?hd2 ?po2 ?sa2 ?mk2 ?kc2 ?qc3 ?pg3 ?hd3 ?po3 ?sa3 ?mk3 ?kc3 ?qc4 ?pg4 ?hd4 ?po4 ?sa4 ?mk4 ?kc4 ?qc5 ?pg5 ?hd5 ?po5 ?sa5 ?mk5 ?kc5 ?na0_2 ?na0_3 ?na0_4 ?na1_12 ?na1_13 ?na2_28 ?na2_29 ?na3_19 ?na3_20 ?na3_42 ?na3_43 ?na4_47 ?na4_48 ?na4_49 ?na5_19 ?na5_51 ?na5_59 ?q0 ?l0 ?c0 ?k0 ?q1 ?l1 ?c1 ?k1 ?q2 ?i2 ?l2 ?c2 ?k2 ?q3 ?i3 ?l3 ?c3 ?k3 ?q4 ?l4 ?c4 ?k4 ?q5 ?i5 ?l5 ?c5 ?k5 ?q6 ?i6 ?l6 ?c6 ?k6 ?q7 ?i7 ?l7 ?c7 ?k7 ?q8 ?i8 ?l8 ?c8 ?k8 ?q9 ?l9 ?c9 ?k9 ?q10 ?i10 ?l10 ?c10 ?k10 ?q11 ?l11 ?c11 ?k11 ?q12 ?i12 ?l12 ?c12 ?k12 ?q13 ?i13 ?l13 ?c13 ?k13 ?q14 ?i14 ?l14 ?c14 ?k14 ?q15 ?i15 ?l15 ?c15 ?k15 ?q16 ?i16 ?l16 ?c16 ?k16 ?q17 ?i17 ?l17 ?c17 ?k17 ?q18 ?l18 ?c18 ?k18 ?q19 ?l19 ?c19 ?k19 ?q20 ?l20 ?c20 ?k20 ?q21 ?l21 ?c21 ?k21 ?q22 ?l22 ?c22 ?k22 ?q23 ?l23 ?c23 ?k23 ?q24 ?l24 ?c24 ?k24 ?q25 ?l25 ?c25 ?k25 ?q26 ?l26 ?c26 ?k26 ?q27 ?l27 ?c27 ?k27 ?q28 ?l28 ?c28 ?k28 ?q29 ?l29 ?c29 ?k29 ?q30 ?l30 ?c30 ?k30 ?q31 ?l31 ?c31 ?k31 ?q32 ?l32 ?c32 ?k32 ?q33 ?l33 ?c33 ?k33 ?q34 ?l34 ?c34 ?k34 ?q35 ?l35 ?c35 ?k35 ?q36 ?l36 ?c36 ?k36 ?q37 ?l37 ?c37 ?k37 ?q38 ?l38 ?c38 ?k38 ?q39 ?l39 ?c39 ?k39 ?z0 ?z1 ?z2 ?z3 ?z4 ?z5 ?z6 ?z7 ?z8 ?z9 ?gi0 ?gi1 PL.plain
  (case qc0=>k_is)
  (case pg0=>k_is)
  (case hd0=>k_is)
  (case po0=>k_is)
  (case sa0=>k_is)
  (case mk0=>k_is)
  (case kc0=>k_is)
  (case qc1=>k_is)
  (case pg1=>k_is)
  (case hd1=>k_is)
  (case po1=>k_is)
  (case sa1=>k_is)
  (case mk1=>k_is)
  (case kc1=>k_is)
  (case qc2=>k_is)
  (case pg2=>k_is)
  (case hd2=>k_is)
  (case po2=>k_is)
  (case sa2=>k_is)
  (case mk2=>k_is)
  (case kc2=>k_is)
  (case qc3=>k_is)
  (case pg3=>k_is)
  (case hd3=>k_is)
  (case po3=>k_is)
  (case sa3=>k_is)
  (case mk3=>k_is)
  (case kc3=>k_is)
  (case qc4=>k_is)
  (case pg4=>k_is)
  (case hd4=>k_is)
  (case po4=>k_is)
  (case sa4=>k_is)
  (case mk4=>k_is)
  (case kc4=>k_is)
  (case qc5=>k_is)
  (case pg5=>k_is)
  (case hd5=>k_is)
  (case po5=>k_is)
  (case sa5=>k_is)
  (case mk5=>k_is)
  (case kc5=>k_is)
  (case na0_2=>k_is)
  (case na0_3=>k_is)
  (case na0_4=>k_is)
  (case na1_12=>k_is)
  (case na1_13=>k_is)
  (case na2_28=>k_is)
  (case na2_29=>k_is)
  (case na3_19=>k_is)
  (case na3_20=>k_is)
  (case na3_42=>k_is)
  (case na3_43=>k_is)
  (case na4_47=>k_is)
  (case na4_48=>k_is)
  (case na4_49=>k_is)
  (case na5_19=>k_is)
  (case na5_51=>k_is)
  (case na5_59=>k_is)
  (case q0=>k_is)
  (case l0=>k_is)
  (case c0=>k_is)
  (case k0=>k_is)
  (case q1=>k_is)
  (case l1=>k_is)
  (case c1=>k_is)
  (case k1=>k_is)
  (case q2=>k_is)
  (case i2=>k_is)
  (case l2=>k_is)
  (case c2=>k_is)
  (case k2=>k_is)
  (case q3=>k_is)
  (case i3=>k_is)
  (case l3=>k_is)
  (case c3=>k_is)
  (case k3=>k_is)
  (case q4=>k_is)
  (case l4=>k_is)
  (case c4=>k_is)
  (case k4=>k_is)
  (case q5=>k_is)
  (case i5=>k_is)
  (case l5=>k_is)
  (case c5=>k_is)
  (case k5=>k_is)
  (case q6=>k_is)
  (case i6=>k_is)
  (case l6=>k_is)
  (case c6=>k_is)
  (case k6=>k_is)
  (case q7=>k_is)
  (case i7=>k_is)
  (case l7=>k_is)
  (case c7=>k_is)
  (case k7=>k_is)
  (case q8=>k_is)
  (case i8=>k_is)
  (case l8=>k_is)
  (case c8=>k_is)
  (case k8=>k_is)
  (case q9=>k_is)
  (case l9=>k_is)
  (case c9=>k_is)
  (case k9=>k_is)
  (case q10=>k_is)
  (case i10=>k_is)
  (case l10=>k_is)
  (case c10=>k_is)
  (case k10=>k_is)
  (case q11=>k_is)
  (case l11=>k_is)
  (case c11=>k_is)
  (case k11=>k_is)
  (case q12=>k_is)
  (case i12=>k_is)
  (case l12=>k_is)
  (case c12=>k_is)
  (case k12=>k_is)
  (case q13=>k_is)
  (case i13=>k_is)
  (case l13=>k_is)
  (case c13=>k_is)
  (case k13=>k_is)
  (case q14=>k_is)
  (case i14=>k_is)
  (case l14=>k_is)
  (case c14=>k_is)
  (case k14=>k_is)
  (case q15=>k_is)
  (case i15=>k_is)
  (case l15=>k_is)
  (case c15=>k_is)
  (case k15=>k_is)
  (case q16=>k_is)
  (case i16=>k_is)
  (case l16=>k_is)
  (case c16=>k_is)
  (case k16=>k_is)
  (case q17=>k_is)
  (case i17=>k_is)
  (case l17=>k_is)
  (case c17=>k_is)
  (case k17=>k_is)
  (case q18=>k_is)
  (case l18=>k_is)
  (case c18=>k_is)
  (case k18=>k_is)
  (case q19=>k_is)
  (case l19=>k_is)
  (case c19=>k_is)
  (case k19=>k_is)
  (case q20=>k_is)
  (case l20=>k_is)
  (case c20=>k_is)
  (case k20=>k_is)
  (case q21=>k_is)
  (case l21=>k_is)
  (case c21=>k_is)
  (case k21=>k_is)
  (case q22=>k_is)
  (case l22=>k_is)
  (case c22=>k_is)
  (case k22=>k_is)
  (case q23=>k_is)
  (case l23=>k_is)
  (case c23=>k_is)
  (case k23=>k_is)
  (case q24=>k_is)
  (case l24=>k_is)
  (case c24=>k_is)
  (case k24=>k_is)
  (case q25=>k_is)
  (case l25=>k_is)
  (case c25=>k_is)
  (case k25=>k_is)
  (case q26=>k_is)
  (case l26=>k_is)
  (case c26=>k_is)
  (case k26=>k_is)
  (case q27=>k_is)
  (case l27=>k_is)
  (case c27=>k_is)
  (case k27=>k_is)
  (case q28=>k_is)
  (case l28=>k_is)
  (case c28=>k_is)
  (case k28=>k_is)
  (case q29=>k_is)
  (case l29=>k_is)
  (case c29=>k_is)
  (case k29=>k_is)
  (case q30=>k_is)
  (case l30=>k_is)
  (case c30=>k_is)
  (case k30=>k_is)
  (case q31=>k_is)
  (case l31=>k_is)
  (case c31=>k_is)
  (case k31=>k_is)
  (case q32=>k_is)
  (case l32=>k_is)
  (case c32=>k_is)
  (case k32=>k_is)
  (case q33=>k_is)
  (case l33=>k_is)
  (case c33=>k_is)
  (case k33=>k_is)
  (case q34=>k_is)
  (case l34=>k_is)
  (case c34=>k_is)
  (case k34=>k_is)
  (case q35=>k_is)
  (case l35=>k_is)
  (case c35=>k_is)
  (case k35=>k_is)
  (case q36=>k_is)
  (case l36=>k_is)
  (case c36=>k_is)
  (case k36=>k_is)
  (case q37=>k_is)
  (case l37=>k_is)
  (case c37=>k_is)
  (case k37=>k_is)
  (case q38=>k_is)
  (case l38=>k_is)
  (case c38=>k_is)
  (case k38=>k_is)
  (case q39=>k_is)
  (case l39=>k_is)
  (case c39=>k_is)
  (case k39=>k_is)
  (case z0=>k_is)
  (case z1=>k_is)
  (case z2=>k_is)
  (case z3=>k_is)
  (case z4=>k_is)
  (case z5=>k_is)
  (case z6=>k_is)
  (case z7=>k_is)
  (case z8=>k_is)
  (case z9=>k_is)
  (case gi0=>exact ⟨_,by k_is⟩)
  (case gi1=>exact ⟨_,by k_is⟩)
#print axioms PySem.Challenge.cw_vouchdoor_k50_picks_of_a_wallet_holds
