import PyProof.Rows.All
import Wide.All
import OpenK.AllK
import Wide.FinOn
import HandS.ForMost
import HandS.IsInst
import HandS.Zip
import HandS.Star
import HandS.TupAny
import HandS.Strs
import HandS.Style
import HandS.WordsExc
import HandS.ExcIs
import HandS.HotCalls
import HandS.Text
import HandS.Flow
import KE.KTupSum
import KE.DataMinMax
import PyProof.Rows.SortWalkRead
import HandS.RaiseMore
import HandS.SlotsOwn
import KE.KEqNest
import KE.GoesNew
import KE.GoesEnum
import KE.KDictZip
import PyProof.ListNew
import KE.KExcSuper
import HandS.ExcInit
import KE.KExcIs
import HandS.ExcField
import HandS.Deep
import HandS.WordsDict
import KE.KDictKeyed
import HandS.Iter
import HandS.FStr
import HandS.Conv
import PyProof.MinMaxWalk
import KE.KEqDict
import HandS.Walk
import KE.KDictPairs
import HandS.Defaults
import HandS.Head0
import HandS.Head1
import HandS.Head2
import PySem.Challenge.RW_vouchdoor_k30_policies_read_and_written
set_option Elab.async false
set_option linter.all false
set_option maxRecDepth 100000
namespace DL
open PySem (Str)
/-- data: what a python value is,without addresses; own n: the mutable thing number n -/
inductive D where
 | non | bl (b : Bool) | int (i : Int) | str (s : Str)
 | tup (xs : List D) | lst (xs : List D)
 | ins (c : Nat) (fs : List (Nat × D))
 | dct (kvs : List (D × D))
 | own (n : Nat)
 | ext (ns : List Int)
 | tupz (xs : List D)
 | dtt (kvs : List (List Int × D))
 | kt (ws : List Str)
/-- the mutable things -/
inductive Cell where
 | lst (xs : List D) | ins (c : Nat) (fs : List (Nat × D)) | dct (kvs : List (D × D)) | dead
abbrev Wd:=List Cell
inductive R (A : Type) where
 | ok (a : A) (W : Wd)
 | ex (c : Nat) (p : D) (W : Wd)
 | st
def R.bind {A B : Type} (r : R A) (f : A → Wd → R B) : R B :=
 match r with
 | .ok a W=>f a W
 | .ex c p W=>.ex c p W
 | .st=>.st
/-- an answer is there and Q holds of it -/
def R.wp {A : Type} (r : R A) (x : Nat → D → Wd → Prop) (Q : A → Wd → Prop) : Prop :=
 match r with
 | .ok a W=>Q a W
 | .ex c p W=>x c p W
 | .st=>False
/-- nothing raised -/
def R.calm {A : Type} (r : R A) : R A :=
 match r with
 | .ok a W=>.ok a W
 | _=>.st
@[simp] theorem R.bind_ok {A B : Type} (a : A) (W : Wd) (f : A → Wd → R B) : (R.ok a W).bind f = f a W:=rfl
@[simp] theorem R.bind_ex {A B : Type} (c : Nat) (p : D) (W : Wd) (f : A → Wd → R B) : (R.ex c p W).bind f = .ex c p W:=rfl
@[simp] theorem R.bind_st {A B : Type} (f : A → Wd → R B) : (R.st).bind f = .st:=rfl
@[simp] theorem R.wp_ok {A : Type} {x : Nat → D → Wd → Prop} (a : A) (W : Wd) (Q : A → Wd → Prop) : (R.ok a W).wp x Q ↔ Q a W:=Iff.rfl
@[simp] theorem R.calm_ok {A : Type} (a : A) (W : Wd) : (R.ok a W).calm = .ok a W:=rfl
theorem R.wp_calm {A : Type} {x y : Nat → D → Wd → Prop} {r : R A} {Q : A → Wd → Prop} (h : r.calm.wp x Q) : r.wp y Q:=by
 cases r with
 | ok a W=>exact h
 | ex _ _ _=>exact h.elim
 | st=>exact h
theorem R.wp_bind {A B : Type} {x : Nat → D → Wd → Prop} (r : R A) (f : A → Wd → R B) (Q : B → Wd → Prop) : (r.bind f).wp x Q ↔ r.wp x fun a W=>(f a W).wp x Q:=by
 cases r <;> exact Iff.rfl
theorem R.wp_mono2 {A : Type} {x y : Nat → D → Wd → Prop} {r : R A} {Q Q' : A → Wd → Prop} (h : r.wp x Q) (j : ∀ c p W,x c p W → y c p W) (i : ∀ a W,Q a W → Q' a W) : r.wp y Q':=by
 cases r with
 | ok a W=>exact i a W h
 | ex _ _ _=>exact j _ _ _ h
 | st=>exact h
theorem R.wp_mono {A : Type} {x : Nat → D → Wd → Prop} {r : R A} {Q Q' : A → Wd → Prop} (h : r.wp x Q) (i : ∀ a W,Q a W → Q' a W) : r.wp x Q':=by
 cases r with
 | ok a W=>exact i a W h
 | ex _ _ _=>exact h
 | st=>exact h
theorem R.bind_assoc {A B C : Type} (r : R A) (f : A → Wd → R B) (g : B → Wd → R C) : (r.bind f).bind g = r.bind fun a W=>(f a W).bind g:=by
 cases r <;> rfl
/-- of a choice -/
def opt {A : Type} (o : Option A) (W : Wd) : R A :=
 match o with
 | some a=>.ok a W
 | none=>.st
@[simp] theorem zZX {A : Type} (a : A) (W : Wd) : opt (some a) W = .ok a W:=rfl
@[simp] theorem zZNu {A : Type} (W : Wd) : opt (none : Option A) W = .st:=rfl
/-- a name's place in a frame: nothing,data,a list of its own,an instance that is being made -/
inductive Slot where
 | no | val (d : D) | ol (xs : List D) | oi (c : Nat) (fs : List (Nat × D)) | xv (c : Nat) (p : D) | od (kvs : List (List Int × D))
abbrev Env:=List Slot
inductive Fl where
 | nx (e : Env) | rt (d : D) | bk (e : Env) | ct (e : Env)
/-- what the evaluator knows of the program -/
structure Cfg where
 call : Nat → List D → Wd → R D
 init : Nat → List D → Wd → R (List (Nat × D))
 meth : Nat → Nat → Option Nat
 cellc : Nat → Bool
 fld : Nat → Nat → Bool
 isc : Nat → Nat → Option Bool
 eqm : Nat → Nat → Option Nat
 dw : (W W' : Wd) → Decidable (W = W')
 xm : Nat → Nat → Option Bool
 xis : Nat → Nat → Option Bool
 xf : Nat → Option Nat
 xiv : Nat → Option Bool
 nem : Nat → Nat → Option Nat
inductive Op where
 | add | sub | mul | fdiv | mod | pow
inductive Cm where
 | eq | ne | lt | le | gt | ge | isN | notN | inn | notin | leS
/-- built-in classes,for isinstance -/
inductive Ty where
 | int | bool | str | list | tuple | dict
/-- built-in functions of one value -/
inductive B1 where
 | int | str | tuple | len | sum | any | all | max | min
mutual
inductive E where
 | non | bl (b : Bool) | int (i : Int) | str (s : Str)
 | var (i : Nat)
 | bin (op : Op) (a b : E)
 | neg (a : E)
 | cmp (op : Cm) (a b : E)
 | chain (o1 o2 : Cm) (a b c : E)
 | and (es : Es) | or (es : Es) | not (a : E)
 | ife (c a b : E)
 | fld (f : Nat) (a : E)
 | idx (a b : E)
 | sl (a : E) (lo hi : Oe)
 | tup (es : Es)
 | frz (f : Fe) | cell (f : Fe)
 | call (f : Nat) (es : Es)
 | make (c : Nat) (es : Es)
 | meth (m : Nat) (a : E) (es : Es)
 | b1 (b : B1) (a : E)
 | isi (a : E) (t : Ty)
 | isc (a : E) (c : Nat)
 | eqo (a b : E)
 | dget (a b : E)
 | join (a b : E)
 | gs (x s : Str)
 | gk (x : Str) (ws : List Str)
 | kin (neg : Bool) (a b : E)
 | inS (neg : Bool) (a b : E)
 | dof (a : E)
inductive Oe where
 | none | some (e : E)
inductive Es where
 | nil | cons (e : E) (es : Es) | star (e : E) (es : Es)
/-- what makes a new list -/
inductive Fe where
 | disp (es : Es)
 | of (e : E)
 | sl (a : E) (lo hi : Oe)
 | comp (elt : E) (t : Tg) (it : It) (ifs : Es)
 | cat (a b : Fe)
 | range (it : It)
 | scr (i : Nat)
 | add (a b : E)
 | rep (a b : E)
 | compC (elt : E) (t : Tg) (en : Bool) (a : E) (ifs : Es)
 | splt (a b : E)
/-- what a loop goes over -/
inductive It where
 | chs (e : E) | seq (e : E) | range1 (a : E)
/-- a target of names -/
inductive Tg where
 | nm (i : Nat) | tup (ts : Tgs)
inductive Tgs where
 | nil | cons (t : Tg) (ts : Tgs)
end
inductive S where
 | skip
 | seq (a b : S)
 | freeze (i : Nat)
 | asg (t : Tg) (e : E)
 | asgO (i : Nat) (f : Fe)
 | fld (f : Nat) (a e : E)
 | idx (a b e : E)
 | append (a e : E)
 | extend (a e : E)
 | expr (e : E)
 | ret (e : E)
 | ite (c : E) (a b : S)
 | forS (t : Tg) (it : It) (body : S)
 | whil (fuel : Nat) (c : E) (body : S)
 | pass
 | raisE (c : Nat) (e : E)
 | forC (t : Tg) (en : Bool) (a : E) (body : S)
 | augF (f i : Nat) (op : Op) (e : E)
def cap : Nat:=1000000
def limI : Nat:=18446744073709551616
def getV (e : Env) (i : Nat) : Option D :=
 match e[i]? with
 | some (.val d)=>some d
 | _=>none
def binD (op : Op) (x y : D) : Option D :=
 match op,x,y with
 | .add,.int i,.int j=>some (.int (i + j))
 | .add,.str i,.str j=>if i.length + j.length ≤ cap then some (.str (i ++ j)) else none
 | .add,.tup i,.tup j=>if i.length + j.length ≤ cap then some (.tup (i ++ j)) else none
 | .sub,.int i,.int j=>some (.int (i - j))
 | .mul,.int i,.int j=>if i.natAbs < limI ∨ j.natAbs < limI then some (.int (i * j)) else none
 | .fdiv,.int i,.int j=>if 0 < j ∧ j < 1073741824 then some (.int (i / j)) else none
 | .mod,.int i,.int j=>if 0 < j then some (.int (i % j)) else none
 | .pow,.int i,.int j=>if 0 ≤ j ∧ j ≤ 1000000 ∧ i.natAbs < limI then some (.int (i ^ j.toNat)) else none
 | _,_,_=>none
def flatD : D → Bool
 | .non=>true | .bl _=>true | .int _=>true | .str _=>true | _=>false
/-- == of two flat things of like kinds -/
def eqF : D → D → Option Bool
 | .non,.non=>some true
 | .non,.bl _=>some false | .non,.int _=>some false | .non,.str _=>some false
 | .bl _,.non=>some false | .int _,.non=>some false | .str _,.non=>some false
 | .bl a,.bl b=>some (decide (a = b))
 | .int a,.int b=>some (decide (a = b))
 | .str a,.str b=>some (decide (a = b))
 | .int _,.str _=>some false | .str _,.int _=>some false
 | .bl _,.str _=>some false | .str _,.bl _=>some false
 | _,_=>none
/-- plain data of at most n levels -/
def pd : Nat → D → Option PySem.PyData
 | _,.non=>some .none
 | _,.bl b=>some (.bool b)
 | _,.int i=>some (.int i)
 | _,.str s=>if PySem.PyData.strOk s then some (.str s) else none
 | n + 1,.tup xs=>(xs.mapM (pd n)).map .tuple
 | n + 1,.lst xs=>(xs.mapM (pd n)).map .list
 | _,_=>none
def eqD (x y : D) : Option Bool :=
 match eqF x y with
 | some b=>some b
 | none=>(pd 60 x).bind fun p=>(pd 60 y).map fun q=>PySem.PyData.eqv p q
/-- == of flat things -/
def eqVD : D → D → Bool
 | .non,.non=>true
 | .bl a,.bl b=>a == b
 | .bl a,.int b=>(if a then 1 else 0) == b
 | .int a,.bl b=>a == (if b then 1 else 0)
 | .int a,.int b=>a == b
 | .str a,.str b=>a == b
 | _,_=>false
def inD (x : D) (xs : List D) : Option Bool:=if flatD x && xs.all flatD then some (xs.any fun y=>eqVD y x) else none
def truD : D → Option Bool
 | .non=>some false
 | .bl b=>some b
 | .int i=>some (i != 0)
 | .lst xs=>some (!xs.isEmpty)
 | .tup xs=>some (!xs.isEmpty)
 | _=>none
/-- what may be read as a sequence: frozen items,the list of a place,a mutable list,a text -/
inductive Src where
 | frz (xs : List D) (d : D) | slot (i : Nat) (xs : List D) | cell (n : Nat) | str (s : Str)
def srcD : D → Option Src
 | .lst xs=>some (.frz xs (.lst xs))
 | .tup xs=>some (.frz xs (.tup xs))
 | .own n=>some (.cell n)
 | .str s=>some (.str s)
 | _=>none
def srcOf (a : E) (r : Env → Wd → R D) (e : Env) (W : Wd) : R Src :=
 match a with
 | .var i =>
  match e[i]? with
  | some (.ol xs)=>.ok (.slot i xs) W
  | some (.val d)=>opt (srcD d) W
  | _=>.st
 | _=>(r e W).bind fun d W=>opt (srcD d) W
def items (W : Wd) : Src → Option (List D)
 | .frz xs _=>some xs
 | .slot _ xs=>some xs
 | .cell n =>
  match W[n]? with
  | some (.lst xs)=>some xs
  | _=>none
 | .str s=>if s.length ≤ cap then some (s.cps.toList.map fun c=>.str ⟨#[c]⟩) else none
def Src.isStr : Src → Bool
 | .str _=>true | _=>false
def Src.isTup : Src → Bool
 | .frz _ (.tup _)=>true | _=>false
/-- what a loop may go over -/
def Src.isIt : Src → Bool
 | .frz _ _=>true | .slot _ _=>true | _=>false
/-- a list,to be changed or asked by a method -/
def Src.isSlot : Src → Bool
 | .slot _ _=>true | _=>false
def lstSrc (W : Wd) (s : Src) : Bool := !s.isStr && (!s.isTup && (items W s).isSome)
def inG (neg : Bool) (W : Wd) (x : D) (s : Src) : Option D:=if s.isStr then none else (items W s).bind fun xs=>(inD x xs).map fun k=>.bl (if neg then !k else k)
def objOf (a : E) (r : Env → Wd → R D) (e : Env) (W : Wd) : R (Nat × List (Nat × D)) :=
 match a with
 | .var i =>
  match e[i]? with
  | some (.oi c fs)=>.ok (c,fs) W
  | some (.val (.ins c fs))=>.ok (c,fs) W
  | some (.val (.own n))=>(match W[n]? with | some (.ins c fs)=>.ok (c,fs) W | _=>.st)
  | _=>.st
 | _=>(r e W).bind fun d W =>
  match d with
  | .ins c fs=>.ok (c,fs) W
  | .own n=>(match W[n]? with | some (.ins c fs)=>.ok (c,fs) W | _=>.st)
  | _=>.st
def fldD (g : Cfg) (f : Nat) (o : Nat × List (Nat × D)) : Option D:=if g.fld o.1 f then o.2.lookup f else none
def putFd (f : Nat) (d : D) : List (Nat × D) → List (Nat × D)
 | []=>[(f,d)]
 | (g,x) :: r=>if g = f then (g,d) :: r else (g,x) :: putFd f d r
def atD (xs : List D) (i : D) : Option D :=
 match i with
 | .int i=>L2.atI xs i
 | _=>none
def cmpD (op : Cm) (x y : D) : Option D :=
 match op,x,y with
 | .eq,x,y=>(eqD x y).map .bl
 | .ne,x,y=>(eqD x y).map fun b=>.bl (!b)
 | .lt,.int i,.int j=>some (.bl (decide (i < j)))
 | .le,.int i,.int j=>some (.bl (decide (i ≤ j)))
 | .leS,.str i,.str j=>some (.bl (!decide (j.cps.toList < i.cps.toList)))
 | .gt,.int i,.int j=>some (.bl (decide (j < i)))
 | .ge,.int i,.int j=>some (.bl (decide (j ≤ i)))
 | .isN,.non,.non=>some (.bl true)
 | .isN,.own _,.non=>some (.bl false)
 | .isN,x,.non=>some (.bl (match x with | .non=>true | _=>false))
 | .notN,x,.non=>some (.bl (match x with | .non=>false | _=>true))
 | .notN,.bl a,.bl b=>some (.bl (!decide (a = b)))
 | _,_,_=>none
def tyD : D → Ty → Option Bool
 | .non,_=>some false
 | .bl _,.bool=>some true | .bl _,.int=>some true | .bl _,_=>some false
 | .int _,.int=>some true | .int _,_=>some false
 | .str _,.str=>some true | .str _,_=>some false
 | .lst _,.list=>some true | .lst _,_=>some false
 | .tup _,.tuple=>some true | .tup _,_=>some false
 | _,_=>none
def intsD : List D → Option (List Int)
 | []=>some []
 | .int i :: r=>(intsD r).map (i :: ·)
 | _=>none
def truFl : D → Option Bool
 | .non=>some false | .bl b=>some b | .int i=>some (i != 0) | _=>none
def boolsD : List D → Option (List Bool)
 | []=>some []
 | d :: r =>
  match truFl d,boolsD r with
  | some a,some b=>some (a :: b)
  | _,_=>none
def maxI : Int → List Int → Int
 | m,[]=>m
 | m,x :: r=>maxI (if m < x then x else m) r
def minI : Int → List Int → Int
 | m,[]=>m
 | m,x :: r=>minI (if x < m then x else m) r
def strLen (i : Int) : Bool:=decide (i.natAbs < 1000000000000000000000)
def b1D (W : Wd) (b : B1) (s : Src) : Option D :=
 match b with
 | .len=>(items W s).map fun xs=>.int xs.length
 | .tuple=>if s.isStr then none else (items W s).map fun xs=>.tup xs
 | .sum=>if s.isStr then none else (items W s).bind fun xs=>(intsD xs).map fun l=>.int l.sum
 | .any=>if s.isStr then none else (items W s).bind fun xs=>(boolsD xs).map fun l=>.bl (l.any id)
 | .all=>if s.isStr then none else (items W s).bind fun xs=>(boolsD xs).map fun l=>.bl (l.all id)
 | .max=>if s.isStr then none else (items W s).bind fun xs=>(intsD xs).bind fun l=>match l with | []=>none | m :: r=>some (.int (maxI m r))
 | .min=>if s.isStr then none else (items W s).bind fun xs=>(intsD xs).bind fun l=>match l with | []=>none | m :: r=>some (.int (minI m r))
 | _=>none
def conv (b : B1) (d : D) : Option D :=
 match b,d with
 | .int,.int i=>some (.int i)
 | .int,.bl k=>some (.int (if k then 1 else 0))
 | .str,.int i=>if strLen i then some (.str (PySem.Str.ofString (toString i))) else none
 | .int,.str s=>if s.length ≤ 640 then (PySem.intText? s).map .int else none
 | .str,.str s=>some (.str s)
 | _,_=>none
def isConv : B1 → Bool
 | .int=>true | .str=>true | _=>false
def cutD (xs : List D) (lo hi : Option Int) : List D:=(xs.drop (HT.sIx xs.length 0 lo)).take (HT.sIx xs.length xs.length hi - HT.sIx xs.length 0 lo)
def rangeD (lo : Int) (n : Nat) : List D:=(List.range n).map fun (k : Nat)=>D.int (lo + (k : Int))
def smallI (i : Int) : Bool:=decide (-4611686018427387904 ≤ i) && decide (i < 4611686018427387904)
def enumD : Nat → List D → List D
 | _,[]=>[]
 | k,x :: r=>.tupz [.int k,x] :: enumD (k + 1) r
/-- list * int -/
def repR (s : Src) (d : D) (W : Wd) : R (List D):=match d with
 | .int n=>if s.isStr || s.isTup then .st else (opt (items W s) W).bind fun xs W=>if 0 ≤ n ∧ n.toNat ≤ cap ∧ xs.length * n.toNat ≤ cap then .ok (List.replicate n.toNat xs).flatten W else .st
 | _=>.st
def newCell (c : Cell) (W : Wd) : R D:=.ok (.own W.length) (W ++ [c])
mutual
def tgD : Tg → D → Env → Option Env
 | .nm i,d,e=>if i < e.length then some (e.set i (.val d)) else none
 | .tup ts,.tup xs,e=>tgsD ts xs e
 | .tup ts,.tupz xs,e=>tgsD ts xs e
 | .tup _,_,_=>none
def tgsD : Tgs → List D → Env → Option Env
 | .nil,[],e=>some e
 | .cons t ts,x :: xs,e=>(tgD t x e).bind fun e=>tgsD ts xs e
 | _,_,_=>none
end
mutual
def tgN : Tg → List Nat
 | .nm i=>[i]
 | .tup ts=>tgsN ts
def tgsN : Tgs → List Nat
 | .nil=>[]
 | .cons t ts=>tgN t ++ tgsN ts
end
def wipeE (e : Env) : List Nat → Env
 | []=>e
 | v :: vs=>(wipeE e vs).set v .no
/-- the loop of a comprehension -/
def compL (tg : D → Option Env) (tst elt : Env → Wd → R D) : List D → Wd → R (List D)
 | [],W=>.ok [] W
 | d :: ds,W=>(opt (tg d) W).bind fun e W=>(tst e W).calm.bind fun b W =>
  match b with
  | .bl true=>(elt e W).calm.bind fun x W=>(compL tg tst elt ds W).bind fun xs W=>.ok (x :: xs) W
  | .bl false=>compL tg tst elt ds W
  | _=>.st
abbrev Ky:=Sum Int Str
def keyD : D → Option Ky
 | .int i=>some (.inl i)
 | .str s=>some (.inr s)
 | _=>none
def keysD : List D → Option (List Ky)
 | []=>some []
 | d :: r=>(keyD d).bind fun k=>(keysD r).map (k :: ·)
def lookK (k : Ky) (kvs : List (D × D)) : Option D:=(kvs.find? fun p=>decide (keyD p.1 = some k)).map (·.2)
def dgetR (x y : D) (W : Wd) : R D:=match x with | .dct kvs=>opt ((keyD y).bind fun k=>lookK k kvs) W | _=>.st
def clsD (W : Wd) : D → Option Nat
 | .ins c _=>some c
 | .own n=>(match W[n]? with | some (.ins c _)=>some c | _=>none)
 | _=>none
def eqoR (g : Cfg) (x y : D) (W : Wd) : R D:=match clsD W x,clsD W y with
 | some c,some c'=>(match g.eqm c c' with | some f=>(g.call f [x,y] W).calm.bind fun d W=>(match d with | .bl b=>.ok (.bl b) W | _=>.st) | none=>.st)
 | _,_=>.st
/-- in a list of data -/
def indD (x : D) (xs : List D) : Option Bool:=(pd 60 x).bind fun d=>(xs.mapM (pd 59)).map fun ds=>ds.any fun z=>PySem.PyData.eqv z d
/-- a mutable list -/
def cellL (d : D) (W : Wd) : Option (Nat × List D):=match d with
 | .own n=>(match W[n]? with | some (.lst xs)=>some (n,xs) | _=>none)
 | _=>none
def strsD : List D → Option (List Str)
 | []=>some []
 | .str i :: r=>(strsD r).map (i :: ·)
 | _=>none
def isS : D → Bool
 | .str _=>true | _=>false
/-- texts: join,split,a sign in a text; a list or a tuple,the module's own too; dict(pairs) -/
def joinD (W : Wd) (x : D) (s : Src) : Option D:=match x with
 | .str a=>(items W s).bind fun xs=>(strsD xs).bind fun ys=>if (ys.map (·.length)).sum + ys.length * a.length ≤ 16777216 then some (.str (PySem.Txt.join a ys)) else none
 | _=>none
def splitD (x y : D) : Option (List D):=match x,y with
 | .str a,.str b=>if (b.length == 0) = false ∧ a.length + 2 ≤ cap then some ((PySem.Txt.split a b).map .str) else none
 | _,_=>none
def signD (neg : Bool) (x y : D) : Option D:=match x,y with
 | .str a,.str b=>match a.cps.toList with
  | [c]=>some (.bl (if neg then !decide (c ∈ b.cps.toList) else decide (c ∈ b.cps.toList)))
  | _=>none
 | _,_=>none
def charsD (x : D) : Option (List D):=match x with
 | .str s=>if s.length ≤ cap then some (s.cps.toList.map fun c=>.str ⟨#[c]⟩) else none
 | _=>none
def kinL (y : D) : Option (List D):=match y with
 | .kt ws=>some (ws.map .str)
 | .tup xs=>some xs
 | .lst xs=>some xs
 | _=>none
def kinD (neg : Bool) (x y : D) : Option D:=(kinL y).bind fun xs=>(indD x xs).map fun k=>.bl (if neg then !k else k)
def pairOf (x : D) : Option (D × D):=match x with
 | .tup [k,v]=>some (k,v)
 | _=>none
def dofD (x : D) : Option D:=match x with
 | .tup xs=>(xs.mapM pairOf).bind fun ps=>(keysD (ps.map (·.1))).bind fun ks=>if ks.Nodup ∧ ps.length ≤ cap then some (.dct ps) else none
 | _=>none
/-- a list stands as it stood -/
def ckL (g : Cfg) (n : Nat) (xs : List D) (W : Wd) : Bool:=decide (n < W.length) && @decide (W.set n (.lst xs) = W) (g.dw _ _)
def enC (en : Bool) (xs : List D) : List D:=if en then enumD 0 xs else xs
/-- a comprehension over a list that may be changed,but is not -/
def compKT (ck : Wd → Bool) (tg : D → Option Env) (tst elt : Env → Wd → R D) : List D → Wd → R (List D)
 | [],W=>if ck W then .ok [] W else .st
 | d :: ds,W=>if ck W then (opt (tg d) W).bind fun e W=>(tst e W).calm.bind fun b W =>
  match b with
  | .bl true=>(elt e W).calm.bind fun x W=>(compKT ck tg tst elt ds W).bind fun xs W=>.ok (x :: xs) W
  | .bl false=>compKT ck tg tst elt ds W
  | _=>.st
  else .st
mutual
def evE (g : Cfg) : E → Env → Wd → R D
 | .non,_,W=>.ok .non W
 | .bl b,_,W=>.ok (.bl b) W
 | .int i,_,W=>.ok (.int i) W
 | .str s,_,W=>.ok (.str s) W
 | .var i,e,W=>opt (getV e i) W
 | .bin op a b,e,W=>(evE g a e W).bind fun x W=>(evE g b e W).bind fun y W=>opt (binD op x y) W
 | .neg a,e,W=>(evE g a e W).bind fun x W=>match x with | .int i=>.ok (.int (-i)) W | _=>.st
 | .cmp .inn a b,e,W=>(evE g a e W).bind fun x W=>(srcOf b (evE g b) e W).bind fun s W=>opt (inG false W x s) W
 | .cmp .notin a b,e,W=>(evE g a e W).bind fun x W=>(srcOf b (evE g b) e W).bind fun s W=>opt (inG true W x s) W
 | .cmp op a b,e,W=>(evE g a e W).bind fun x W=>(evE g b e W).bind fun y W=>opt (cmpD op x y) W
 | .chain o1 o2 a b c,e,W=>(evE g a e W).bind fun x W=>(evE g b e W).bind fun y W=>(opt (cmpD o1 x y) W).bind fun k W =>
  match k with
  | .bl true=>(evE g c e W).bind fun z W=>opt (cmpD o2 y z) W
  | .bl false=>.ok (.bl false) W
  | _=>.st
 | .and es,e,W=>evAnd g es e W
 | .or es,e,W=>evOr g es e W
 | .not a,e,W=>(evE g a e W).bind fun x W=>(opt (truD x) W).bind fun k W=>.ok (.bl (!k)) W
 | .ife c a b,e,W=>(evE g c e W).bind fun x W=>(opt (truD x) W).bind fun k W=>if k then evE g a e W else evE g b e W
 | .fld f a,e,W=>(objOf a (evE g a) e W).bind fun o W=>opt (fldD g f o) W
 | .idx a b,e,W=>(srcOf a (evE g a) e W).bind fun s W=>(evE g b e W).bind fun i W=>opt ((items W s).bind fun xs=>atD xs i) W
 | .sl a lo hi,e,W=>(evE g a e W).bind fun x W=>(evO g lo e W).bind fun l W=>(evO g hi e W).bind fun h W =>
  match x with
  | .tup xs=>.ok (.tup (cutD xs l h)) W
  | .lst xs=>.ok (.lst (cutD xs l h)) W
  | .own n=>(match W[n]? with | some (.lst xs)=>.ok (.lst (cutD xs l h)) W | _=>.st)
  | _=>.st
 | .tup es,e,W=>(evEs g es e W).bind fun xs W=>if xs.length ≤ cap then .ok (.tup xs) W else .st
 | .frz f,e,W=>(evF g f e W).bind fun xs W=>.ok (.lst xs) W
 | .cell f,e,W=>(evF g f e W).bind fun xs W=>newCell (.lst xs) W
 | .call f es,e,W=>(evEs g es e W).bind fun xs W=>g.call f xs W
 | .make c es,e,W=>(evEs g es e W).bind fun xs W=>(g.init c xs W).bind fun fs W=>if g.cellc c then newCell (.ins c fs) W else .ok (.ins c fs) W
 | .meth m a es,e,W=>(evE g a e W).bind fun o W =>
  (match o with
   | .ins c fs=>if (fs.lookup m).isNone then opt (g.meth c m) W else .st
   | .own n=>(match W[n]? with | some (.ins c fs)=>if (fs.lookup m).isNone then opt (g.meth c m) W else .st | _=>.st)
   | _=>.st).bind fun f W=>(evEs g es e W).bind fun xs W=>g.call f (o :: xs) W
 | .b1 b a,e,W=>if isConv b then (evE g a e W).bind fun x W=>opt (conv b x) W else (srcOf a (evE g a) e W).bind fun s W=>opt (b1D W b s) W
 | .isi a t,e,W=>(evE g a e W).bind fun x W=>opt ((tyD x t).map .bl) W
 | .isc a c,e,W=>(objOf a (evE g a) e W).bind fun o W=>opt ((g.isc o.1 c).map .bl) W
 | .eqo a b,e,W=>(evE g a e W).bind fun x W=>(evE g b e W).bind fun y W=>eqoR g x y W
 | .dget a b,e,W=>(evE g a e W).bind fun x W=>(evE g b e W).bind fun y W=>dgetR x y W
 | .join a b,e,W=>(evE g a e W).bind fun x W=>if isS x then (srcOf b (evE g b) e W).bind fun s W=>if s.isStr then .st else opt (joinD W x s) W else .st
 | .gs _ s,_,W=>.ok (.str s) W
 | .gk _ ws,_,W=>.ok (.kt ws) W
 | .kin neg a b,e,W=>(evE g a e W).bind fun x W=>(evE g b e W).bind fun y W=>opt (kinD neg x y) W
 | .inS neg a b,e,W=>(evE g a e W).bind fun x W=>(evE g b e W).bind fun y W=>opt (signD neg x y) W
 | .dof a,e,W=>(evE g a e W).bind fun x W=>opt (dofD x) W
def evO (g : Cfg) : Oe → Env → Wd → R (Option Int)
 | .none,_,W=>.ok none W
 | .some a,e,W=>(evE g a e W).bind fun x W=>match x with | .int i=>.ok (some i) W | _=>.st
def evEs (g : Cfg) : Es → Env → Wd → R (List D)
 | .nil,_,W=>.ok [] W
 | .cons a es,e,W=>(evE g a e W).bind fun x W=>(evEs g es e W).bind fun xs W=>.ok (x :: xs) W
 | .star a es,e,W=>(evE g a e W).bind fun x W =>
  match x with
  | .tup ys=>(evEs g es e W).bind fun xs W=>.ok (ys ++ xs) W
  | .lst ys=>(evEs g es e W).bind fun xs W=>.ok (ys ++ xs) W
  | _=>.st
def evAnd (g : Cfg) : Es → Env → Wd → R D
 | .nil,_,_=>.st
 | .cons a .nil,e,W=>evE g a e W
 | .cons a es,e,W=>(evE g a e W).bind fun x W =>
  match x with
  | .bl true=>evAnd g es e W
  | .bl false=>.ok (.bl false) W
  | _=>.st
 | .star _ _,_,_=>.st
def evOr (g : Cfg) : Es → Env → Wd → R D
 | .nil,_,_=>.st
 | .cons a .nil,e,W=>evE g a e W
 | .cons a es,e,W=>(evE g a e W).bind fun x W =>
  match x with
  | .bl true=>.ok (.bl true) W
  | .bl false=>evOr g es e W
  | _=>.st
 | .star _ _,_,_=>.st
def evF (g : Cfg) : Fe → Env → Wd → R (List D)
 | .disp es,e,W=>(evEs g es e W).bind fun xs W=>if xs.length ≤ cap then .ok xs W else .st
 | .of a,e,W=>(srcOf a (evE g a) e W).bind fun s W=>if s.isStr then .st else opt (items W s) W
 | .sl a lo hi,e,W=>(srcOf a (evE g a) e W).bind fun s W=>(evO g lo e W).bind fun l W=>(evO g hi e W).bind fun h W =>
  if s.isStr || s.isTup then .st else opt ((items W s).map fun xs=>cutD xs l h) W
 | .comp elt t it ifs,e,W=>(evIt g it e W).bind fun ds W =>
  if ds.1.length ≤ cap then compL (fun d=>tgD t d (wipeE e (tgN t))) (evTs g ifs) (evE g elt) ds.1 W else .st
 | .cat a b,e,W=>(evF g a e W).bind fun xs W=>(evF g b e W).bind fun ys W=>if xs.length + ys.length ≤ cap then .ok (xs ++ ys) W else .st
 | .splt a b,e,W=>(evE g a e W).bind fun x W=>if isS x then (evE g b e W).bind fun y W=>opt (splitD x y) W else .st
 | .range it,e,W=>(evIt g it e W).bind fun ds W=>if ds.1.length ≤ cap then .ok ds.1 W else .st
 | .add a b,e,W=>(srcOf a (evE g a) e W).bind fun s W=>(srcOf b (evE g b) e W).bind fun s2 W=>if (s.isStr || s.isTup) || (s2.isStr || s2.isTup) then .st else (opt (items W s) W).bind fun xs W=>(opt (items W s2) W).bind fun ys W=>if xs.length + ys.length ≤ cap then .ok (xs ++ ys) W else .st
 | .rep a b,e,W=>(srcOf a (evE g a) e W).bind fun s W=>(evE g b e W).bind fun d W=>repR s d W
 | .scr i,e,W=>(match e[i]? with | some (.val (.ext ns))=>.ok (ns.map D.int) W | _=>.st)
 | .compC elt t en a ifs,e,W=>(evE g a e W).bind fun d W=>(opt (cellL d W) W).bind fun p W =>
  if (enC en p.2).length ≤ cap then compKT (ckL g p.1 p.2) (fun d=>tgD t d (wipeE e (tgN t))) (evTs g ifs) (evE g elt) (enC en p.2) W else .st
/-- a clause's tests -/
def evTs (g : Cfg) : Es → Env → Wd → R D
 | .nil,_,W=>.ok (.bl true) W
 | .cons a .nil,e,W=>(evE g a e W).bind fun x W=>(opt (truD x) W).bind fun k W=>.ok (.bl k) W
 | _,_,_=>.st
def evIt (g : Cfg) : It → Env → Wd → R (List D × Bool)
 | .chs a,e,W=>(evE g a e W).bind fun x W=>opt ((charsD x).map fun ds=>(ds,false)) W
 | .seq a,e,W=>(srcOf a (evE g a) e W).bind fun s W=>if s.isIt then opt ((items W s).map fun xs=>(xs,s.isSlot)) W else .st
 | .range1 a,e,W=>(evE g a e W).bind fun x W=>match x with | .int j=>if smallI j then .ok (rangeD 0 j.toNat,false) W else .st | _=>.st
end
/-- a for loop,from the items that are left -/
def forL (tg : D → Env → Option Env) (body : Env → Wd → R Fl) : List D → Env → Wd → R Fl
 | [],e,W=>.ok (.nx e) W
 | d :: ds,e,W=>(opt (tg d e) W).bind fun e W=>(body e W).bind fun f W =>
  match f with
  | .nx e=>forL tg body ds e W
  | .ct e=>forL tg body ds e W
  | .bk e=>.ok (.nx e) W
  | .rt d=>.ok (.rt d) W
/-- a for loop over a list that may be changed,but is not -/
def forK (ck : Wd → Bool) (tg : D → Env → Option Env) (body : Env → Wd → R Fl) : List D → Env → Wd → R Fl
 | [],e,W=>if ck W then .ok (.nx e) W else .st
 | d :: ds,e,W=>if ck W then (opt (tg d e) W).bind fun e W=>(body e W).bind fun f W =>
  match f with
  | .nx e=>forK ck tg body ds e W
  | .ct e=>forK ck tg body ds e W
  | .bk e=>.ok (.nx e) W
  | .rt d=>.ok (.rt d) W
  else .st
def whileL (c : Env → Wd → R D) (body : Env → Wd → R Fl) : Nat → Env → Wd → R Fl
 | 0,_,_=>.st
 | n + 1,e,W=>(c e W).bind fun x W=>(opt (truD x) W).bind fun k W =>
  if k then (body e W).bind fun f W =>
   match f with
   | .nx e=>whileL c body n e W
   | .ct e=>whileL c body n e W
   | .bk e=>.ok (.nx e) W
   | .rt d=>.ok (.rt d) W
  else .ok (.nx e) W
def setCell (n : Nat) (c : Cell) (W : Wd) : Wd:=W.set n c
def setAt (xs : List D) (i : D) (d : D) : Option (List D) :=
 match i with
 | .int i=>(L2.ixN xs.length i).map fun j=>xs.set j d
 | _=>none
def putList (s : Src) (xs : List D) (e : Env) (W : Wd) : R Fl :=
 match s with
 | .slot i _=>.ok (.nx (e.set i (.ol xs))) W
 | .cell n=>.ok (.nx e) (W.set n (.lst xs))
 | _=>.st
def exS (g : Cfg) : S → Env → Wd → R Fl
 | .skip,e,W=>.ok (.nx e) W
 | .pass,e,W=>.ok (.nx e) W
 | .seq a b,e,W=>(exS g a e W).bind fun f W=>match f with | .nx e=>exS g b e W | f=>.ok f W
 | .freeze i,e,W=>(match e[i]? with | some (.ol xs)=>.ok (.nx (e.set i (.val (.lst xs)))) W | some (.od kvs)=>.ok (.nx (e.set i (.val (.dtt kvs)))) W | some (.val _)=>.ok (.nx e) W | _=>.st)
 | .asg t a,e,W=>(evE g a e W).bind fun d W=>(opt (tgD t d e) W).bind fun e W=>.ok (.nx e) W
 | .asgO i f,e,W=>(evF g f e W).bind fun xs W=>if i < e.length then .ok (.nx (e.set i (.ol xs))) W else .st
 | .fld f a b,e,W=>(evE g b e W).bind fun d W =>
  (match a with
   | .var i =>
    match e[i]? with
    | some (.oi c fs)=>if g.fld c f && decide (fs.length < 100) then .ok (.nx (e.set i (.oi c (putFd f d fs)))) W else .st
    | some (.val (.own n))=>(match W[n]? with | some (.ins c fs)=>if g.fld c f && decide (fs.length < 100) then .ok (.nx e) (W.set n (.ins c (putFd f d fs))) else .st | _=>.st)
    | _=>.st
   | _=>.st)
 | .idx a b x,e,W=>(evE g x e W).bind fun d W=>(srcOf a (evE g a) e W).bind fun s W=>(evE g b e W).bind fun i W =>
  if s.isStr || s.isTup then .st else (opt ((items W s).bind fun xs=>setAt xs i d) W).bind fun ys W=>putList s ys e W
 | .append a x,e,W=>(srcOf a (evE g a) e W).bind fun s W=>if !lstSrc W s then .st else (evE g x e W).bind fun d W=>(opt (items W s) W).bind fun xs W=>if xs.length < cap then putList s (xs ++ [d]) e W else .st
 | .extend a x,e,W=>(srcOf a (evE g a) e W).bind fun s W=>if !lstSrc W s then .st else (srcOf x (evE g x) e W).bind fun s2 W=>(opt (items W s) W).bind fun xs W =>
  match s2 with
  | .frz ys _=>if xs.length + ys.length ≤ cap then putList s (xs ++ ys) e W else .st
  | _=>.st
 | .expr a,e,W=>(evE g a e W).bind fun _ W=>.ok (.nx e) W
 | .ret a,e,W=>(evE g a e W).bind fun d W=>.ok (.rt d) W
 | .ite c a b,e,W=>(evE g c e W).bind fun x W=>(opt (truD x) W).bind fun k W=>if k then exS g a e W else exS g b e W
 | .forS t it b,e,W=>(evIt g it e W).bind fun ds W=>if ds.2 then .st else forL (tgD t) (exS g b) ds.1 e W
 | .whil n c b,e,W=>whileL (evE g c) (exS g b) n e W
 | .raisE c a,e,W=>(evE g a e W).bind fun d W=>.ex c (.tup [d]) W
 | .forC t en a b,e,W=>(evE g a e W).bind fun d W=>(opt (cellL d W) W).bind fun p W=>forK (ckL g p.1 p.2) (tgD t) (exS g b) (enC en p.2) e W
 | .augF f i op a,e,W=>(match e[i]? with
  | some (.val (.own n))=>(match W[n]? with
   | some (.ins c fs)=>if g.fld c f then (opt (fs.lookup f) W).bind fun x W=>(evE g a e W).bind fun y W=>(opt (match x,y with | .int _,.int _=>binD op x y | _,_=>none) W).bind fun z W =>
    (match W[n]? with
     | some (.ins c' fs')=>if c' = c ∧ fs'.length < 100 then .ok (.nx e) (W.set n (.ins c (putFd f z fs'))) else .st
     | _=>.st) else .st
   | _=>.st)
  | _=>.st)
end DL
set_option maxRecDepth 100000
namespace DL
open PySem PySem.Spec PyProof.Rows
open L2 hiding St
/-- the program's tables: where the classes stand,the fields' names -/
structure Tb0 where
 ca : Nat → Addr
 fn : Nat → Str
 nA : Nat
 kl : Addr → List Int → Prop
 kt : Addr → List Str → Prop
 inj : ∀ i j,i < nA → j < nA → fn i = fn j → i = j
 xf : Nat → Nat
/-- a tuple whose object is known and bears no dict -/
def TupF (F : Hp) (a : Addr) (vs : List V) : Prop := ∃ o : Obj,o.dict = none ∧ F a = some (.frz o (.tup vs))
/-- an entry of a dict whose keys are tuples of whole numbers; the dict itself,by its object -/
def tEnt (x : List Int × Addr × Value) : DictEntry:=⟨reduceHash (Builtin.Tuple.tupleHashOf (x.1.map hashInt)),.ref x.2.1,x.2.2⟩
def dtO (a : Addr) (xs : List (List Int × Addr × Value)) (ep : Nat) : HO:=.ext fun h=>((a == sysModules) = false ∧ (xs.map (·.1)).Nodup) ∧ ∃ o es,h.get? a = some o ∧ o.ExactDict ∧ o.data = .dict es ep ∧ es.toList = xs.map tEnt
section
variable (B : Tb0) (F : Hp) (eta : List Addr)
mutual
inductive Rep : D → V → Prop where
 | non : Rep .non .non
 | bl (b : Bool) : Rep (.bl b) (.bl b)
 | int (i : Int) : Rep (.int i) (.int i)
 | str (s : Str) : Rep (.str s) (.str s)
 | tup {a : Addr} {xs : List D} {vs : List V} (h : TupF F a vs) (r : RepL xs vs) : Rep (.tup xs) (.ref a)
 | dct {a : Addr} {kvs : List (D × D)} {gs : List (Key × V)} (h : F a = some (.dK gs)) (r : RepK kvs gs) : Rep (.dct kvs) (.ref a)
 | tupz {a : Addr} {xs : List D} {vs : List V} (h : F a = some (.tup vs)) (r : RepL xs vs) : Rep (.tupz xs) (.ref a)
 | dtt {a : Addr} {ep : Nat} {kvs : List (List Int × D)} {xs : List (List Int × Addr × Value)} (h : F a = some (dtO a xs ep)) (r : RepT kvs xs) : Rep (.dtt kvs) (.ref a)
 | kt {a : Addr} {ws : List Str} (h : B.kt a ws) : Rep (.kt ws) (.ref a)
 | lst {a : Addr} {xs : List D} {vs : List V} (h : F a = some (.lst vs)) (r : RepL xs vs) : Rep (.lst xs) (.ref a)
 | ins {a dx : Addr} {c : Nat} {fs : List (Nat × D)} {gs : List (Str × V)} (h : F a = some (.ins (B.ca c) dx gs)) (r : RepF fs gs) : Rep (.ins c fs) (.ref a)
 | own {n : Nat} {a : Addr} (h : eta[n]? = some a) : Rep (.own n) (.ref a)
 | ext {a : Addr} {ns : List Int} (h : (∃ o,F a = some (.frz o (.lst (ns.map V.int)))) ∨ B.kl a ns) : Rep (.ext ns) (.ref a)
inductive RepK : List (D × D) → List (Key × V) → Prop where
 | nil : RepK [] []
 | cons {d x : D} {k : Key} {v : V} {ds : List (D × D)} {vs : List (Key × V)} (hk : keyD d = some k) (h : Rep x v) (t : RepK ds vs) : RepK ((d,x) :: ds) ((k,v) :: vs)
inductive RepT : List (List Int × D) → List (List Int × Addr × Value) → Prop where
 | nil : RepT [] []
 | cons {k : List Int} {d : D} {b : Addr} {u : Value} {v : V} {ds : List (List Int × D)} {xs : List (List Int × Addr × Value)} (hk : TupF F b (k.map V.int)) (h : Rep d v) (hu : RelV v u) (t : RepT ds xs) : RepT ((k,d) :: ds) ((k,b,u) :: xs)
inductive RepL : List D → List V → Prop where
 | nil : RepL [] []
 | cons {d : D} {v : V} {ds : List D} {vs : List V} (h : Rep d v) (t : RepL ds vs) : RepL (d :: ds) (v :: vs)
inductive RepF : List (Nat × D) → List (Str × V) → Prop where
 | nil : RepF [] []
 | cons {f : Nat} {d : D} {v : V} {ds : List (Nat × D)} {vs : List (Str × V)} (hf : f < B.nA) (h : Rep d v) (t : RepF ds vs) : RepF ((f,d) :: ds) ((B.fn f,v) :: vs)
end
end
def SubH (F F' : Hp) : Prop := ∀ a o,F a = some o → F' a = some o
theorem TupF.mono {F F' : Hp} {a : Addr} {vs : List V} (s : SubH F F') : TupF F a vs → TupF F' a vs:=fun ⟨o,h1,h2⟩=>⟨o,h1,s _ _ h2⟩
theorem TupF.sq {K : PySem.W.Frag} {F : Hp} {a : Addr} {vs : List V} : TupF F a vs → SqT K F a vs:=fun ⟨o,_,h⟩=>.inl (.inr ⟨o,h⟩)
theorem TupF.new {F : Hp} {a : Addr} {vs : List V} {o : Obj} (h : o.dict = none) : TupF (upd F a (.frz o (.tup vs))) a vs:=⟨o,h,upd_same⟩
theorem SubH.refl (F : Hp) : SubH F F:=fun _ _ h=>h
theorem SubH.trans {F G H : Hp} (a : SubH F G) (b : SubH G H) : SubH F H:=fun x o h=>b x o (a x o h)
section
variable {B : Tb0} {F F' F2 H H' H2 : Hp} {eta eta' eta2 : List Addr} {W W' W2 : Wd}
theorem zZCx {l l' : List Addr} {n : Nat} {a : Addr} (p : l <+: l') (h : l[n]? = some a) : l'[n]? = some a:=by
 obtain ⟨t,rfl⟩:=p
 have hn : n < l.length:=(List.getElem?_eq_some_iff.mp h).1
 rw [List.getElem?_append_left hn]; exact h
mutual
theorem Rep.mono (s : SubH F F') (p : eta <+: eta') : ∀ {d : D} {v : V},Rep B F eta d v → Rep B F' eta' d v
 | _,_,.non=>.non
 | _,_,.bl b=>.bl b
 | _,_,.int i=>.int i
 | _,_,.str z=>.str z
 | _,_,.tup h r=>.tup (h.mono s) (RepL.mono s p r)
 | _,_,.tupz h r=>.tupz (s _ _ h) (RepL.mono s p r)
 | _,_,.dtt h r=>.dtt (s _ _ h) (RepT.mono s p r)
 | _,_,.kt h=>.kt h
 | _,_,.dct h r=>.dct (s _ _ h) (RepK.mono s p r)
 | _,_,.lst h r=>.lst (s _ _ h) (RepL.mono s p r)
 | _,_,.ins h r=>.ins (s _ _ h) (RepF.mono s p r)
 | _,_,.own h=>.own (zZCx p h)
 | _,_,.ext h=>.ext (h.imp (fun ⟨o,q⟩=>⟨o,s _ _ q⟩) id)
theorem RepK.mono (s : SubH F F') (p : eta <+: eta') : ∀ {d : List (D × D)} {v : List (Key × V)},RepK B F eta d v → RepK B F' eta' d v
 | _,_,.nil=>.nil
 | _,_,.cons hk h t=>.cons hk (Rep.mono s p h) (RepK.mono s p t)
theorem RepT.mono (s : SubH F F') (p : eta <+: eta') : ∀ {d : List (List Int × D)} {v : List (List Int × Addr × Value)},RepT B F eta d v → RepT B F' eta' d v
 | _,_,.nil=>.nil
 | _,_,.cons hk h hu t=>.cons (hk.mono s) (Rep.mono s p h) hu (RepT.mono s p t)
theorem RepL.mono (s : SubH F F') (p : eta <+: eta') : ∀ {d : List D} {v : List V},RepL B F eta d v → RepL B F' eta' d v
 | _,_,.nil=>.nil
 | _,_,.cons h t=>.cons (Rep.mono s p h) (RepL.mono s p t)
theorem RepF.mono (s : SubH F F') (p : eta <+: eta') : ∀ {d : List (Nat × D)} {v : List (Str × V)},RepF B F eta d v → RepF B F' eta' d v
 | _,_,.nil=>.nil
 | _,_,.cons hf h t=>.cons hf (Rep.mono s p h) (RepF.mono s p t)
end
theorem RepL.length : ∀ {d : List D} {v : List V},RepL B F eta d v → d.length = v.length
 | _,_,.nil=>rfl
 | _,_,.cons _ t=>by simp [RepL.length t]
theorem RepF.length : ∀ {d : List (Nat × D)} {v : List (Str × V)},RepF B F eta d v → d.length = v.length
 | _,_,.nil=>rfl
 | _,_,.cons _ _ t=>by simp [RepF.length t]
theorem RepL.get : ∀ {d : List D} {v : List V} {i : Nat} {x : D},RepL B F eta d v → d[i]? = some x → ∃ y,v[i]? = some y ∧ Rep B F eta x y
 | _,_,_,_,.nil,e=>by simp at e
 | _,_,0,_,.cons h _,e=>by simp at e; subst e; exact ⟨_,rfl,h⟩
 | _,_,i + 1,x,.cons _ t,e=>by
  obtain ⟨y,h1,h2⟩:=RepL.get (i:=i) (x:=x) t (by simpa using e)
  exact ⟨y,by simpa using h1,h2⟩
theorem RepL.append : ∀ {d d2 : List D} {v v2 : List V},RepL B F eta d v → RepL B F eta d2 v2 → RepL B F eta (d ++ d2) (v ++ v2)
 | _,_,_,_,.nil,q=>q
 | _,_,_,_,.cons h t,q=>.cons h (RepL.append t q)
theorem RepL.set {x : D} {y : V} (r : Rep B F eta x y) : ∀ {d : List D} {v : List V} (i : Nat),RepL B F eta d v → RepL B F eta (d.set i x) (v.set i y)
 | _,_,_,.nil=>.nil
 | _,_,0,.cons _ t=>.cons r t
 | _,_,i + 1,.cons h t=>.cons h (RepL.set r i t)
theorem RepL.take : ∀ {d : List D} {v : List V} (n : Nat),RepL B F eta d v → RepL B F eta (d.take n) (v.take n)
 | _,_,0,_=>.nil
 | _,_,_ + 1,.nil=>.nil
 | _,_,n + 1,.cons h t=>.cons h (RepL.take n t)
theorem RepL.drop : ∀ {d : List D} {v : List V} (n : Nat),RepL B F eta d v → RepL B F eta (d.drop n) (v.drop n)
 | _,_,0,r=>r
 | _,_,_ + 1,.nil=>.nil
 | _,_,n + 1,.cons _ t=>RepL.drop n t
theorem RepL.atI {d : List D} {v : List V} {i : Int} {x : D} (r : RepL B F eta d v) (h : L2.atI d i = some x) : ∃ y,L2.atI v i = some y ∧ Rep B F eta x y:=by
 unfold L2.atI at *
 rw [← r.length]
 cases q : ixN d.length i with
 | none=>rw [q] at h; cases h
 | some j =>
  rw [q] at h
  simp only [Option.bind_some] at h ⊢
  exact r.get h
theorem RepF.lookup : ∀ {d : List (Nat × D)} {v : List (Str × V)} {f : Nat} {x : D},f < B.nA → RepF B F eta d v → d.lookup f = some x → ∃ y,v.lookup (B.fn f) = some y ∧ Rep B F eta x y
 | _,_,f,x,_,.nil,e=>by simp at e
 | _,_,f,x,hf,.cons (f:=g) hg h t,e=>by
  rw [List.lookup_cons] at e
  rw [List.lookup_cons]
  by_cases hq : f = g
  ·subst hq
   simp at e
   subst e
   exact ⟨_,by simp,h⟩
  ·have h1 : (f == g) = false:=by simpa using hq
   have h2 : (B.fn f == B.fn g) = false:=by
    have : B.fn f ≠ B.fn g:=fun z=>hq (B.inj _ _ hf hg z)
    simpa using this
   rw [h1] at e
   rw [h2]
   exact RepF.lookup hf t e
theorem RepF.lookup_none : ∀ {d : List (Nat × D)} {v : List (Str × V)} {f : Nat},f < B.nA → RepF B F eta d v → d.lookup f = none → v.lookup (B.fn f) = none
 | _,_,f,_,.nil,e=>by simp
 | _,_,f,hf,.cons (f:=g) hg h t,e=>by
  rw [List.lookup_cons] at e
  rw [List.lookup_cons]
  by_cases hq : f = g
  ·subst hq
   simp at e
  ·have h1 : (f == g) = false:=by simpa using hq
   have h2 : (B.fn f == B.fn g) = false:=by
    have : B.fn f ≠ B.fn g:=fun z=>hq (B.inj _ _ hf hg z)
    simpa using this
   rw [h1] at e
   rw [h2]
   exact RepF.lookup_none hf t e
theorem RepF.put {f : Nat} {x : D} {y : V} (hf : f < B.nA) (r : Rep B F eta x y) : ∀ {d : List (Nat × D)} {v : List (Str × V)},RepF B F eta d v → RepF B F eta (putFd f x d) (putF (B.fn f) y v)
 | _,_,.nil=>.cons hf r .nil
 | _,_,.cons (f:=g) hg h t=>by
  unfold putFd putF
  by_cases hq : g = f
  ·subst hq
   rw [if_pos rfl,if_pos rfl]
   exact .cons hg r t
  ·have : ¬ B.fn g = B.fn f:=fun z=>hq (B.inj _ _ hg hf z)
   rw [if_neg hq,if_neg this]
   exact .cons hg h (RepF.put hf r t)
/-- what a cell stands for -/
def CellRep (B : Tb0) (F : Hp) (eta : List Addr) (H : Hp) (a : Addr) : Cell → Prop
 | .lst xs => ∃ vs,H a = some (.lst vs) ∧ RepL B F eta xs vs
 | .ins c fs => ∃ dx gs,H a = some (.ins (B.ca c) dx gs) ∧ RepF B F eta fs gs
 | .dct kvs => ∃ gs,H a = some (.dK gs) ∧ RepK B F eta kvs gs
 | .dead=>H a ≠ none
theorem CellRep.there {a : Addr} {c : Cell} (h : CellRep B F eta H a c) : H a ≠ none:=by
 cases c with
 | lst xs=>obtain ⟨vs,e,_⟩:=h; rw [e]; simp
 | ins c fs=>obtain ⟨_,_,e,_⟩:=h; rw [e]; simp
 | dct _=>obtain ⟨gs,e,_⟩:=h; rw [e]; simp
 | dead=>exact h
structure OkH (B : Tb0) (F : Hp) (eta : List Addr) (W : Wd) (H : Hp) : Prop where
 sub : SubH F H
 cF : ∀ a,a ∈ eta → F a = none
 nd : eta.Nodup
 len : eta.length = W.length
 cell : ∀ (n : Nat) a c,eta[n]? = some a → W[n]? = some c → CellRep B F eta H a c
theorem OkH.there (o : OkH B F eta W H) {a : Addr} (h : a ∈ eta) : H a ≠ none:=by
 obtain ⟨n,hn,e⟩:=List.mem_iff_getElem.mp h
 have h1 : eta[n]? = some a:=by rw [List.getElem?_eq_getElem hn,e]
 have h2 : n < W.length:=by rw [← o.len]; exact hn
 exact (o.cell n a W[n] h1 (List.getElem?_eq_getElem h2)).there
theorem OkH.notF (o : OkH B F eta W H) {a : Addr} (h : H a = none) : F a = none:=by
 cases q : F a with
 | none=>rfl
 | some u=>rw [o.sub a u q] at h; cases h
theorem OkH.notE (o : OkH B F eta W H) {a : Addr} (h : H a = none) : a ∉ eta:=fun z=>o.there z h
/-- what is kept from one heap to a later one -/
structure Ext (F : Hp) (eta : List Addr) (H F' : Hp) (eta' : List Addr) (H' : Hp) : Prop where
 sub : SubH F F'
 pre : eta <+: eta'
 keep : ∀ a o,H a = some o → a ∉ eta → H' a = some o
 newF : ∀ a,F' a ≠ none → F a ≠ none ∨ H a = none
 newE : ∀ a,a ∈ eta' → a ∈ eta ∨ H a = none
theorem Ext.refl (F : Hp) (eta : List Addr) (H : Hp) : Ext F eta H F eta H :=
 ⟨SubH.refl _,List.prefix_refl _,fun _ _ h _=>h,fun _ h=>.inl h,fun _ h=>.inl h⟩
theorem Ext.there (x : Ext F eta H F' eta' H') (o : OkH B F eta W H) (o' : OkH B F' eta' W' H') {a : Addr} (h : H' a = none) : H a = none:=by
 cases q : H a with
 | none=>rfl
 | some u =>
  by_cases hm : a ∈ eta
  ·exact absurd h (o'.there (x.pre.subset hm))
  ·rw [x.keep a u q hm] at h; cases h
theorem Ext.trans (o : OkH B F eta W H) (o' : OkH B F' eta' W' H') (x : Ext F eta H F' eta' H') (y : Ext F' eta' H' F2 eta2 H2) : Ext F eta H F2 eta2 H2 where
 sub:=x.sub.trans y.sub
 pre:=x.pre.trans y.pre
 keep:=fun a u h hn=>y.keep a u (x.keep a u h hn) fun z=>by
  rcases x.newE a z with q | q
  ·exact hn q
  ·rw [h] at q; cases q
 newF:=fun a h=>by
  rcases y.newF a h with q | q
  ·exact x.newF a q
  ·exact .inr (x.there o o' q)
 newE:=fun a h=>by
  rcases y.newE a h with q | q
  ·exact x.newE a q
  ·exact .inr (x.there o o' q)
theorem Ext.there' {B : Tb0} {F F' H H' : Hp} {eta eta' : List Addr} {W' : Wd} (x : Ext F eta H F' eta' H') (o' : OkH B F' eta' W' H') {a : Addr} (h : H' a = none) : H a = none:=by
 cases q : H a with
 | none=>rfl
 | some u =>
  by_cases hm : a ∈ eta
  ·exact absurd h (o'.there (x.pre.subset hm))
  ·rw [x.keep a u q hm] at h; cases h
theorem Ext.trans' {B : Tb0} {F F' F2 H H' H2 : Hp} {eta eta' eta2 : List Addr} {W' : Wd} (o : True) (o' : OkH B F' eta' W' H') (x : Ext F eta H F' eta' H') (y : Ext F' eta' H' F2 eta2 H2) : Ext F eta H F2 eta2 H2:=by
 have there : ∀ a,H' a = none → H a = none:=fun a h=>by
  cases q : H a with
  | none=>rfl
  | some u =>
   by_cases hm : a ∈ eta
   ·exact absurd h (o'.there (x.pre.subset hm))
   ·rw [x.keep a u q hm] at h; cases h
 refine ⟨x.sub.trans y.sub,x.pre.trans y.pre,fun a u h hn=>y.keep a u (x.keep a u h hn) fun z => ?_,fun a h => ?_,fun a h => ?_⟩
 ·rcases x.newE a z with q | q
  ·exact hn q
  ·rw [h] at q; cases q
 ·rcases y.newF a h with q | q
  ·exact x.newF a q
  ·exact .inr (there a q)
 ·rcases y.newE a h with q | q
  ·exact x.newE a q
  ·exact .inr (there a q)
/-- the tables; where an exception stands that is handled,its class; what is wished of an exception that is raised; where the wish began: slots that are kept,heap -/
structure Tb extends Tb0 where
 xa : Addr
 xc : Nat
 xd : Option Addr
 xq : Nat → D → Wd → Prop
 wx : WX
 xk : List Nat
 xn : Nat
 xs : L2.St
 xF : Hp
 xeta : List Addr
 xH : Hp
/-- nothing is wished of exceptions -/
def Tb.mute (B : Tb) : Tb:={ B with xq:=fun _ _ _=>False,wx:=fun _ _ _ _=>False }
instance : Coe Tb Tb0:=⟨Tb.toTb0⟩
def XPay (B : Tb0) (F : Hp) (eta : List Addr) (H : Hp) (c : Nat) (p : D) (d : Option Addr) : Prop:=(p = .non ∧ d = none) ∨ ∃ (x : D) (v : V) (dd : Addr),p = .tup [x] ∧ d = some dd ∧ H dd = some (.xd [(B.fn (B.xf c),v)]) ∧ Rep B F eta x v ∧ dd ∉ eta
theorem XPay.ext {B : Tb0} {F F' H H' : Hp} {eta eta' : List Addr} {c : Nat} {p : D} {d : Option Addr} (h : XPay B F eta H c p d) (x : Ext F eta H F' eta' H') : XPay B F' eta' H' c p d:=by
 rcases h with h | ⟨y,v,dd,h1,h2,h3,h4,h5⟩
 ·exact .inl h
 ·refine .inr ⟨y,v,dd,h1,h2,x.keep dd _ h3 h5,h4.mono x.sub x.pre,fun z => ?_⟩
  rcases x.newE dd z with q | q
  ·exact h5 q
  ·rw [h3] at q; cases q
theorem XPay.write {B : Tb0} {F H : Hp} {eta : List Addr} {c : Nat} {p : D} {d : Option Addr} {a : Addr} {o : HO} (h : XPay B F eta H c p d) (ha : ∀ fs,H a ≠ some (.xd fs)) : XPay B F eta (upd H a o) c p d:=by
 rcases h with h | ⟨y,v,dd,h1,h2,h3,h4,h5⟩
 ·exact .inl h
 ·refine .inr ⟨y,v,dd,h1,h2, ?_,h4,h5⟩
  have : dd ≠ a:=fun z=>ha _ (by rw [← z]; exact h3)
  rw [upd_ne this]
  exact h3
def Slot.owned : Slot → Bool
 | .ol _=>true | .oi _ _=>true | .od _=>true | _=>false
def SlotRep (B : Tb) (F : Hp) (eta : List Addr) (H : Hp) (sg : L2.St) (i : Nat) : Slot → Prop
 | .no=>True
 | .val d => ∃ v,sg[i]? = some (some v) ∧ Rep B F eta d v
 | .ol xs => ∃ a vs,sg[i]? = some (some (V.ref a)) ∧ H a = some (.lst vs) ∧ RepL B F eta xs vs ∧ F a = none ∧ a ∉ eta
 | .oi c fs => ∃ a dx gs,sg[i]? = some (some (V.ref a)) ∧ H a = some (.ins (B.ca c) dx gs) ∧ RepF B F eta fs gs ∧ F a = none ∧ a ∉ eta
 | .od kvs => ∃ a xs ep,sg[i]? = some (some (V.ref a)) ∧ H a = some (dtO a xs ep) ∧ RepT B F eta kvs xs ∧ F a = none ∧ a ∉ eta
 | .xv c p=>sg[i]? = some (some (V.ref B.xa)) ∧ c = B.xc ∧ XPay B.toTb0 F eta H c p B.xd
structure Stt (B : Tb) (e : Env) (W : Wd) (sg : L2.St) (H F : Hp) (eta : List Addr) : Prop where
 ok : OkH B F eta W H
 len : e.length = sg.length
 sl : ∀ (i : Nat) (s : Slot),e[i]? = some s → SlotRep B F eta H sg i s
 un : ∀ (i j : Nat) (si sj : Slot) (a : Addr),e[i]? = some si → e[j]? = some sj → si.owned = true → sj.owned = true → sg[i]? = some (some (V.ref a)) → sg[j]? = some (some (V.ref a)) → i = j
 xr : ∀ i ∈ B.xk,sg[i]? = B.xs[i]?
 xl : sg.length = B.xn
 xx : Ext B.xF B.xeta B.xH F eta H
variable {e : Env} {sg : L2.St}
theorem Stt.ext {B : Tb} (s : Stt B e W sg H F eta) (x : Ext F eta H F' eta' H') (o : OkH B F' eta' W' H') : Stt B e W' sg H' F' eta':=by
 refine ⟨o,s.len,fun i z h => ?_,s.un,s.xr,s.xl,Ext.trans' trivial s.ok s.xx x⟩
 have q:=s.sl i z h
 have nF : ∀ {a : Addr} {u : HO},H a = some u → F a = none → F' a = none:=fun {a u} h1 h2=>by
  cases q : F' a with
  | none=>rfl
  | some w =>
   rcases x.newF a (by rw [q]; simp) with z | z
   ·exact absurd h2 z
   ·rw [h1] at z; cases z
 have nE : ∀ {a : Addr} {u : HO},H a = some u → a ∉ eta → a ∉ eta':=fun {a u} h1 h2 z=>by
  rcases x.newE a z with q | q
  ·exact h2 q
  ·rw [h1] at q; cases q
 cases z with
 | no=>trivial
 | val d =>
  obtain ⟨v,h1,h2⟩:=q
  exact ⟨v,h1,h2.mono x.sub x.pre⟩
 | ol xs =>
  obtain ⟨a,vs,h1,h2,h3,h4,h5⟩:=q
  exact ⟨a,vs,h1,x.keep a _ h2 h5,h3.mono x.sub x.pre,nF h2 h4,nE h2 h5⟩
 | oi c fs =>
  obtain ⟨a,dx,gs,h1,h2,h3,h4,h5⟩:=q
  exact ⟨a,dx,gs,h1,x.keep a _ h2 h5,h3.mono x.sub x.pre,nF h2 h4,nE h2 h5⟩
 | od kvs =>
  obtain ⟨a,xs,ep,h1,h2,h3,h4,h5⟩:=q
  exact ⟨a,xs,ep,h1,x.keep a _ h2 h5,h3.mono x.sub x.pre,nF h2 h4,nE h2 h5⟩
 | xv c p=>exact ⟨q.1,q.2.1,q.2.2.ext x⟩
theorem Stt.mute {B : Tb} (s : Stt B e W sg H F eta) : Stt B.mute e W sg H F eta:=⟨s.ok,s.len,s.sl,s.un,s.xr,s.xl,s.xx⟩
/-- a new object that is not frozen -/
theorem OkH.new (o : OkH B F eta W H) {p : Addr} {u : HO} (hp : H p = none) : OkH B F eta W (upd H p u):=by
 refine ⟨fun a w h => ?_,o.cF,o.nd,o.len,fun n a c h1 h2 => ?_⟩
 ·have : a ≠ p:=ne_of_none (o.sub a w h) hp
  rw [upd_ne this]; exact o.sub a w h
 ·have hm : a ∈ eta:=List.mem_of_getElem? h1
  have hne : a ≠ p:=fun z=>o.there hm (by rw [z]; exact hp)
  have q:=o.cell n a c h1 h2
  cases c with
  | lst xs=>obtain ⟨vs,e,r⟩:=q; exact ⟨vs,by rw [upd_ne hne]; exact e,r⟩
  | ins c fs=>obtain ⟨dx,gs,e,r⟩:=q; exact ⟨dx,gs,by rw [upd_ne hne]; exact e,r⟩
  | dct kvs=>obtain ⟨gs,e,r⟩:=q; exact ⟨gs,by rw [upd_ne hne]; exact e,r⟩
  | dead=>show upd H p u a ≠ none; rw [upd_ne hne]; exact q
theorem Ext.new {p : Addr} {u : HO} (hp : H p = none) : Ext F eta H F eta (upd H p u) :=
 ⟨SubH.refl _,List.prefix_refl _,fun a o h _=>by rw [upd_ne (ne_of_none h hp)]; exact h,fun _ h=>.inl h,fun _ h=>.inl h⟩
theorem CellRep.monoF {a : Addr} {c : Cell} (s : SubH F F') (p : eta <+: eta') (h : CellRep B F eta H a c) : CellRep B F' eta' H a c:=by
 cases c with
 | lst xs=>obtain ⟨vs,e,r⟩:=h; exact ⟨vs,e,r.mono s p⟩
 | ins c fs=>obtain ⟨dx,gs,e,r⟩:=h; exact ⟨dx,gs,e,r.mono s p⟩
 | dct kvs=>obtain ⟨gs,e,r⟩:=h; exact ⟨gs,e,r.mono s p⟩
 | dead=>exact h
/-- an object of the heap is frozen -/
theorem OkH.frz (o : OkH B F eta W H) {p : Addr} {u : HO} (hp : H p = some u) (hF : F p = none) (hE : p ∉ eta) : OkH B (upd F p u) eta W H:=by
 have s : SubH F (upd F p u):=fun a w h=>by rw [upd_ne (ne_of_none h hF)]; exact h
 refine ⟨fun a w h => ?_,fun a h => ?_,o.nd,o.len,fun n a c h1 h2=>(o.cell n a c h1 h2).monoF s (List.prefix_refl _)⟩
 ·by_cases e : a = p
  ·subst e; rw [upd_same] at h; cases h; exact hp
  ·rw [upd_ne e] at h; exact o.sub a w h
 ·rw [upd_ne (fun z=>hE (by rw [← z]; exact h))]; exact o.cF a h
theorem zZr {p : Addr} {u : HO} (hF : F p = none) : SubH F (upd F p u):=fun a w h=>by rw [upd_ne (ne_of_none h hF)]; exact h
/-- a new object,frozen at once -/
theorem OkH.newF (o : OkH B F eta W H) {p : Addr} {u : HO} (hp : H p = none) : OkH B (upd F p u) eta W (upd H p u) :=
 (o.new hp).frz upd_same (o.notF hp) (o.notE hp)
theorem Ext.newFz (o : OkH B F eta W H) {p : Addr} {u : HO} (hp : H p = none) : Ext F eta H (upd F p u) eta (upd H p u) :=
 ⟨zZr (o.notF hp),List.prefix_refl _,fun a w h _=>by rw [upd_ne (ne_of_none h hp)]; exact h,fun a h=>by
  by_cases e : a = p
  ·subst e; exact .inr hp
  ·rw [upd_ne e] at h; exact .inl h,fun _ h=>.inl h⟩
/-- a tracked object that no one else holds becomes a cell -/
theorem OkH.toCell (o : OkH B F eta W H) {p : Addr} {c : Cell} (hF : F p = none) (hE : p ∉ eta) (hc : CellRep B F (eta ++ [p]) H p c) : OkH B F (eta ++ [p]) (W ++ [c]) H:=by
 refine ⟨o.sub,fun a h => ?_, ?_,by simp [o.len],fun n a d h1 h2 => ?_⟩
 ·rcases List.mem_append.mp h with h | h
  ·exact o.cF a h
  ·rw [List.mem_singleton.mp h]; exact hF
 ·rw [List.nodup_append]
  exact ⟨o.nd,by simp,fun a ha b hb=>by rw [List.mem_singleton.mp hb]; intro z; exact hE (by rw [← z]; exact ha)⟩
 ·by_cases hn : n < eta.length
  ·rw [List.getElem?_append_left hn] at h1
   rw [List.getElem?_append_left (by rw [← o.len]; exact hn)] at h2
   exact (o.cell n a d h1 h2).monoF (SubH.refl _) (List.prefix_append _ _)
  ·have e : n = eta.length:=by
    have:=(List.getElem?_eq_some_iff.mp h1).1
    simp at this; omega
   subst e
   rw [List.getElem?_append_right (Nat.le_refl _)] at h1
   rw [List.getElem?_append_right (by rw [o.len]; exact Nat.le_refl _)] at h2
   rw [o.len] at h2
   simp only [o.len,Nat.sub_self,List.getElem?_cons_zero,Option.some.injEq] at h1 h2
   subst h1 h2
   exact hc
/-- a cell is written -/
theorem OkH.setCell (o : OkH B F eta W H) {n : Nat} {p : Addr} {c : Cell} {u : HO} (hn : eta[n]? = some p) (hc : CellRep B F eta (upd H p u) p c) : OkH B F eta (W.set n c) (upd H p u):=by
 have hm : p ∈ eta:=List.mem_of_getElem? hn
 refine ⟨fun a w h => ?_,o.cF,o.nd,by simp [o.len],fun k a d h1 h2 => ?_⟩
 ·have : a ≠ p:=fun z=>by rw [z,o.cF p hm] at h; cases h
  rw [upd_ne this]; exact o.sub a w h
 ·by_cases hk : k = n
  ·subst hk
   rw [hn] at h1; cases h1
   rw [List.getElem?_set_self (by rw [← o.len]; exact (List.getElem?_eq_some_iff.mp hn).1)] at h2
   cases h2
   exact hc
  ·rw [List.getElem?_set_ne (fun z=>hk z.symm)] at h2
   have hne : a ≠ p:=fun z=>by
    subst z
    have i1:=(List.getElem?_eq_some_iff.mp h1)
    have i2:=(List.getElem?_eq_some_iff.mp hn)
    obtain ⟨l1,e1⟩:=i1
    obtain ⟨l2,e2⟩:=i2
    exact hk ((List.getElem_inj o.nd).mp (e1.trans e2.symm))
   have q:=o.cell k a d h1 h2
   cases d with
   | lst xs=>obtain ⟨vs,e,r⟩:=q; exact ⟨vs,by rw [upd_ne hne]; exact e,r⟩
   | ins c fs=>obtain ⟨dx,gs,e,r⟩:=q; exact ⟨dx,gs,by rw [upd_ne hne]; exact e,r⟩
   | dct kvs=>obtain ⟨gs,e,r⟩:=q; exact ⟨gs,by rw [upd_ne hne]; exact e,r⟩
   | dead=>show upd H p u a ≠ none; rw [upd_ne hne]; exact q
theorem Ext.setCell {p : Addr} {u : HO} (hm : p ∈ eta) : Ext F eta H F eta (upd H p u) :=
 ⟨SubH.refl _,List.prefix_refl _,fun a o h hn=>by rw [upd_ne (fun z=>hn (by rw [z]; exact hm))]; exact h,fun _ h=>.inl h,fun _ h=>.inl h⟩
/-- an object of a frame's own is written -/
theorem OkH.writeO (o : OkH B F eta W H) {p : Addr} {u : HO} (hF : F p = none) (hE : p ∉ eta) : OkH B F eta W (upd H p u):=by
 refine ⟨fun a w h => ?_,o.cF,o.nd,o.len,fun n a c h1 h2 => ?_⟩
 ·rw [upd_ne (fun z=>by rw [z,hF] at h; cases h)]; exact o.sub a w h
 ·have hm : a ∈ eta:=List.mem_of_getElem? h1
  have hne : a ≠ p:=fun z=>hE (by rw [← z]; exact hm)
  have q:=o.cell n a c h1 h2
  cases c with
  | lst xs=>obtain ⟨vs,e,r⟩:=q; exact ⟨vs,by rw [upd_ne hne]; exact e,r⟩
  | ins c fs=>obtain ⟨dx,gs,e,r⟩:=q; exact ⟨dx,gs,by rw [upd_ne hne]; exact e,r⟩
  | dct kvs=>obtain ⟨gs,e,r⟩:=q; exact ⟨gs,by rw [upd_ne hne]; exact e,r⟩
  | dead=>show upd H p u a ≠ none; rw [upd_ne hne]; exact q
end
section
variable {X : Cx} {es : List Expr} {t : TA} {pos : Pos}
def tTupB (t : TA) : TE:=fun σ H Q=>t σ H fun xs H1=>xs.length ≤ sizeLine ∧ ∀ (p : Addr) (o : Obj),o.dict = none → H1 p = none → Q (.ref p) (upd H1 p (.frz o (.tup xs)))
theorem zZMR {x1 : Nat} (h : PA X es t) : PE X (.Tuple es x1 pos) (tTupB t):=by
 refine ⟨fun pins s σ H Q I hq => ?_⟩
 refine wpAny_Tuple_spliced (thn (h.run pos pins s σ H _ I hq) fun us s1 ⟨xs,H1,I1,r,z,q⟩=>⟨by rw [← r.length]; exact z, ?_⟩)
 have hf : H1 s1.heap.objs.size = none:=I1.hok.fresh (Nat.le_refl _)
 refine ⟨.ref s1.heap.objs.size,upd H1 s1.heap.objs.size (.frz { cls:=.type "tuple",data:=.seq us.toArray } (.tup xs)),I1.laid (t':=s1.toks) (fun b u e=>Heap.get?_push_of_some _ e) (Nat.le_refl _) ?_,rfl,q _ _ rfl hf⟩
 exact ⟨Heap.get?_push_size _ rfl,z,us,r,⟨_,Heap.get?_push_size _ rfl,rfl,_,rfl⟩⟩
theorem zZF8 : CallR X (.type "tuple") (fun xs H Q => ∃ p ys,xs = [.ref p] ∧ ((SqL X.K H p ys ∧ ∀ (l : Addr) (o : Obj),o.dict = none → H l = none → Q (.ref l) (upd H l (.frz o (.tup ys)))) ∨ (SqT X.K H p ys ∧ Q (.ref p) H))):=by
 intro pins s σ H xs us Q I r h
 obtain ⟨p,ys,rfl,h⟩:=h
 obtain ⟨u,rfl,rx⟩:=vals1 r
 cases rx
 rcases h with ⟨hq,q⟩ | ⟨hq,q⟩
 ·obtain ⟨its,r',pl,hz⟩:=I.list hq
  have hlen:=r'.length
  refine call_tuple_list pl.isList (fun h' kp => ?_) (by simp only [List.size_toArray] <;> omega)
  have I1 : L2.Inv X pins σ H { s with heap:=h' }:=I.kept (t':=s.toks) kp
  have I2 : L2.Inv X pins σ (upd H h'.objs.size (.frz { cls:=.type "tuple",data:=.seq its.toArray } (.tup ys))) { s with heap:=h'.push { cls:=.type "tuple",data:=.seq its.toArray } } :=
   I1.laid (t':=s.toks) (fun b o e=>Heap.get?_push_of_some _ e) (Nat.le_refl _) (show ObjOk X.prog X.w _ _ _ (.frz _ (.tup ys)) from ⟨Heap.get?_push_size _ rfl,hz,its,r',IsTup.new _ _⟩)
  exact ⟨.ref h'.objs.size,_,I2,rfl,q _ _ rfl (I1.hok.fresh (Nat.le_refl _))⟩
 ·obtain ⟨its,r',pl,hz⟩:=I.tuple hq
  exact call_tuple_same pl ⟨.ref p,H,I,rfl,q⟩
def rSlB (K : PySem.W.Frag) : V → Option Int → Option Int → Hp → VK → Prop:=fun x lo hi H Q => ∃ a xs,x = .ref a ∧ SqT K H a xs ∧
 (HT.sIx xs.length 0 lo = 0 ∧ HT.sIx xs.length xs.length hi = xs.length → Q (.ref a) H) ∧ (¬ (HT.sIx xs.length 0 lo = 0 ∧ HT.sIx xs.length xs.length hi = xs.length) → ∀ (p : Addr) (o : Obj),o.dict = none → H p = none → Q (.ref p) (upd H p (.frz o (.tup (cutV xs lo hi)))))
theorem sl_tupB : L2.SlR X (rSlB X.K):=by
 intro pins s σ H x v vl vu lo hi sl Q I rx hs pl pu h
 obtain ⟨a,xs,rfl,hx,q1,q2⟩:=h
 cases rx
 obtain ⟨its,r,ht,hz⟩:=I.tuple hx
 have hlen : its.toArray.size = xs.length:=by rw [List.size_toArray]; exact r.length.symm
 refine ⟨"tuple",_,PyProof.Rows.slot_tuple_getitem.lookup,ht.typeIs, ?_⟩
 by_cases hw : HT.sIx xs.length 0 lo = 0 ∧ HT.sIx xs.length xs.length hi = xs.length
 ·exact getItem_tuple_whole ht hs pl pu (by rw [hlen]; exact hw) ⟨.ref a,H,I,rfl,q1 hw⟩
 ·refine HT.getItem_tuple_cut ht hs pl pu (by rw [hlen]; exact hw) ?_ (by rw [hlen]; exact hz)
  rw [hlen]
  refine ⟨.ref s.heap.objs.size,_,I.laid (t':=s.toks) (o:=.frz { cls:=.type "tuple",data:=.seq ((its.toArray.toList.drop (HT.sIx xs.length 0 lo)).take (HT.sIx xs.length xs.length hi - HT.sIx xs.length 0 lo)).toArray } (.tup (cutV xs lo hi))) (fun b ob q=>Heap.get?_push_of_some _ q) (Nat.le_refl _) ?_,rfl,q2 hw _ _ rfl (I.hok.fresh (Nat.le_refl _))⟩
  exact ⟨Heap.get?_push_size _ rfl,Nat.le_trans (cutV_length xs lo hi) hz,_,(r.drop (HT.sIx xs.length 0 lo)).take (HT.sIx xs.length xs.length hi - HT.sIx xs.length 0 lo),IsTup.new _ _⟩
def rCatB (K : PySem.W.Frag) : R2:=fun x y H Q => ∃ a b xs ys,x = .ref a ∧ y = .ref b ∧ SqT K H a xs ∧ SqT K H b ys ∧ xs.length + ys.length ≤ sizeLine ∧
 (xs = [] → Q (.ref b) H) ∧ (xs ≠ [] → ys = [] → Q (.ref a) H) ∧ (xs ≠ [] → ys ≠ [] → ∀ (p : Addr) (o : Obj),o.dict = none → H p = none → Q (.ref p) (upd H p (.frz o (.tup (xs ++ ys)))))
theorem zZL7 : OpR X (binaryOp .Add) (rCatB X.K):=by
 intro pins s σ H x y v u Q I rx ry h
 obtain ⟨a,b,xs,ys,rfl,rfl,ha,hb,hz,q0,q1,q2⟩:=h
 by_cases hx : xs = []
 ·subst hx
  cases rx
  cases ry
  obtain ⟨its,r1,p1,_⟩:=I.tuple ha
  obtain ⟨its2,r2,p2,_⟩:=I.tuple hb
  cases r1
  exact cat_tup0 p1 p2 ⟨.ref b,H,I,rfl,q0 rfl⟩
 ·cases rx
  cases ry
  obtain ⟨its,r1,p1,_⟩:=I.tuple ha
  obtain ⟨its2,r2,p2,_⟩:=I.tuple hb
  refine HT.cat_tup p1 p2 (fun z=>hx (r1.nil_iff.mp z)) (fun z=>⟨.ref a,H,I,rfl,q1 hx (r2.nil_iff.mp z)⟩) (fun z => ?_) (by rw [← r1.length,← r2.length]; exact hz)
  refine ⟨.ref s.heap.objs.size,_,I.laid (t':=s.toks) (o:=.frz { cls:=.type "tuple",data:=.seq (its ++ its2).toArray } (.tup (xs ++ ys))) (fun b ob q=>Heap.get?_push_of_some _ q) (Nat.le_refl _) ?_,rfl,q2 hx (fun w=>z (r2.nil_iff.mpr w)) _ _ rfl (I.hok.fresh (Nat.le_refl _))⟩
  exact ⟨Heap.get?_push_size _ rfl,by rw [List.length_append]; exact hz,_,r1.append r2,IsTup.new _ _⟩
end
end DL
set_option maxRecDepth 100000
set_option maxHeartbeats 4000000
namespace DL
open PySem PySem.Spec PyProof.Rows
open L2 hiding St
section
variable (B : Tb) (X : Cx)
/-- an expression's value follows f -/
def EOk (py : Expr) (f : Env → Wd → R D) : Prop := ∃ t : TE,PE X py t ∧ ∀ (e : Env) (W : Wd) (sg : L2.St) (H F : Hp) (eta : List Addr) (Q : VK),Stt B e W sg H F eta →
 (f e W).wp B.xq (fun d W' => ∀ (v : V) (H' F' : Hp) (eta' : List Addr),OkH B F' eta' W' H' → Ext F eta H F' eta' H' → Rep B F' eta' d v → Q v H') → t sg H Q
/-- a test's truth follows f -/
def TOk (py : Expr) (f : Env → Wd → R Bool) : Prop := ∃ t : TT,PT X py t ∧ ∀ (e : Env) (W : Wd) (sg : L2.St) (H F : Hp) (eta : List Addr) (Q : Bool → Hp → Prop),Stt B e W sg H F eta →
 (f e W).wp B.xq (fun k W' => ∀ (H' F' : Hp) (eta' : List Addr),OkH B F' eta' W' H' → Ext F eta H F' eta' H' → Q k H') → t sg H Q
def WOk (py : Expr) (f : Env → Wd → R Bool) : Prop := ∃ t : TT,PW X py t ∧ ∀ (e : Env) (W : Wd) (sg : L2.St) (H F : Hp) (eta : List Addr) (Q : Bool → Hp → Prop),Stt B e W sg H F eta →
 (f e W).wp B.xq (fun k W' => ∀ (H' F' : Hp) (eta' : List Addr),OkH B F' eta' W' H' → Ext F eta H F' eta' H' → Q k H') → t sg H Q
/-- the value that is named as a sequence -/
def SrcRep (e : Env) (sg : L2.St) (F : Hp) (eta : List Addr) : Src → V → Prop
 | .frz xs d,v=>Rep B F eta d v ∧ (d = .lst xs ∨ d = .tup xs)
 | .slot i xs,v=>e[i]? = some (.ol xs) ∧ sg[i]? = some (some v)
 | .cell n,v => ∃ a,eta[n]? = some a ∧ v = .ref a
 | .str s,v=>v = .str s
def SOk (py : Expr) (f : Env → Wd → R Src) : Prop := ∃ t : TE,PE X py t ∧ ∀ (e : Env) (W : Wd) (sg : L2.St) (H F : Hp) (eta : List Addr) (Q : VK),Stt B e W sg H F eta →
 (f e W).wp B.xq (fun s W' => ∀ (v : V) (H' F' : Hp) (eta' : List Addr),OkH B F' eta' W' H' → Ext F eta H F' eta' H' → SrcRep B e sg F' eta' s v → Q v H') → t sg H Q
/-- arguments -/
def AOk (py : List Expr) (f : Env → Wd → R (List D)) : Prop := ∃ t : TA,PA X py t ∧ ∀ (e : Env) (W : Wd) (sg : L2.St) (H F : Hp) (eta : List Addr) (Q : List V → Hp → Prop),Stt B e W sg H F eta →
 (f e W).wp B.xq (fun ds W' => ∀ (vs : List V) (H' F' : Hp) (eta' : List Addr),OkH B F' eta' W' H' → Ext F eta H F' eta' H' → RepL B F' eta' ds vs → Q vs H') → t sg H Q
/-- a part of a slice -/
def OOk (py : Option Expr) (f : Env → Wd → R (Option Int)) : Prop := ∃ t : TO,PO X py t ∧ ∀ (e : Env) (W : Wd) (sg : L2.St) (H F : Hp) (eta : List Addr) (Q : Option Int → Hp → Prop),Stt B e W sg H F eta →
 (f e W).wp B.xq (fun o W' => ∀ (H' F' : Hp) (eta' : List Addr),OkH B F' eta' W' H' → Ext F eta H F' eta' H' → Q o H') → t sg H Q
/-- what makes a new list: it stands at a new place,not yet frozen -/
def FOk (py : Expr) (f : Env → Wd → R (List D)) : Prop := ∃ t : TE,PE X py t ∧ ∀ (e : Env) (W : Wd) (sg : L2.St) (H F : Hp) (eta : List Addr) (Q : VK),Stt B e W sg H F eta →
 (f e W).wp B.xq (fun ds W' => ∀ (a : Addr) (vs : List V) (H' F' : Hp) (eta' : List Addr),OkH B F' eta' W' H' → Ext F eta H F' eta' H' → H a = none → H' a = some (.lst vs) → F' a = none → a ∉ eta' → RepL B F' eta' ds vs → Q (.ref a) H') → t sg H Q
end
section
variable {B : Tb} {X : Cx} {py pa pb pc : Expr} {f fa fb fc : Env → Wd → R D} {pos : Pos}
theorem zZC9 {d : D} {v : V} (h : PE X py (tC v)) (r : ∀ F eta,Rep B F eta d v) : EOk B X py (fun _ W=>.ok d W) :=
 ⟨_,h,fun e W sg H F eta Q s k=>k v H F eta s.ok (Ext.refl _ _ _) (r F eta)⟩
theorem zZMM {j} : EOk B X (.Constant .none j pos) (fun _ W=>.ok .non W):=zZC9 pe_non fun _ _=>.non
theorem zZNf {b j} : EOk B X (.Constant (.bool b) j pos) (fun _ W=>.ok (.bl b) W):=zZC9 pe_bl fun _ _=>.bl b
theorem zZMQ {i j} : EOk B X (.Constant (.int i) j pos) (fun _ W=>.ok (.int i) W):=zZC9 pe_int fun _ _=>.int i
theorem zZMw {z j} : EOk B X (.Constant (.str z) j pos) (fun _ W=>.ok (.str z) W):=zZC9 pe_str fun _ _=>.str z
theorem zZLk {i : Nat} {x : Str} (hN : X.N[i]? = some x) (hv : Vis X.env.scope x) (hd : (x == ("__debug__" : Str)) = false) (hc : (x == ("__classdict__" : Str)) = false) :
  EOk B X (.Name x pos) (fun e W=>opt (getV e i) W):=by
 refine ⟨_,pe_var hN hv hd hc,fun e W sg H F eta Q s k => ?_⟩
 cases q : e[i]? with
 | none=>simp [getV,q,R.wp] at k
 | some z =>
  cases z with
  | val d =>
   have r:=s.sl i _ q
   obtain ⟨v,h1,h2⟩:=r
   simp only [getV,q,zZX,R.wp_ok] at k
   exact ⟨v,h1,k v H F eta s.ok (Ext.refl _ _ _) h2⟩
  | _=>simp [getV,q,R.wp] at k
/-- two expressions in a row,then a rule by values -/
theorem zZIU {r : R2} {g : D → D → Option D} {t2 : TE → TE → TE} (ha : EOk B X pa fa) (hb : EOk B X pb fb)
  (hp : ∀ ta tb,PE X pa ta → PE X pb tb → PE X py (t2 ta tb)) (ht : ∀ ta tb sg H Q,(ta sg H fun x H1=>tb sg H1 fun y H2=>r x y H2 Q) → t2 ta tb sg H Q)
  (hr : ∀ x y v u (H F : Hp) (eta : List Addr) (W : Wd) (Q : VK) z,OkH B F eta W H → Rep B F eta x v → Rep B F eta y u → g x y = some z →
   (∀ (w : V) (H' F' : Hp) (eta' : List Addr),OkH B F' eta' W H' → Ext F eta H F' eta' H' → Rep B F' eta' z w → Q w H') → r v u H Q) :
  EOk B X py (fun e W=>(fa e W).bind fun x W=>(fb e W).bind fun y W=>opt (g x y) W):=by
 obtain ⟨ta,ha,ka⟩:=ha
 obtain ⟨tb,hb,kb⟩:=hb
 refine ⟨_,hp _ _ ha hb,fun e W sg H F eta Q s k=>ht _ _ _ _ _ ?_⟩
 refine ka e W sg H F eta _ s ?_
 rw [R.wp_bind] at k
 refine R.wp_mono k fun x W1 k v H1 F1 eta1 o1 x1 r1 => ?_
 rw [R.wp_bind] at k
 refine kb e W1 sg H1 F1 eta1 _ (s.ext x1 o1) (R.wp_mono k fun y W2 k u H2 F2 eta2 o2 x2 r2 => ?_)
 cases q : g x y with
 | none=>rw [q] at k; exact k.elim
 | some z =>
  rw [q] at k
  refine hr x y v u H2 F2 eta2 W2 Q z o2 (r1.mono x2.sub x2.pre) r2 q fun w H' F' eta' o' x' rw' => ?_
  exact k w H' F' eta' o' (Ext.trans s.ok o1 x1 (Ext.trans o1 o2 x2 x')) rw'
theorem zZCs {op : Operator} {r : R2} {g : D → D → Option D} (ho : OpR X (binaryOp op) r) (ha : EOk B X pa fa) (hb : EOk B X pb fb)
  (hr : ∀ x y v u (H F : Hp) (eta : List Addr) (W : Wd) (Q : VK) z,OkH B F eta W H → Rep B F eta x v → Rep B F eta y u → g x y = some z →
   (∀ (w : V) (H' F' : Hp) (eta' : List Addr),OkH B F' eta' W H' → Ext F eta H F' eta' H' → Rep B F' eta' z w → Q w H') → r v u H Q) :
  EOk B X (.BinOp pa op pb pos) (fun e W=>(fa e W).bind fun x W=>(fb e W).bind fun y W=>opt (g x y) W) :=
 zZIU ha hb (fun _ _ h1 h2=>pe_op ho h1 h2) (fun _ _ _ _ _ h=>h) hr
/-- a comparison by a rule on values -/
def CRule (B : Tb) (X : Cx) (op : CmpOp) (g : D → D → Option D) : Prop := ∃ r : R2,OpR X (compareOp op) r ∧
 ∀ x y v u (H F : Hp) (eta : List Addr) (W : Wd) (Q : VK) z,OkH B F eta W H → Rep B F eta x v → Rep B F eta y u → g x y = some z →
   (∀ (w : V) (H' F' : Hp) (eta' : List Addr),OkH B F' eta' W H' → Ext F eta H F' eta' H' → Rep B F' eta' z w → Q w H') → r v u H Q
theorem zZFM {op : CmpOp} {g : D → D → Option D} (c : CRule B X op g) (hm : behindInMarks op pb = false) (ha : EOk B X pa fa) (hb : EOk B X pb fb) :
  EOk B X (.Compare pa [op] [pb] pos) (fun e W=>(fa e W).bind fun x W=>(fb e W).bind fun y W=>opt (g x y) W):=by
 obtain ⟨r,ho,hr⟩:=c
 exact zZIU ha hb (fun _ _ h1 h2=>pe_cmpR ho h1 h2 hm) (fun _ _ _ _ _ h=>h) hr
theorem zZJG {i : Int} (h : i.natAbs < limI) : -(2 ^ 64) < i ∧ i < 2 ^ 64:=by unfold limI at h; omega
theorem zZb : cap ≤ sizeLine:=by rw [sizeLine_eq]; decide
def pyOp : Op → Operator
 | .add=>.Add | .sub=>.Sub | .mul=>.Mult | .fdiv=>.FloorDiv | .mod=>.Mod | .pow=>.Pow
theorem zZMC (op : Op) (ha : EOk B X pa fa) (hb : EOk B X pb fb) : EOk B X (.BinOp pa (pyOp op) pb pos) (fun e W=>(fa e W).bind fun x W=>(fb e W).bind fun y W=>opt (binD op x y) W):=by
 cases op with
 | add =>
  refine zZCs (g:=binD .add) ((op_add.or op_add_str).or zZL7) ha hb fun x y v u H F eta W Q z o r1 r2 q k => ?_
  unfold binD at q
  cases r1 <;> cases r2 <;> simp at q
  ·subst q; exact .inl (.inl ⟨_,_,rfl,rfl,k _ H F eta o (Ext.refl _ _ _) (.int _)⟩)
  ·obtain ⟨hl,rfl⟩:=q
   exact .inl (.inr ⟨_,_,rfl,rfl,Nat.le_trans hl zZb,k _ H F eta o (Ext.refl _ _ _) (.str _)⟩)
  ·rename_i a1 xs vs h1 r1 a2 ys us h2 r2
   obtain ⟨hl,rfl⟩:=q
   refine .inr ⟨_,_,_,_,rfl,rfl,(h1.mono o.sub).sq,(h2.mono o.sub).sq,by rw [← r1.length,← r2.length]; exact Nat.le_trans hl zZb,fun e1 => ?_,fun _ e2 => ?_,fun _ _ p ob hob hp => ?_⟩
   ·subst e1
    cases r1
    exact k _ H F eta o (Ext.refl _ _ _) (.tup h2 r2)
   ·subst e2
    cases r2
    exact k _ H F eta o (Ext.refl _ _ _) (.tup h1 (by simpa using r1))
   ·have s1:=fun u=>zZr (u:=u) (o.notF hp)
    exact k _ _ _ eta (o.newF hp) (Ext.newFz o hp) (.tup (.new hob) ((r1.append r2).mono (s1 _) (List.prefix_refl _)))
 | sub =>
  refine zZCs (g:=binD .sub) op_sub ha hb fun x y v u H F eta W Q z o r1 r2 q k => ?_
  unfold binD at q
  cases r1 <;> cases r2 <;> simp at q
  subst q; exact ⟨_,_,rfl,rfl,k _ H F eta o (Ext.refl _ _ _) (.int _)⟩
 | mul =>
  refine zZCs (g:=binD .mul) op_mul ha hb fun x y v u H F eta W Q z o r1 r2 q k => ?_
  unfold binD at q
  cases r1 <;> cases r2 <;> simp at q
  obtain ⟨hl,rfl⟩:=q
  exact ⟨_,_,rfl,rfl,hl.imp zZJG zZJG,k _ H F eta o (Ext.refl _ _ _) (.int _)⟩
 | fdiv =>
  refine zZCs (g:=binD .fdiv) op_fdiv ha hb fun x y v u H F eta W Q z o r1 r2 q k => ?_
  unfold binD at q
  cases r1 <;> cases r2 <;> simp at q
  obtain ⟨hl,rfl⟩:=q
  exact ⟨_,_,rfl,rfl,hl,k _ H F eta o (Ext.refl _ _ _) (.int _)⟩
 | mod =>
  refine zZCs (g:=binD .mod) op_mod ha hb fun x y v u H F eta W Q z o r1 r2 q k => ?_
  unfold binD at q
  cases r1 <;> cases r2 <;> simp at q
  obtain ⟨hl,rfl⟩:=q
  exact ⟨_,_,rfl,rfl,hl,k _ H F eta o (Ext.refl _ _ _) (.int _)⟩
 | pow =>
  refine zZCs (g:=binD .pow) op_pow ha hb fun x y v u H F eta W Q z o r1 r2 q k => ?_
  unfold binD at q
  cases r1 <;> cases r2 <;> simp at q
  obtain ⟨hl,rfl⟩:=q
  exact ⟨_,_,rfl,rfl,⟨hl.1,hl.2.1,hl.2.2⟩,k _ H F eta o (Ext.refl _ _ _) (.int _)⟩
theorem zZL6 (ha : EOk B X pa fa) : EOk B X (.UnaryOp .USub pa pos) (fun e W=>(fa e W).bind fun x W=>match x with | .int i=>.ok (.int (-i)) W | _=>.st):=by
 obtain ⟨ta,ha,ka⟩:=ha
 refine ⟨_,pe_un un_neg ha,fun e W sg H F eta Q s k => ?_⟩
 refine ka e W sg H F eta _ s ?_
 rw [R.wp_bind] at k
 refine R.wp_mono k fun x W1 k v H1 F1 eta1 o1 x1 r1 => ?_
 cases r1 with
 | int i=>exact ⟨i,rfl,k _ H1 F1 eta1 o1 x1 (.int _)⟩
 | _=>exact k.elim
mutual
theorem zZI6 : ∀ (n : Nat) (d : D) (p : PyData),pd n d = some p → p.canLay0 = true ∧ p.depth ≤ n
 | n,.non,p,h=>by simp [pd] at h; subst h; simp [PyData.canLay0,PyData.depth]
 | n,.bl b,p,h=>by simp [pd] at h; subst h; simp [PyData.canLay0,PyData.depth]
 | n,.int b,p,h=>by simp [pd] at h; subst h; simp [PyData.canLay0,PyData.depth]
 | n,.str b,p,h=>by
  simp [pd] at h
  obtain ⟨h1,rfl⟩:=h
  simp [PyData.canLay0,PyData.depth,h1]
 | 0,.tup _,p,h=>by simp [pd] at h
 | 0,.lst _,p,h=>by simp [pd] at h
 | n + 1,.tup xs,p,h=>by
  simp only [pd,Option.map_eq_some_iff] at h
  obtain ⟨ps,h1,rfl⟩:=h
  obtain ⟨a,b⟩:=zZGA n xs ps h1
  simp only [PyData.canLay0,PyData.depth]
  exact ⟨a,by omega⟩
 | n + 1,.lst xs,p,h=>by
  simp only [pd,Option.map_eq_some_iff] at h
  obtain ⟨ps,h1,rfl⟩:=h
  obtain ⟨a,b⟩:=zZGA n xs ps h1
  simp only [PyData.canLay0,PyData.depth]
  exact ⟨a,by omega⟩
 | n,.ins _ _,p,h=>by cases n <;> simp [pd] at h
 | n,.dct _,p,h=>by cases n <;> simp [pd] at h
 | n,.own _,p,h=>by cases n <;> simp [pd] at h
 | n,.ext _,p,h=>by cases n <;> simp [pd] at h
 | n,.tupz _,p,h=>by cases n <;> simp [pd] at h
 | n,.dtt _,p,h=>by cases n <;> simp [pd] at h
 | n,.kt _,p,h=>by cases n <;> simp [pd] at h
theorem zZGA : ∀ (n : Nat) (ds : List D) (ps : List PyData),ds.mapM (pd n) = some ps → PyData.canLayAll0 ps = true ∧ PyData.depthAll ps ≤ n
 | n,[],ps,h=>by simp at h; subst h; simp [PyData.canLayAll0,PyData.depthAll]
 | n,d :: ds,ps,h=>by
  simp only [List.mapM_cons,Option.bind_eq_bind,Option.bind_eq_some_iff,Option.pure_def,Option.some.injEq] at h
  obtain ⟨p,h1,qs,h2,rfl⟩:=h
  obtain ⟨a1,b1⟩:=zZI6 n d p h1
  obtain ⟨a2,b2⟩:=zZGA n ds qs h2
  simp only [PyData.canLayAll0,PyData.depthAll,a1,a2]
  exact ⟨rfl,by omega⟩
end
theorem xZ6 {d : D} {p : PyData} (h : pd 60 d = some p) : SeqAt.shaped p = true:=by
 obtain ⟨a,b⟩:=zZI6 60 d p h
 unfold SeqAt.shaped
 simp only [a,Bool.true_and,decide_eq_true_eq]
 omega
mutual
theorem Rep.dp {K : PySem.W.Frag} {F H : Hp} {eta : List Addr} (s : SubH F H) : ∀ {d : D} {v : V} (n : Nat) (p : PyData),Rep B F eta d v → pd n d = some p → Dp K H v p
 | _,_,n,p,.non,h=>by simp [pd] at h; subst h; exact .non
 | _,_,n,p,.bl b,h=>by simp [pd] at h; subst h; exact .bl b
 | _,_,n,p,.int b,h=>by simp [pd] at h; subst h; exact .int b
 | _,_,n,p,.str b,h=>by simp [pd] at h; obtain ⟨_,rfl⟩:=h; exact .str b
 | _,_,0,p,.tup _ _,h=>by simp [pd] at h
 | _,_,0,p,.lst _ _,h=>by simp [pd] at h
 | _,_,n + 1,p,.tup e r,h=>by
  simp only [pd,Option.map_eq_some_iff] at h
  obtain ⟨ps,h1,rfl⟩:=h
  exact .tup (e.mono s).sq (RepL.dp s n ps r h1)
 | _,_,n + 1,p,.lst e r,h=>by
  simp only [pd,Option.map_eq_some_iff] at h
  obtain ⟨ps,h1,rfl⟩:=h
  exact .lst (SqL.of (s _ _ e)) (RepL.dp s n ps r h1)
 | _,_,n,p,.ins _ _,h=>by cases n <;> simp [pd] at h
 | _,_,n,p,.own _,h=>by cases n <;> simp [pd] at h
 | _,_,n,p,.ext _,h=>by cases n <;> simp [pd] at h
 | _,_,n,p,.tupz _ _,h=>by cases n <;> simp [pd] at h
 | _,_,n,p,.dtt _ _,h=>by cases n <;> simp [pd] at h
 | _,_,n,p,.kt _,h=>by cases n <;> simp [pd] at h
 | _,_,n,p,.dct _ _,h=>by cases n <;> simp [pd] at h
theorem RepL.dp {K : PySem.W.Frag} {F H : Hp} {eta : List Addr} (s : SubH F H) : ∀ {d : List D} {v : List V} (n : Nat) (p : List PyData),RepL B F eta d v → d.mapM (pd n) = some p → DpAll K H v p
 | _,_,n,p,.nil,h=>by simp at h; subst h; exact .nil
 | _,_,n,p,.cons r t,h=>by
  simp only [List.mapM_cons,Option.bind_eq_bind,Option.bind_eq_some_iff,Option.pure_def,Option.some.injEq] at h
  obtain ⟨p,h1,qs,h2,rfl⟩:=h
  exact .cons (Rep.dp s n p r h1) (RepL.dp s n qs t h2)
end
theorem zZJk {x y : D} {v u : V} {F : Hp} {eta : List Addr} {b : Bool} (r1 : Rep B F eta x v) (r2 : Rep B F eta y u) (h : eqF x y = some b) : scal v u = true ∧ decide (v = u) = b:=by
 unfold eqF at h
 cases r1 <;> cases r2 <;> simp at h <;> simp_all [scal]
def rEqA (K : PySem.W.Frag) : R2:=fun x y H Q=>rEq x y H Q ∨ rEqD K x y H Q
def rNeA (K : PySem.W.Frag) : R2:=fun x y H Q=>rNe x y H Q ∨ rNeD K x y H Q
theorem zZNr (hu : X.A.units + 64 < cLine) : CRule B X .Eq (cmpD .eq):=by
 refine ⟨rEqA X.K,op_eq.or (op_eqD hu),fun x y v u H F eta W Q z o r1 r2 q k => ?_⟩
 simp only [cmpD,Option.map_eq_some_iff] at q
 obtain ⟨b,q,rfl⟩:=q
 have fin:=k (.bl b) H F eta o (Ext.refl _ _ _) (.bl b)
 unfold eqD at q
 cases e : eqF x y with
 | some b' =>
  rw [e] at q
  cases q
  obtain ⟨h1,h2⟩:=zZJk r1 r2 e
  exact .inl ⟨h1,by rw [h2]; exact fin⟩
 | none =>
  rw [e] at q
  simp only [Option.bind_eq_some_iff,Option.map_eq_some_iff] at q
  obtain ⟨p,h1,p2,h2,rfl⟩:=q
  exact .inr ⟨p,p2,r1.dp o.sub 60 p h1,r2.dp o.sub 60 p2 h2,xZ6 h1,xZ6 h2,fin⟩
theorem zZNj (hu : X.A.units + 64 < cLine) : CRule B X .NotEq (cmpD .ne):=by
 refine ⟨rNeA X.K,op_ne.or (op_neD hu),fun x y v u H F eta W Q z o r1 r2 q k => ?_⟩
 simp only [cmpD,Option.map_eq_some_iff] at q
 obtain ⟨b,q,rfl⟩:=q
 have fin:=k (.bl (!b)) H F eta o (Ext.refl _ _ _) (.bl (!b))
 unfold eqD at q
 cases e : eqF x y with
 | some b' =>
  rw [e] at q
  cases q
  obtain ⟨h1,h2⟩:=zZJk r1 r2 e
  exact .inl ⟨h1,by rw [h2]; exact fin⟩
 | none =>
  rw [e] at q
  simp only [Option.bind_eq_some_iff,Option.map_eq_some_iff] at q
  obtain ⟨p,h1,p2,h2,rfl⟩:=q
  exact .inr ⟨p,p2,r1.dp o.sub 60 p h1,r2.dp o.sub 60 p2 h2,xZ6 h1,xZ6 h2,fin⟩
theorem zZEw {op : CmpOp} {c : Cm} {p : Int → Int → Bool} (ho : OpR X (compareOp op) (rI0 fun i j=>.bl (p i j)))
  (hc : ∀ x y z,cmpD c x y = some z → ∃ i j,x = .int i ∧ y = .int j ∧ z = .bl (p i j)) : CRule B X op (cmpD c):=by
 refine ⟨_,ho,fun x y v u H F eta W Q z o r1 r2 q k => ?_⟩
 obtain ⟨i,j,rfl,rfl,rfl⟩:=hc x y z q
 cases r1
 cases r2
 exact ⟨i,j,rfl,rfl,k _ H F eta o (Ext.refl _ _ _) (.bl _)⟩
def pyCm : Cm → CmpOp
 | .eq=>.Eq | .ne=>.NotEq | .lt=>.Lt | .le=>.LtE | .gt=>.Gt | .ge=>.GtE | .isN=>.Is | .notN=>.IsNot | .inn=>.In | .notin=>.NotIn | .leS=>.LtE
theorem zZIT {x : D} {v : V} {F : Hp} {eta : List Addr} (r : Rep B F eta x v) : decide (v = .non) = (match x with | .non=>true | _=>false):=by
 cases r <;> simp
theorem zZM9 (x y z : D) (h : cmpD .lt x y = some z) : ∃ i j,x = .int i ∧ y = .int j ∧ z = .bl (decide (i < j)):=by
 cases x <;> cases y <;> simp [cmpD] at h
 exact ⟨_,_,rfl,rfl,h.symm⟩
theorem zZM5 (x y z : D) (h : cmpD .le x y = some z) : ∃ i j,x = .int i ∧ y = .int j ∧ z = .bl (decide (i ≤ j)):=by
 cases x <;> cases y <;> simp [cmpD] at h
 exact ⟨_,_,rfl,rfl,h.symm⟩
theorem zZNH (x y z : D) (h : cmpD .gt x y = some z) : ∃ i j,x = .int i ∧ y = .int j ∧ z = .bl (decide (j < i)):=by
 cases x <;> cases y <;> simp [cmpD] at h
 exact ⟨_,_,rfl,rfl,h.symm⟩
theorem zZNV (x y z : D) (h : cmpD .ge x y = some z) : ∃ i j,x = .int i ∧ y = .int j ∧ z = .bl (decide (j ≤ i)):=by
 cases x <;> cases y <;> simp [cmpD] at h
 exact ⟨_,_,rfl,rfl,h.symm⟩
theorem zZKa : OpR X (compareOp .IsNot) (fun x y H Q=>(y = .non ∧ Q (.bl (!decide (x = .non))) H) ∨ ∃ a b,x = .bl a ∧ y = .bl b ∧ Q (.bl (!decide (a = b))) H):=by
 intro pins s σ H x y v u Q I rx ry h
 rcases h with ⟨rfl,q⟩ | ⟨a,b,rfl,rfl,q⟩
 ·exact op_notN pins s σ H x _ v u Q I rx ry ⟨rfl,q⟩
 ·cases (show v = Value.bool a from rx)
  cases (show u = Value.bool b from ry)
  by_cases e : a = b
  ·subst e
   exact wpAny_isNot_self rfl ⟨.bl false,H,I,rfl,by simpa using q⟩
  ·exact wpAny_isNot_other rfl (fun z=>e (Value.bool.inj z)) ⟨.bl true,H,I,rfl,by simpa [e] using q⟩
theorem crule (op : Cm) (h1 : op ≠ .inn) (h2 : op ≠ .notin) (hu : X.A.units + 64 < cLine) : CRule B X (pyCm op) (cmpD op):=by
 cases op with
 | eq=>exact zZNr hu
 | ne=>exact zZNj hu
 | lt=>exact zZEw op_lt zZM9
 | le=>exact zZEw op_le zZM5
 | gt=>exact zZEw op_gt zZNH
 | ge=>exact zZEw op_ge zZNV
 | isN =>
  refine ⟨_,op_isN,fun x y v u H F eta W Q z o r1 r2 q k => ?_⟩
  cases r2 <;> cases x <;> simp [cmpD] at q <;> subst q <;> refine ⟨rfl, ?_⟩ <;> rw [zZIT r1] <;> exact k _ H F eta o (Ext.refl _ _ _) (.bl _)
 | notN =>
  refine ⟨_,zZKa,fun x y v u H F eta W Q z o r1 r2 q k => ?_⟩
  cases r2 with
  | bl b =>
   cases x <;> simp [cmpD] at q
   subst q
   cases r1
   refine .inr ⟨_,_,rfl,rfl, ?_⟩
   simpa using k _ H F eta o (Ext.refl _ _ _) (.bl _)
  | _=>cases x <;> simp [cmpD] at q <;> subst q <;> refine .inl ⟨rfl, ?_⟩ <;> rw [zZIT r1] <;> exact k _ H F eta o (Ext.refl _ _ _) (.bl _)
 | leS =>
  refine ⟨_,op_le_str,fun x y v u H F eta W Q z o r1 r2 q k => ?_⟩
  cases r1 <;> cases r2 <;> simp [cmpD] at q
  subst q
  refine ⟨_,_,rfl,rfl, ?_⟩
  simpa using k _ H F eta o (Ext.refl _ _ _) (.bl _)
 | inn=>exact absurd rfl h1
 | notin=>exact absurd rfl h2
theorem zZEy {op : Cm} {x y z : D} (h : cmpD op x y = some z) : ∃ b,z = .bl b:=by
 unfold cmpD at h
 split at h
 all_goals first
  | (simp only [Option.map_eq_some_iff] at h; obtain ⟨b,_,rfl⟩:=h; exact ⟨_,rfl⟩)
  | exact ⟨_,(Option.some.inj h).symm⟩
  | cases h
theorem zZBL {op : Cm} (h1 : op ≠ .inn) (h2 : op ≠ .notin) (b : Expr) : behindInMarks (pyCm op) b = false:=by
 refine nomark b ?_ ?_ <;> cases op <;> simp_all [pyCm]
theorem yZ6 (op : Cm) (h1 : op ≠ .inn) (h2 : op ≠ .notin) (hu : X.A.units + 64 < cLine) (ha : EOk B X pa fa) (hb : EOk B X pb fb) :
  EOk B X (.Compare pa [pyCm op] [pb] pos) (fun e W=>(fa e W).bind fun x W=>(fb e W).bind fun y W=>opt (cmpD op x y) W) :=
 zZFM (crule op h1 h2 hu) (zZBL h1 h2 _) ha hb
end
end DL
set_option maxRecDepth 100000
set_option maxHeartbeats 4000000
namespace DL
open PySem PySem.Spec PyProof.Rows
open L2 hiding St
section
variable {B : Tb} {X : Cx} {py pa pb pc : Expr} {f fa fb fc : Env → Wd → R D} {pos : Pos}
def tv (f : Env → Wd → R D) : Env → Wd → R Bool:=fun e W=>(f e W).bind fun x W=>opt (truD x) W
theorem zZD {A : Type} {o : Option A} {W : Wd} {Q : A → Wd → Prop} (h : (opt o W).wp B.xq Q) : ∃ a,o = some a ∧ Q a W:=by
 cases o with
 | none=>exact h.elim
 | some a=>exact ⟨a,rfl,h⟩
/-- a test by a value's truth -/
theorem zZJj (ha : EOk B X pa fa) (he : ∀ whole,isTrue pa X.env whole = (do let v ← whole; standAt pa.pos; holding [v] (truthy v))) : TOk B X pa (tv fa):=by
 obtain ⟨ta,ha,ka⟩:=ha
 refine ⟨_,pt_truth ha he,fun e W sg H F eta Q s k => ?_⟩
 refine ka e W sg H F eta _ s ?_
 unfold tv at k
 rw [R.wp_bind] at k
 refine R.wp_mono k fun x W1 k v H1 F1 eta1 o1 x1 r1 => ?_
 obtain ⟨b,q,k⟩:=zZD k
 refine ⟨b, ?_,k H1 F1 eta1 o1 x1⟩
 cases r1 with
 | non=>simp [truD] at q; exact q
 | bl c=>simp [truD] at q; exact q.symm
 | int i=>simp [truD] at q; rw [← q]; rfl
 | str _=>simp [truD] at q
 | tup h r =>
  have q:=Option.some.inj q
  refine .inr (.inl ⟨_,(h.mono o1.sub).sq, ?_⟩)
  rw [← q]
  cases r <;> rfl
 | lst h r =>
  have q:=Option.some.inj q
  refine .inl ⟨_,SqL.of (o1.sub _ _ h), ?_⟩
  rw [← q]
  cases r <;> rfl
 | ins h r=>simp [truD] at q
 | own h=>simp [truD] at q
 | ext h=>simp [truD] at q
 | tupz h r=>simp [truD] at q
 | dct h r=>simp [truD] at q
 | dtt h r=>simp [truD] at q
 | kt h=>simp [truD] at q
theorem zZMh (ha : TOk B X pa (tv fa)) : TOk B X (.UnaryOp .Not pa pos) (tv (fun e W=>(fa e W).bind fun x W=>(opt (truD x) W).bind fun k W=>.ok (.bl (!k)) W)):=by
 obtain ⟨ta,ha,ka⟩:=ha
 refine ⟨_,pt_not ha,fun e W sg H F eta Q s k => ?_⟩
 refine ka e W sg H F eta _ s ?_
 unfold tv at k ⊢
 rw [R.bind_assoc] at k
 rw [R.wp_bind] at k ⊢
 refine R.wp_mono k fun x W1 k => ?_
 rw [R.bind_assoc,R.wp_bind] at k
 refine R.wp_mono k fun b W2 k => ?_
 simpa [truD] using k
/-- a comparison as a test -/
theorem zZFP {op : CmpOp} {g : D → D → Option D} (c : CRule B X op g) (hb' : ∀ x y z,g x y = some z → ∃ b,z = .bl b) (hm : behindInMarks op pb = false) (ha : EOk B X pa fa) (hb : EOk B X pb fb) :
  TOk B X (.Compare pa [op] [pb] pos) (tv (fun e W=>(fa e W).bind fun x W=>(fb e W).bind fun y W=>opt (g x y) W)):=by
 obtain ⟨r,ho,hr⟩:=c
 obtain ⟨ta,ha,ka⟩:=ha
 obtain ⟨tb,hb,kb⟩:=hb
 refine ⟨_,pt_cmpR ho ha hb hm,fun e W sg H F eta Q s k => ?_⟩
 refine ka e W sg H F eta _ s ?_
 unfold tv at k
 rw [R.bind_assoc,R.wp_bind] at k
 refine R.wp_mono k fun x W1 k v H1 F1 eta1 o1 x1 r1 => ?_
 rw [R.bind_assoc,R.wp_bind] at k
 refine kb e W1 sg H1 F1 eta1 _ (s.ext x1 o1) (R.wp_mono k fun y W2 k u H2 F2 eta2 o2 x2 r2 => ?_)
 rw [R.wp_bind] at k
 obtain ⟨z,q,k⟩:=zZD k
 obtain ⟨b,rfl⟩:=hb' x y z q
 refine hr x y v u H2 F2 eta2 W2 _ _ o2 (r1.mono x2.sub x2.pre) r2 q fun w H' F' eta' o' x' rw' => ?_
 cases rw'
 exact ⟨b,rfl,k H' F' eta' o' (Ext.trans s.ok o1 x1 (Ext.trans o1 o2 x2 x'))⟩
theorem yZ7 (op : Cm) (h1 : op ≠ .inn) (h2 : op ≠ .notin) (hu : X.A.units + 64 < cLine) (ha : EOk B X pa fa) (hb : EOk B X pb fb) :
  TOk B X (.Compare pa [pyCm op] [pb] pos) (tv (fun e W=>(fa e W).bind fun x W=>(fb e W).bind fun y W=>opt (cmpD op x y) W)) :=
 zZFP (crule op h1 h2 hu) (fun _ _ _=>zZEy) (zZBL h1 h2 _) ha hb
def chainF (o1 o2 : Cm) (fa fb fc : Env → Wd → R D) : Env → Wd → R D:=fun e W=>(fa e W).bind fun x W=>(fb e W).bind fun y W=>(opt (cmpD o1 x y) W).bind fun k W =>
  match k with
  | .bl true=>(fc e W).bind fun z W=>opt (cmpD o2 y z) W
  | .bl false=>.ok (.bl false) W
  | _=>.st
theorem zZFv {o1 o2 : Cm} (h1 : o1 ≠ .inn) (h2 : o1 ≠ .notin) (h3 : o2 ≠ .inn) (h4 : o2 ≠ .notin) (hu : X.A.units + 64 < cLine) (ha : EOk B X pa fa) (hb : EOk B X pb fb) (hc : EOk B X pc fc) :
  ∃ (r r' : R2) (ta tb tc : TE),OpR X (compareOp (pyCm o1)) r ∧ OpR X (compareOp (pyCm o2)) r' ∧ PE X pa ta ∧ PE X pb tb ∧ PE X pc tc ∧
   ∀ (e : Env) (W : Wd) (sg : L2.St) (H F : Hp) (eta : List Addr) (Q : VK),Stt B e W sg H F eta →
   (chainF o1 o2 fa fb fc e W).wp B.xq (fun d W' => ∀ (v : V) (H' F' : Hp) (eta' : List Addr),OkH B F' eta' W' H' → Ext F eta H F' eta' H' → Rep B F' eta' d v → Q v H') → tChain r r' ta tb tc sg H Q:=by
 obtain ⟨r,ho,hr⟩:=crule (B:=B) (X:=X) o1 h1 h2 hu
 obtain ⟨r',ho',hr'⟩:=crule (B:=B) (X:=X) o2 h3 h4 hu
 obtain ⟨ta,ha,ka⟩:=ha
 obtain ⟨tb,hb,kb⟩:=hb
 obtain ⟨tc,hc,kc⟩:=hc
 refine ⟨r,r',ta,tb,tc,ho,ho',ha,hb,hc,fun e W sg H F eta Q s k => ?_⟩
 refine ka e W sg H F eta _ s ?_
 unfold chainF at k
 rw [R.wp_bind] at k
 refine R.wp_mono k fun x W1 k v H1 F1 eta1 o1' x1 r1 => ?_
 rw [R.wp_bind] at k
 refine kb e W1 sg H1 F1 eta1 _ (s.ext x1 o1') (R.wp_mono k fun y W2 k u H2 F2 eta2 o2' x2 r2 => ?_)
 rw [R.wp_bind] at k
 obtain ⟨z,q,k⟩:=zZD k
 obtain ⟨b,rfl⟩:=zZEy q
 refine hr x y v u H2 F2 eta2 W2 _ _ o2' (r1.mono x2.sub x2.pre) r2 q fun w H3 F3 eta3 o3' x3 rw' => ?_
 cases rw'
 have y2:=Ext.trans s.ok o1' x1 x2
 have y3:=Ext.trans s.ok o2' y2 x3
 refine ⟨b,rfl, ?_⟩
 cases b with
 | false=>exact k _ H3 F3 eta3 o3' y3 (.bl _)
 | true =>
  rw [if_pos rfl]
  simp only [] at k
  rw [R.wp_bind] at k
  refine kc e W2 sg H3 F3 eta3 _ (s.ext y3 o3') (R.wp_mono k fun z W4 k t H4 F4 eta4 o4' x4 r4 => ?_)
  obtain ⟨z2,q2,k⟩:=zZD k
  have y4:=Ext.trans s.ok o3' y3 x4
  refine hr' y z u t H4 F4 eta4 W4 _ z2 o4' (r2.mono (x3.sub.trans x4.sub) (x3.pre.trans x4.pre)) r4 q2 fun w H5 F5 eta5 o5' x5 rw' => ?_
  exact k w H5 F5 eta5 o5' (Ext.trans s.ok o4' y4 x5) rw'
theorem zZKZ {o1 o2 : Cm} {e : Env} {W : Wd} {Q : D → Wd → Prop} (h : (chainF o1 o2 fa fb fc e W).wp B.xq Q) : (chainF o1 o2 fa fb fc e W).wp B.xq fun d W'=>(∃ b,d = .bl b) ∧ Q d W':=by
 unfold chainF at *
 rw [R.wp_bind] at h ⊢
 refine R.wp_mono h fun x W1 h => ?_
 rw [R.wp_bind] at h ⊢
 refine R.wp_mono h fun y W2 h => ?_
 rw [R.wp_bind] at h ⊢
 obtain ⟨z,q,h⟩:=zZD h
 rw [q]
 obtain ⟨b,rfl⟩:=zZEy q
 cases b with
 | false=>exact ⟨⟨_,rfl⟩,h⟩
 | true =>
  simp only [zZX,R.wp_ok] at h ⊢
  rw [R.wp_bind] at h ⊢
  refine R.wp_mono h fun z W4 h => ?_
  obtain ⟨z2,q2,h⟩:=zZD h
  rw [q2]
  exact ⟨zZEy q2,h⟩
theorem zZJ4 {o1 o2 : Cm} (h1 : o1 ≠ .inn) (h2 : o1 ≠ .notin) (h3 : o2 ≠ .inn) (h4 : o2 ≠ .notin) (hu : X.A.units + 64 < cLine) (ha : EOk B X pa fa) (hb : EOk B X pb fb) (hc : EOk B X pc fc) :
  EOk B X (.Compare pa [pyCm o1,pyCm o2] [pb,pc] pos) (chainF o1 o2 fa fb fc):=by
 obtain ⟨r,r',ta,tb,tc,ho,ho',pa',pb',pc',k⟩:=zZFv h1 h2 h3 h4 hu ha hb hc
 exact ⟨_,pe_chain ho ho' pa' pb' pc' (zZBL h3 h4 _),k⟩
theorem zZJz {o1 o2 : Cm} (h1 : o1 ≠ .inn) (h2 : o1 ≠ .notin) (h3 : o2 ≠ .inn) (h4 : o2 ≠ .notin) (hu : X.A.units + 64 < cLine) (ha : EOk B X pa fa) (hb : EOk B X pb fb) (hc : EOk B X pc fc) :
  TOk B X (.Compare pa [pyCm o1,pyCm o2] [pb,pc] pos) (tv (chainF o1 o2 fa fb fc)):=by
 obtain ⟨r,r',ta,tb,tc,ho,ho',pa',pb',pc',k⟩:=zZFv h1 h2 h3 h4 hu ha hb hc
 refine ⟨_,pt_chain ho ho' pa' pb' pc' (zZBL h3 h4 _),fun e W sg H F eta Q s q => ?_⟩
 refine k e W sg H F eta _ s ?_
 unfold tv at q
 rw [R.wp_bind] at q
 refine R.wp_mono (zZKZ q) fun d W1 ⟨⟨b,hb⟩,q⟩ v H1 F1 eta1 o1' x1 r1 => ?_
 subst hb
 cases r1
 exact ⟨b,rfl,q H1 F1 eta1 o1' x1⟩
end
end DL
set_option maxRecDepth 100000
set_option maxHeartbeats 4000000
namespace DL
open PySem PySem.Spec PyProof.Rows
open L2 hiding St
section
variable {B : Tb} {X : Cx} {py pa pb pc : Expr} {f fa fb fc fr : Env → Wd → R D} {rest : List Expr} {pos : Pos}
def andF (fa fr : Env → Wd → R D) : Env → Wd → R D:=fun e W=>(fa e W).bind fun x W =>
  match x with
  | .bl true=>fr e W
  | .bl false=>.ok (.bl false) W
  | _=>.st
def orF (fa fr : Env → Wd → R D) : Env → Wd → R D:=fun e W=>(fa e W).bind fun x W =>
  match x with
  | .bl true=>.ok (.bl true) W
  | .bl false=>fr e W
  | _=>.st
theorem zZIZ {op : BoolOp} (ha : EOk B X pa fa) : EOk B X (.BoolOp op [pa] pos) fa:=by
 obtain ⟨ta,ha,ka⟩:=ha
 exact ⟨_,pe_one ha,ka⟩
theorem zZMf (ha : EOk B X pa fa) (hb : EOk B X (.BoolOp .And (pb :: rest) pos) fr) : EOk B X (.BoolOp .And (pa :: pb :: rest) pos) (andF fa fr):=by
 obtain ⟨ta,ha,ka⟩:=ha
 obtain ⟨tb,hb,kb⟩:=hb
 refine ⟨_,pe_and ha hb,fun e W sg H F eta Q s k => ?_⟩
 refine ka e W sg H F eta _ s ?_
 unfold andF at k
 rw [R.wp_bind] at k
 refine R.wp_mono k fun x W1 k v H1 F1 eta1 o1 x1 r1 => ?_
 cases r1 with
 | bl b =>
  cases b with
  | true=>exact ⟨true,rfl,kb e W1 sg H1 F1 eta1 _ (s.ext x1 o1) (R.wp_mono k fun d W2 k v H' F' eta' o' x' r'=>k v H' F' eta' o' (Ext.trans s.ok o1 x1 x') r')⟩
  | false=>exact ⟨false,rfl,k _ H1 F1 eta1 o1 x1 (.bl _)⟩
 | _=>exact k.elim
theorem zZNd (ha : EOk B X pa fa) (hb : EOk B X (.BoolOp .Or (pb :: rest) pos) fr) : EOk B X (.BoolOp .Or (pa :: pb :: rest) pos) (orF fa fr):=by
 obtain ⟨ta,ha,ka⟩:=ha
 obtain ⟨tb,hb,kb⟩:=hb
 refine ⟨_,pe_or ha hb,fun e W sg H F eta Q s k => ?_⟩
 refine ka e W sg H F eta _ s ?_
 unfold orF at k
 rw [R.wp_bind] at k
 refine R.wp_mono k fun x W1 k v H1 F1 eta1 o1 x1 r1 => ?_
 cases r1 with
 | bl b =>
  cases b with
  | false=>exact ⟨false,rfl,kb e W1 sg H1 F1 eta1 _ (s.ext x1 o1) (R.wp_mono k fun d W2 k v H' F' eta' o' x' r'=>k v H' F' eta' o' (Ext.trans s.ok o1 x1 x') r')⟩
  | true=>exact ⟨true,rfl,k _ H1 F1 eta1 o1 x1 (.bl _)⟩
 | _=>exact k.elim
theorem TOk.ofW (h : WOk B X pa (tv fa)) : TOk B X pa (tv fa):=by
 obtain ⟨t,h,k⟩:=h
 exact ⟨t,h.pt,k⟩
theorem zZKp (ha : TOk B X pa (tv fa)) : WOk B X (.BoolOp .And [pa] pos) (tv fa):=by
 obtain ⟨t,h,k⟩:=ha
 exact ⟨t,pw_and1 h,k⟩
theorem zZME (ha : TOk B X pa (tv fa)) : WOk B X (.BoolOp .Or [pa] pos) (tv fa):=by
 obtain ⟨t,h,k⟩:=ha
 exact ⟨t,pw_or1 h,k⟩
theorem zZMc (ha : TOk B X pa (tv fa)) (hb : WOk B X (.BoolOp .And (pb :: rest) pos) (tv fr)) : WOk B X (.BoolOp .And (pa :: pb :: rest) pos) (tv (andF fa fr)):=by
 obtain ⟨ta,ha,ka⟩:=ha
 obtain ⟨tb,hb,kb⟩:=hb
 refine ⟨_,pw_and ha hb,fun e W sg H F eta Q s k => ?_⟩
 refine ka e W sg H F eta _ s ?_
 unfold tv andF at k
 unfold tv
 rw [R.bind_assoc,R.wp_bind] at k
 rw [R.wp_bind]
 refine R.wp_mono k fun x W1 k => ?_
 cases x with
 | bl b =>
  simp only [truD,zZX,R.wp_ok]
  intro H1 F1 eta1 o1 x1
  cases b with
  | true =>
   rw [if_pos rfl]
   exact kb e W1 sg H1 F1 eta1 _ (s.ext x1 o1) (R.wp_mono k fun d W2 k H' F' eta' o' x'=>k H' F' eta' o' (Ext.trans s.ok o1 x1 x'))
  | false =>
   rw [if_neg (by decide)]
   exact k H1 F1 eta1 o1 x1
 | _=>exact k.elim
theorem zZNc (ha : TOk B X pa (tv fa)) (hb : WOk B X (.BoolOp .Or (pb :: rest) pos) (tv fr)) : WOk B X (.BoolOp .Or (pa :: pb :: rest) pos) (tv (orF fa fr)):=by
 obtain ⟨ta,ha,ka⟩:=ha
 obtain ⟨tb,hb,kb⟩:=hb
 refine ⟨_,pw_or ha hb,fun e W sg H F eta Q s k => ?_⟩
 refine ka e W sg H F eta _ s ?_
 unfold tv orF at k
 unfold tv
 rw [R.bind_assoc,R.wp_bind] at k
 rw [R.wp_bind]
 refine R.wp_mono k fun x W1 k => ?_
 cases x with
 | bl b =>
  simp only [truD,zZX,R.wp_ok]
  intro H1 F1 eta1 o1 x1
  cases b with
  | false =>
   rw [if_neg (by decide)]
   exact kb e W1 sg H1 F1 eta1 _ (s.ext x1 o1) (R.wp_mono k fun d W2 k H' F' eta' o' x'=>k H' F' eta' o' (Ext.trans s.ok o1 x1 x'))
  | true =>
   rw [if_pos rfl]
   exact k H1 F1 eta1 o1 x1
 | _=>exact k.elim
theorem zZMk (hc : TOk B X pc (tv fc)) (ha : EOk B X pa fa) (hb : EOk B X pb fb) : EOk B X (.IfExp pc pa pb pos) (fun e W=>(fc e W).bind fun x W=>(opt (truD x) W).bind fun k W=>if k then fa e W else fb e W):=by
 obtain ⟨tc,hc,kc⟩:=hc
 obtain ⟨ta,ha,ka⟩:=ha
 obtain ⟨tb,hb,kb⟩:=hb
 refine ⟨_,pe_ifExp hc ha hb,fun e W sg H F eta Q s k => ?_⟩
 refine kc e W sg H F eta _ s ?_
 unfold tv
 rw [R.wp_bind] at k ⊢
 refine R.wp_mono k fun x W1 k => ?_
 rw [R.wp_bind] at k
 refine R.wp_mono k fun b W2 k H1 F1 eta1 o1 x1 => ?_
 cases b with
 | true =>
  rw [if_pos rfl] at k ⊢
  exact ka e W2 sg H1 F1 eta1 _ (s.ext x1 o1) (R.wp_mono k fun d W2 k v H' F' eta' o' x' r'=>k v H' F' eta' o' (Ext.trans s.ok o1 x1 x') r')
 | false =>
  rw [if_neg (by decide)] at k ⊢
  exact kb e W2 sg H1 F1 eta1 _ (s.ext x1 o1) (R.wp_mono k fun d W2 k v H' F' eta' o' x' r'=>k v H' F' eta' o' (Ext.trans s.ok o1 x1 x') r')
variable {e : Env} {sg : L2.St} {F F' H H' : Hp} {eta eta' : List Addr} {W W' : Wd}
theorem SrcRep.ext {s : Src} {v : V} (h : SrcRep B e sg F eta s v) (x : Ext F eta H F' eta' H') : SrcRep B e sg F' eta' s v:=by
 cases s with
 | frz xs d=>exact ⟨h.1.mono x.sub x.pre,h.2⟩
 | slot i xs=>exact h
 | cell n=>obtain ⟨a,h1,h2⟩:=h; exact ⟨a,zZCx x.pre h1,h2⟩
 | str z=>exact h
theorem SrcRep.seq {s : Src} {v : V} {xs : List D} (st : Stt B e W sg H F eta) (h : SrcRep B e sg F eta s v) (hi : items W s = some xs) (hs : s.isStr = false) :
  ∃ a vs,v = .ref a ∧ RepL B F eta xs vs ∧ (H a = some (.lst vs) ∨ TupF H a vs):=by
 cases s with
 | frz ys d =>
  simp [items] at hi
  subst hi
  obtain ⟨r,hd⟩:=h
  rcases hd with rfl | rfl
  ·cases r with
   | lst h r=>exact ⟨_,_,rfl,r,.inl (st.ok.sub _ _ h)⟩
  ·cases r with
   | tup h r=>exact ⟨_,_,rfl,r,.inr (h.mono st.ok.sub)⟩
 | slot i ys =>
  simp [items] at hi
  subst hi
  obtain ⟨h1,h2⟩:=h
  obtain ⟨a,vs,q1,q2,q3,_,_⟩:=st.sl i _ h1
  rw [q1] at h2
  cases h2
  exact ⟨a,vs,rfl,q3,.inl q2⟩
 | cell n =>
  obtain ⟨a,h1,rfl⟩:=h
  simp only [items] at hi
  split at hi
  ·rename_i ys hw
   cases hi
   obtain ⟨vs,q1,q2⟩:=st.ok.cell n a _ h1 hw
   exact ⟨a,vs,rfl,q2,.inl q1⟩
  ·cases hi
 | str z=>cases hs
theorem zZHt {d : D} {s : Src} {v : V} (h : srcD d = some s) (r : Rep B F eta d v) : SrcRep B e sg F eta s v:=by
 cases r with
 | str z=>simp [srcD] at h; subst h; rfl
 | tup h1 r1=>simp [srcD] at h; subst h; exact ⟨.tup h1 r1,.inr rfl⟩
 | lst h1 r1=>simp [srcD] at h; subst h; exact ⟨.lst h1 r1,.inl rfl⟩
 | own h1=>simp [srcD] at h; subst h; exact ⟨_,h1,rfl⟩
 | ext _=>simp [srcD] at h
 | tupz _ _=>simp [srcD] at h
 | dct _ _=>simp [srcD] at h
 | dtt _ _=>simp [srcD] at h
 | kt _=>simp [srcD] at h
 | _=>simp [srcD] at h
theorem zZNa (ha : EOk B X pa fa) : SOk B X pa (fun e W=>(fa e W).bind fun d W=>opt (srcD d) W):=by
 obtain ⟨ta,ha,ka⟩:=ha
 refine ⟨_,ha,fun e W sg H F eta Q s k => ?_⟩
 refine ka e W sg H F eta _ s ?_
 rw [R.wp_bind] at k
 refine R.wp_mono k fun x W1 k v H1 F1 eta1 o1 x1 r1 => ?_
 obtain ⟨z,q,k⟩:=zZD k
 exact k v H1 F1 eta1 o1 x1 (zZHt q r1)
theorem zZMg {i : Nat} {x : Str} (hN : X.N[i]? = some x) (hv : Vis X.env.scope x) (hd : (x == ("__debug__" : Str)) = false) (hc : (x == ("__classdict__" : Str)) = false) (g : Cfg) :
  SOk B X (.Name x pos) (srcOf (.var i) (evE g (.var i))):=by
 refine ⟨_,pe_var hN hv hd hc,fun e W sg H F eta Q s k => ?_⟩
 unfold srcOf at k
 simp only [] at k
 split at k
 ·rename_i xs q
  have z:=s.sl i _ q
  obtain ⟨a,vs,h1,_⟩:=z
  exact ⟨_,h1,k _ H F eta s.ok (Ext.refl _ _ _) ⟨q,h1⟩⟩
 ·rename_i d q
  obtain ⟨z,q2,k⟩:=zZD k
  have r:=s.sl i _ q
  obtain ⟨v,h1,h2⟩:=r
  exact ⟨v,h1,k v H F eta s.ok (Ext.refl _ _ _) (zZHt q2 h2)⟩
 ·exact k.elim
/-- a sequence,then an expression,then a rule by values -/
theorem zZKO {r : R2} {fs : Env → Wd → R Src} {g : Wd → Src → D → Option D} {t2 : TE → TE → TE} (ha : SOk B X pa fs) (hb : EOk B X pb fb)
  (hp : ∀ ta tb,PE X pa ta → PE X pb tb → PE X py (t2 ta tb)) (ht : ∀ ta tb sg H Q,(ta sg H fun x H1=>tb sg H1 fun y H2=>r x y H2 Q) → t2 ta tb sg H Q)
  (hr : ∀ (e : Env) (sg : L2.St) s y v u (H F : Hp) (eta : List Addr) (W : Wd) (Q : VK) z,Stt B e W sg H F eta → SrcRep B e sg F eta s v → Rep B F eta y u → g W s y = some z →
   (∀ (w : V) (H' F' : Hp) (eta' : List Addr),OkH B F' eta' W H' → Ext F eta H F' eta' H' → Rep B F' eta' z w → Q w H') → r v u H Q) :
  EOk B X py (fun e W=>(fs e W).bind fun s W=>(fb e W).bind fun y W=>opt (g W s y) W):=by
 obtain ⟨ta,ha,ka⟩:=ha
 obtain ⟨tb,hb,kb⟩:=hb
 refine ⟨_,hp _ _ ha hb,fun e W sg H F eta Q s k=>ht _ _ _ _ _ ?_⟩
 refine ka e W sg H F eta _ s ?_
 rw [R.wp_bind] at k
 refine R.wp_mono k fun x W1 k v H1 F1 eta1 o1 x1 r1 => ?_
 rw [R.wp_bind] at k
 refine kb e W1 sg H1 F1 eta1 _ (s.ext x1 o1) (R.wp_mono k fun y W2 k u H2 F2 eta2 o2 x2 r2 => ?_)
 obtain ⟨z,q,k⟩:=zZD k
 refine hr e sg x y v u H2 F2 eta2 W2 Q z (s.ext (Ext.trans s.ok o1 x1 x2) o2) (r1.ext x2) r2 q fun w H' F' eta' o' x' rw' => ?_
 exact k w H' F' eta' o' (Ext.trans s.ok o1 x1 (Ext.trans o1 o2 x2 x')) rw'
theorem zZMv {xs : List D} {i z : D} (h : atD xs i = some z) : ∃ k,i = .int k ∧ L2.atI xs k = some z:=by
 cases i <;> simp [atD] at h
 exact ⟨_,rfl,h⟩
theorem zZMr {fs : Env → Wd → R Src} (hx : PlainIx pb) (ha : SOk B X pa fs) (hb : EOk B X pb fb) :
  EOk B X (.Subscript pa pb pos) (fun e W=>(fs e W).bind fun s W=>(fb e W).bind fun i W=>opt ((items W s).bind fun xs=>atD xs i) W):=by
 refine zZKO (g:=fun W s i=>(items W s).bind fun xs=>atD xs i) (r:=rIx X.K) ha hb (fun _ _ h1 h2=>pe_ix ix_seq h1 h2 hx) (fun _ _ _ _ _ h=>h) ?_
 intro e sg s y v u H F eta W Q z st r1 r2 q k
 simp only [Option.bind_eq_some_iff] at q
 obtain ⟨xs,hi,q⟩:=q
 obtain ⟨i,rfl,q3⟩:=zZMv q
 clear q
 cases r2
 cases hs : s.isStr with
 | false =>
  obtain ⟨a,vs,rfl,rl,hh⟩:=r1.seq st hi hs
  obtain ⟨w,q1,q2⟩:=rl.atI q3
  rcases hh with hh | hh
  ·exact .inl ⟨a,vs,i,w,rfl,rfl,SqL.of hh,q1,k w H F eta st.ok (Ext.refl _ _ _) q2⟩
  ·exact .inr (.inl ⟨a,vs,i,w,rfl,rfl,hh.sq,q1,k w H F eta st.ok (Ext.refl _ _ _) q2⟩)
 | true =>
  cases s with
  | str zz =>
   obtain rfl : v = .str zz:=r1
   simp only [items] at hi
   split at hi
   ·rename_i hl
    cases hi
    obtain ⟨c,hc,rfl⟩ : ∃ c,L2.atI zz.cps.toList i = some c ∧ D.str ⟨#[c]⟩ = z:=by
     unfold L2.atI at q3 ⊢
     rw [List.length_map] at q3
     cases hq : ixN zz.cps.toList.length i with
     | none=>rw [hq] at q3; cases q3
     | some j =>
      rw [hq] at q3
      simp only [Option.bind_some,List.getElem?_map,Option.map_eq_some_iff] at q3 ⊢
      exact q3
    exact .inr (.inr ⟨zz,i,c,rfl,rfl,Nat.le_trans hl zZb,hc,k _ H F eta st.ok (Ext.refl _ _ _) (.str _)⟩)
   ·cases hi
  | _=>cases hs
theorem zZIM {d : D} {v : V} (r : Rep B F eta d v) (h : flatD d = true) : flatV v = true:=by
 cases r <;> simp_all [flatD,flatV]
theorem zZHd : ∀ {ds : List D} {vs : List V},RepL B F eta ds vs → ds.all flatD = true → vs.all flatV = true
 | _,_,.nil,_=>rfl
 | _,_,.cons r t,h=>by
  simp only [List.all_cons,Bool.and_eq_true] at h ⊢
  exact ⟨zZIM r h.1,zZHd t h.2⟩
theorem zZM7 {x y : D} {v u : V} (r1 : Rep B F eta x v) (r2 : Rep B F eta y u) (h1 : flatD x = true) (h2 : flatD y = true) : eqV v u = eqVD x y:=by
 cases r1 <;> simp [flatD] at h1 <;> cases r2 <;> simp [flatD] at h2 <;> rfl
theorem inVD {x : D} {u : V} (r1 : Rep B F eta x u) (h1 : flatD x = true) : ∀ {ds : List D} {vs : List V},RepL B F eta ds vs → ds.all flatD = true → inV u vs = ds.any fun y=>eqVD y x
 | _,_,.nil,_=>rfl
 | _,_,.cons r t,h=>by
  simp only [List.all_cons,Bool.and_eq_true] at h
  unfold inV at *
  simp only [List.any_cons]
  rw [zZM7 r r1 h.1 h1]
  have:=inVD r1 h1 t h.2
  unfold inV at this
  rw [this]
/-- an expression,then a sequence -/
theorem zZHF {r : R2} {fs : Env → Wd → R Src} {g : Wd → D → Src → Option D} {t2 : TE → TE → TE} (ha : EOk B X pa fa) (hb : SOk B X pb fs)
  (hp : ∀ ta tb,PE X pa ta → PE X pb tb → PE X py (t2 ta tb)) (ht : ∀ ta tb sg H Q,(ta sg H fun x H1=>tb sg H1 fun y H2=>r x y H2 Q) → t2 ta tb sg H Q)
  (hr : ∀ (e : Env) (sg : L2.St) x s v u (H F : Hp) (eta : List Addr) (W : Wd) (Q : VK) z,Stt B e W sg H F eta → Rep B F eta x v → SrcRep B e sg F eta s u → g W x s = some z →
   (∀ (w : V) (H' F' : Hp) (eta' : List Addr),OkH B F' eta' W H' → Ext F eta H F' eta' H' → Rep B F' eta' z w → Q w H') → r v u H Q) :
  EOk B X py (fun e W=>(fa e W).bind fun x W=>(fs e W).bind fun s W=>opt (g W x s) W):=by
 obtain ⟨ta,ha,ka⟩:=ha
 obtain ⟨tb,hb,kb⟩:=hb
 refine ⟨_,hp _ _ ha hb,fun e W sg H F eta Q s k=>ht _ _ _ _ _ ?_⟩
 refine ka e W sg H F eta _ s ?_
 rw [R.wp_bind] at k
 refine R.wp_mono k fun x W1 k v H1 F1 eta1 o1 x1 r1 => ?_
 rw [R.wp_bind] at k
 refine kb e W1 sg H1 F1 eta1 _ (s.ext x1 o1) (R.wp_mono k fun y W2 k u H2 F2 eta2 o2 x2 r2 => ?_)
 obtain ⟨z,q,k⟩:=zZD k
 refine hr e sg x y v u H2 F2 eta2 W2 Q z (s.ext (Ext.trans s.ok o1 x1 x2) o2) (r1.mono x2.sub x2.pre) r2 q fun w H' F' eta' o' x' rw' => ?_
 exact k w H' F' eta' o' (Ext.trans s.ok o1 x1 (Ext.trans o1 o2 x2 x')) rw'
theorem zZGS {neg : Bool} {x z : D} {s : Src} {v u : V} {Q : VK} (st : Stt B e W sg H F eta) (r1 : Rep B F eta x v) (r2 : SrcRep B e sg F eta s u) (q : inG neg W x s = some z)
  (k : ∀ (w : V) (H' F' : Hp) (eta' : List Addr),OkH B F' eta' W H' → Ext F eta H F' eta' H' → Rep B F' eta' z w → Q w H') (K : PySem.W.Frag) : rIn K neg v u H Q:=by
 unfold inG at q
 cases hs : s.isStr with
 | true=>rw [hs] at q; cases q
 | false =>
  rw [hs,if_neg (by decide)] at q
  simp only [Option.bind_eq_some_iff,Option.map_eq_some_iff] at q
  obtain ⟨xs,hi,b,q,rfl⟩:=q
  obtain ⟨a,vs,rfl,rl,hh⟩:=r2.seq st hi hs
  unfold inD at q
  split at q
  ·rename_i hf
   simp only [Bool.and_eq_true] at hf
   cases q
   have e1:=inVD r1 hf.1 rl hf.2
   refine ⟨a,vs,rfl,hh.imp SqL.of TupF.sq,zZIM r1 hf.1,zZHd rl hf.2, ?_⟩
   rw [e1]
   exact k _ H F eta st.ok (Ext.refl _ _ _) (.bl _)
  ·cases q
theorem zZNU {fs : Env → Wd → R Src} (hm : behindInMarks .In pb = false) (ha : EOk B X pa fa) (hb : SOk B X pb fs) :
  EOk B X (.Compare pa [.In] [pb] pos) (fun e W=>(fa e W).bind fun x W=>(fs e W).bind fun s W=>opt (inG false W x s) W) :=
 zZHF ha hb (fun _ _ h1 h2=>pe_cmpR op_in_seq h1 h2 hm) (fun _ _ _ _ _ h=>h) fun e sg x s v u H F eta W Q z st r1 r2 q k=>zZGS st r1 r2 q k _
theorem zZJe {fs : Env → Wd → R Src} (hm : behindInMarks .NotIn pb = false) (ha : EOk B X pa fa) (hb : SOk B X pb fs) :
  EOk B X (.Compare pa [.NotIn] [pb] pos) (fun e W=>(fa e W).bind fun x W=>(fs e W).bind fun s W=>opt (inG true W x s) W) :=
 zZHF ha hb (fun _ _ h1 h2=>pe_cmpR op_notIn_seq h1 h2 hm) (fun _ _ _ _ _ h=>h) fun e sg x s v u H F eta W Q z st r1 r2 q k=>zZGS st r1 r2 q k _
theorem zZIL {op : CmpOp} {neg : Bool} {fs : Env → Wd → R Src} (ho : OpR X (compareOp op) (rIn X.K neg)) (hm : behindInMarks op pb = false) (ha : EOk B X pa fa) (hb : SOk B X pb fs) :
  TOk B X (.Compare pa [op] [pb] pos) (tv (fun e W=>(fa e W).bind fun x W=>(fs e W).bind fun s W=>opt (inG neg W x s) W)):=by
 obtain ⟨ta,ha,ka⟩:=ha
 obtain ⟨tb,hb,kb⟩:=hb
 refine ⟨_,pt_cmpR ho ha hb hm,fun e W sg H F eta Q s k => ?_⟩
 refine ka e W sg H F eta _ s ?_
 unfold tv at k
 rw [R.bind_assoc,R.wp_bind] at k
 refine R.wp_mono k fun x W1 k v H1 F1 eta1 o1 x1 r1 => ?_
 rw [R.bind_assoc,R.wp_bind] at k
 refine kb e W1 sg H1 F1 eta1 _ (s.ext x1 o1) (R.wp_mono k fun y W2 k u H2 F2 eta2 o2 x2 r2 => ?_)
 rw [R.wp_bind] at k
 obtain ⟨z,q,k⟩:=zZD k
 refine zZGS (s.ext (Ext.trans s.ok o1 x1 x2) o2) (r1.mono x2.sub x2.pre) r2 q (fun w H' F' eta' o' x' rw' => ?_) _
 have hz : ∃ b,z = .bl b:=by
  unfold inG at q
  split at q
  ·cases q
  ·simp only [Option.bind_eq_some_iff,Option.map_eq_some_iff] at q
   obtain ⟨_,_,b,_,rfl⟩:=q
   exact ⟨_,rfl⟩
 obtain ⟨b,rfl⟩:=hz
 cases rw'
 exact ⟨b,rfl,k H' F' eta' o' (Ext.trans s.ok o1 x1 (Ext.trans o1 o2 x2 x'))⟩
end
end DL
set_option maxRecDepth 100000
set_option maxHeartbeats 4000000
namespace DL
open PySem PySem.Spec PyProof.Rows
open L2 hiding St
section
variable {B : Tb} {X : Cx} {py pa pb pc : Expr} {f fa fb fc fr : Env → Wd → R D} {rest es : List Expr} {pos : Pos}
variable {e : Env} {sg : L2.St} {F F' H H' : Hp} {eta eta' : List Addr} {W W' : Wd}
theorem zZMB {x : D} {v : V} {b : Bool} (o : OkH B F eta W H) (r1 : Rep B F eta x v) (q : truD x = some b) (K : PySem.W.Frag) : TruV K v H b:=by
 cases r1 with
 | non=>simp [truD] at q; exact q
 | bl c=>simp [truD] at q; exact q.symm
 | int i=>simp [truD] at q; rw [← q]; rfl
 | str _=>simp [truD] at q
 | tup h r =>
  have q:=Option.some.inj q
  refine .inr (.inl ⟨_,(h.mono o.sub).sq, ?_⟩)
  rw [← q]
  cases r <;> rfl
 | lst h r =>
  have q:=Option.some.inj q
  refine .inl ⟨_,SqL.of (o.sub _ _ h), ?_⟩
  rw [← q]
  cases r <;> rfl
 | ins h r=>simp [truD] at q
 | own h=>simp [truD] at q
 | ext h=>simp [truD] at q
 | tupz h r=>simp [truD] at q
 | dct h r=>simp [truD] at q
 | dtt h r=>simp [truD] at q
 | kt h=>simp [truD] at q
theorem zZLL (ha : EOk B X pa fa) : EOk B X (.UnaryOp .Not pa pos) (fun e W=>(fa e W).bind fun x W=>(opt (truD x) W).bind fun k W=>.ok (.bl (!k)) W):=by
 obtain ⟨ta,ha,ka⟩:=ha
 refine ⟨_,pe_notT ha,fun e W sg H F eta Q s k => ?_⟩
 refine ka e W sg H F eta _ s ?_
 rw [R.wp_bind] at k
 refine R.wp_mono k fun x W1 k v H1 F1 eta1 o1 x1 r1 => ?_
 rw [R.wp_bind] at k
 obtain ⟨b,q,k⟩:=zZD k
 exact ⟨b,zZMB o1 r1 q _,k _ H1 F1 eta1 o1 x1 (.bl _)⟩
def ObOk (B : Tb) (X : Cx) (py : Expr) (f : Env → Wd → R (Nat × List (Nat × D))) : Prop := ∃ t : TE,PE X py t ∧ ∀ (e : Env) (W : Wd) (sg : L2.St) (H F : Hp) (eta : List Addr) (Q : VK),Stt B e W sg H F eta →
 (f e W).wp B.xq (fun o W' => ∀ (a dx : Addr) (gs : List (Str × V)) (H' F' : Hp) (eta' : List Addr),OkH B F' eta' W' H' → Ext F eta H F' eta' H' → H' a = some (.ins (B.ca o.1) dx gs) → RepF B F' eta' o.2 gs → Q (.ref a) H') → t sg H Q
theorem zZKP {i : Nat} {x : Str} (hN : X.N[i]? = some x) (hv : Vis X.env.scope x) (hd : (x == ("__debug__" : Str)) = false) (hc : (x == ("__classdict__" : Str)) = false) (g : Cfg) :
  ObOk B X (.Name x pos) (objOf (.var i) (evE g (.var i))):=by
 refine ⟨_,pe_var hN hv hd hc,fun e W sg H F eta Q s k => ?_⟩
 unfold objOf at k
 simp only [] at k
 split at k
 ·rename_i c fs q
  obtain ⟨a,dx,gs,h1,h2,h3,_⟩:=s.sl i _ q
  exact ⟨_,h1,k a dx gs H F eta s.ok (Ext.refl _ _ _) h2 h3⟩
 ·rename_i c fs q
  obtain ⟨v,h1,h2⟩:=s.sl i _ q
  cases h2 with
  | ins h r=>exact ⟨_,h1,k _ _ _ H F eta s.ok (Ext.refl _ _ _) (s.ok.sub _ _ h) r⟩
 ·rename_i n q
  obtain ⟨v,h1,h2⟩:=s.sl i _ q
  cases h2 with
  | own h =>
   split at k
   ·rename_i c fs hw
    obtain ⟨dx,gs,q1,q2⟩:=s.ok.cell n _ _ h hw
    exact ⟨_,h1,k _ dx gs H F eta s.ok (Ext.refl _ _ _) q1 q2⟩
   ·exact k.elim
 ·exact k.elim
theorem zZMP (ha : EOk B X pa fa) : ObOk B X pa (fun e W=>(fa e W).bind fun d W =>
  match d with
  | .ins c fs=>.ok (c,fs) W
  | .own n=>(match W[n]? with | some (.ins c fs)=>.ok (c,fs) W | _=>.st)
  | _=>.st):=by
 obtain ⟨ta,ha,ka⟩:=ha
 refine ⟨_,ha,fun e W sg H F eta Q s k => ?_⟩
 refine ka e W sg H F eta _ s ?_
 rw [R.wp_bind] at k
 refine R.wp_mono k fun x W1 k v H1 F1 eta1 o1 x1 r1 => ?_
 cases r1 with
 | ins h r=>exact k _ _ _ H1 F1 eta1 o1 x1 (o1.sub _ _ h) r
 | own h =>
  simp only [] at k
  split at k
  ·rename_i c fs hw
   obtain ⟨dx,gs,q1,q2⟩:=o1.cell _ _ _ h hw
   exact k _ dx gs H1 F1 eta1 o1 x1 q1 q2
  ·exact k.elim
 | _=>exact k.elim
/-- the fields that a class has -/
def FldOk (B : Tb0) (K : PySem.W.Frag) (g : Cfg) : Prop := ∀ c f,g.fld c f = true → f < B.nA ∧ Cls K (B.ca c) ∧ NoAttr K (B.ca c) (B.fn f)
theorem zZLe {g : Cfg} {nm : Str} {f : Nat} {fo : Env → Wd → R (Nat × List (Nat × D))} (hf : FldOk B X.K g) (hn : B.fn f = nm) (hb : attributeBase pa nm X.env (eval pa X.env) = eval pa X.env) (ha : ObOk B X pa fo) :
  EOk B X (.Attribute pa nm pos) (fun e W=>(fo e W).bind fun o W=>opt (fldD g f o) W):=by
 subst hn
 obtain ⟨ta,ha,ka⟩:=ha
 refine ⟨_,pe_fld ha hb,fun e W sg H F eta Q s k => ?_⟩
 refine ka e W sg H F eta _ s ?_
 rw [R.wp_bind] at k
 refine R.wp_mono k fun o W1 k a dx gs H1 F1 eta1 o1 x1 h1 r1 => ?_
 obtain ⟨z,q,k⟩:=zZD k
 unfold fldD at q
 split at q
 ·rename_i hg
  obtain ⟨f1,f2,f3⟩:=hf _ _ hg
  obtain ⟨y,y1,y2⟩:=r1.lookup f1 q
  exact ⟨a,_,dx,gs,y,rfl,h1,f2,f3,y1,k y H1 F1 eta1 o1 x1 y2⟩
 ·cases q
def notStar : Expr → Bool
 | .Starred _ _=>false | _=>true
theorem star1 {a : Expr} (h : notStar a = true) (es : List Expr) (env : PySem.Env) : starEach (a :: es) env = (false,eval a env) :: starEach es env:=by
 cases a <;> first | rfl | cases h
theorem starS (a : Expr) (p : Pos) (es : List Expr) (env : PySem.Env) : starEach (.Starred a p :: es) env = (true,eval a env) :: starEach es env:=rfl
theorem zZA4 : ∀ {es : List Expr} (env : PySem.Env) (pos : Pos),es.all notStar = true → (backTo pos (starEach es env)).any (·.1) = false
 | [],_,_,_=>rfl
 | a :: es,env,pos,h=>by
  simp only [List.all_cons,Bool.and_eq_true] at h
  rw [star1 h.1]
  have:=zZA4 (es:=es) env pos h.2
  unfold backTo at this ⊢
  simpa using this
theorem zZGm : ∀ {es : List Expr} (env : PySem.Env) (pos : Pos),es.all notStar = false → (backTo pos (starEach es env)).any (·.1) = true
 | [],_,_,h=>by simp at h
 | a :: es,env,pos,h=>by
  cases ha : notStar a with
  | true =>
   have h2 : es.all notStar = false:=by simpa [ha] using h
   rw [star1 ha]
   have:=zZGm (es:=es) env pos h2
   unfold backTo at this ⊢
   simpa using this
  | false =>
   cases a with
   | Starred v p=>rw [starS]; unfold backTo; simp
   | _=>cases ha
theorem zZMV : AOk B X [] (fun _ W=>.ok [] W):=⟨_,pa_nil,fun e W sg H F eta Q s k=>k [] H F eta s.ok (Ext.refl _ _ _) .nil⟩
theorem zZKM {fs : Env → Wd → R (List D)} (hn : notStar pa = true) (ha : EOk B X pa fa) (hs : AOk B X es fs) :
  AOk B X (pa :: es) (fun e W=>(fa e W).bind fun x W=>(fs e W).bind fun xs W=>.ok (x :: xs) W):=by
 obtain ⟨ta,ha,ka⟩:=ha
 obtain ⟨tb,hb,kb⟩:=hs
 refine ⟨_,pa_cons ha hb (star1 hn _ _),fun e W sg H F eta Q s k => ?_⟩
 refine ka e W sg H F eta _ s ?_
 rw [R.wp_bind] at k
 refine R.wp_mono k fun x W1 k v H1 F1 eta1 o1 x1 r1 => ?_
 rw [R.wp_bind] at k
 refine kb e W1 sg H1 F1 eta1 _ (s.ext x1 o1) (R.wp_mono k fun y W2 k u H2 F2 eta2 o2 x2 r2 => ?_)
 exact k _ H2 F2 eta2 o2 (Ext.trans s.ok o1 x1 x2) (.cons (r1.mono x2.sub x2.pre) r2)
def starF (fa : Env → Wd → R D) (fs : Env → Wd → R (List D)) : Env → Wd → R (List D):=fun e W=>(fa e W).bind fun x W =>
  match x with
  | .tup ys=>(fs e W).bind fun xs W=>.ok (ys ++ xs) W
  | .lst ys=>(fs e W).bind fun xs W=>.ok (ys ++ xs) W
  | _=>.st
theorem zZLR {fs : Env → Wd → R (List D)} {p : Pos} (ha : EOk B X pa fa) (hs : AOk B X es fs) : AOk B X (.Starred pa p :: es) (starF fa fs):=by
 obtain ⟨ta,ha,ka⟩:=ha
 obtain ⟨tb,hb,kb⟩:=hs
 refine ⟨_,StX.pa_star ha hb,fun e W sg H F eta Q s k => ?_⟩
 refine ka e W sg H F eta _ s ?_
 unfold starF at k
 rw [R.wp_bind] at k
 refine R.wp_mono k fun x W1 k v H1 F1 eta1 o1 x1 r1 => ?_
 cases r1 with
 | tup h r =>
  simp only [] at k
  rw [R.wp_bind] at k
  refine ⟨_,_,rfl,.inl (h.mono o1.sub).sq, ?_⟩
  refine kb e W1 sg H1 F1 eta1 _ (s.ext x1 o1) (R.wp_mono k fun y W2 k u H2 F2 eta2 o2 x2 r2 => ?_)
  exact k _ H2 F2 eta2 o2 (Ext.trans s.ok o1 x1 x2) ((r.mono x2.sub x2.pre).append r2)
 | lst h r =>
  simp only [] at k
  rw [R.wp_bind] at k
  refine ⟨_,_,rfl,.inr (SqL.of (o1.sub _ _ h)), ?_⟩
  refine kb e W1 sg H1 F1 eta1 _ (s.ext x1 o1) (R.wp_mono k fun y W2 k u H2 F2 eta2 o2 x2 r2 => ?_)
  exact k _ H2 F2 eta2 o2 (Ext.trans s.ok o1 x1 x2) ((r.mono x2.sub x2.pre).append r2)
 | _=>exact k.elim
theorem zZMs {fs : Env → Wd → R (List D)} {x1 : Nat} (hs : AOk B X es fs) : EOk B X (.Tuple es x1 pos) (fun e W=>(fs e W).bind fun xs W=>if xs.length ≤ cap then .ok (.tup xs) W else .st):=by
 obtain ⟨tb,hb,kb⟩:=hs
 refine ⟨_,zZMR hb,fun e W sg H F eta Q s k => ?_⟩
 refine kb e W sg H F eta _ s ?_
 rw [R.wp_bind] at k
 refine R.wp_mono k fun xs W1 k vs H1 F1 eta1 o1 x1 r1 => ?_
 split at k
 ·rename_i hl
  refine ⟨by rw [← r1.length]; exact Nat.le_trans hl zZb,fun p ob hob hp => ?_⟩
  have s1:=zZr (u:=HO.frz ob (.tup vs)) (o1.notF hp)
  exact k _ _ _ eta1 (o1.newF hp) (Ext.trans s.ok o1 x1 (Ext.newFz o1 hp)) (.tup (.new hob) (r1.mono s1 (List.prefix_refl _)))
 ·exact k.elim
theorem zZLQ {fs : Env → Wd → R (List D)} (hs : AOk B X es fs) : FOk B X (.List es pos) (fun e W=>(fs e W).bind fun xs W=>if xs.length ≤ cap then .ok xs W else .st):=by
 obtain ⟨tb,hb,kb⟩:=hs
 refine ⟨_,pe_lst hb,fun e W sg H F eta Q s k => ?_⟩
 refine kb e W sg H F eta _ s ?_
 rw [R.wp_bind] at k
 refine R.wp_mono k fun xs W1 k vs H1 F1 eta1 o1 x1 r1 => ?_
 split at k
 ·rename_i hl
  refine ⟨by rw [← r1.length]; exact Nat.le_trans hl zZb,fun p hp => ?_⟩
  exact k p vs _ F1 eta1 (o1.new hp) (Ext.trans s.ok o1 x1 (Ext.new hp)) (x1.there s.ok o1 hp) upd_same (o1.notF hp) (o1.notE hp) r1
 ·exact k.elim
/-- a new list is frozen,becomes a cell -/
theorem zZLg {fs : Env → Wd → R (List D)} (hs : FOk B X py fs) : EOk B X py (fun e W=>(fs e W).bind fun xs W=>.ok (.lst xs) W):=by
 obtain ⟨tb,hb,kb⟩:=hs
 refine ⟨_,hb,fun e W sg H F eta Q s k => ?_⟩
 refine kb e W sg H F eta _ s ?_
 rw [R.wp_bind] at k
 refine R.wp_mono k fun xs W1 k a vs H1 F1 eta1 o1 x1 h0 h1 h2 h3 r1 => ?_
 have s1:=zZr (u:=HO.lst vs) h2
 refine k (.ref a) H1 (upd F1 a (.lst vs)) eta1 (o1.frz h1 h2 h3) ⟨x1.sub.trans s1,x1.pre,x1.keep,fun b hb => ?_,x1.newE⟩ (.lst upd_same (r1.mono s1 (List.prefix_refl _)))
 by_cases e : b = a
 ·subst e; exact .inr h0
 ·rw [upd_ne e] at hb; exact x1.newF b hb
theorem zZK3 {fs : Env → Wd → R (List D)} (hs : FOk B X py fs) : EOk B X py (fun e W=>(fs e W).bind fun xs W=>newCell (.lst xs) W):=by
 obtain ⟨tb,hb,kb⟩:=hs
 refine ⟨_,hb,fun e W sg H F eta Q s k => ?_⟩
 refine kb e W sg H F eta _ s ?_
 rw [R.wp_bind] at k
 refine R.wp_mono k fun xs W1 k a vs H1 F1 eta1 o1 x1 h0 h1 h2 h3 r1 => ?_
 have o2 : OkH B F1 (eta1 ++ [a]) (W1 ++ [.lst xs]) H1:=o1.toCell h2 h3 ⟨vs,h1,r1.mono (SubH.refl _) (List.prefix_append _ _)⟩
 refine k (.ref a) H1 F1 (eta1 ++ [a]) o2 ⟨x1.sub,x1.pre.trans (List.prefix_append _ _),x1.keep,x1.newF,fun b hb => ?_⟩ (.own ?_)
 ·rcases List.mem_append.mp hb with hb | hb
  ·exact x1.newE b hb
  ·rw [List.mem_singleton.mp hb]; exact .inr h0
 ·rw [← o1.len]; simp
theorem zZLF : OOk B X none (fun _ W=>.ok none W):=⟨_,po_none,fun e W sg H F eta Q s k=>k H F eta s.ok (Ext.refl _ _ _)⟩
theorem zZKo (ha : EOk B X pa fa) : OOk B X (some pa) (fun e W=>(fa e W).bind fun x W=>match x with | .int i=>.ok (some i) W | _=>.st):=by
 obtain ⟨ta,ha,ka⟩:=ha
 refine ⟨_,po_some ha,fun e W sg H F eta Q s k => ?_⟩
 refine ka e W sg H F eta _ s ?_
 rw [R.wp_bind] at k
 refine R.wp_mono k fun x W1 k v H1 F1 eta1 o1 x1 r1 => ?_
 cases r1 with
 | int i=>exact ⟨i,rfl,k H1 F1 eta1 o1 x1⟩
 | _=>exact k.elim
theorem RepL.cut {ds : List D} {vs : List V} (r : RepL B F eta ds vs) (lo hi : Option Int) : RepL B F eta (cutD ds lo hi) (cutV vs lo hi):=by
 unfold cutD cutV
 rw [← r.length]
 exact (r.drop _).take _
theorem zZJO {xs : List D} {lo hi : Option Int} (h1 : HT.sIx xs.length 0 lo = 0) (h2 : HT.sIx xs.length xs.length hi = xs.length) : cutD xs lo hi = xs:=by
 unfold cutD
 rw [h1,h2]
 simp
def slF (fa : Env → Wd → R D) (fl fh : Env → Wd → R (Option Int)) : Env → Wd → R D:=fun e W=>(fa e W).bind fun x W=>(fl e W).bind fun l W=>(fh e W).bind fun h W =>
  match x with
  | .tup xs=>.ok (.tup (cutD xs l h)) W
  | .lst xs=>.ok (.lst (cutD xs l h)) W
  | .own n=>(match W[n]? with | some (.lst xs)=>.ok (.lst (cutD xs l h)) W | _=>.st)
  | _=>.st
theorem zZNC {lo hi : Option Expr} {p2 : Pos} {fl fh : Env → Wd → R (Option Int)} (ha : EOk B X pa fa) (hl : OOk B X lo fl) (hh : OOk B X hi fh) :
  EOk B X (.Subscript pa (.Slice lo hi none p2) pos) (slF fa fl fh):=by
 obtain ⟨ta,ha,ka⟩:=ha
 obtain ⟨tl,hl,kl⟩:=hl
 obtain ⟨th,hh,kh⟩:=hh
 refine ⟨_,pe_slice (sl_tupB.or sl_list) ha hl hh,fun e W sg H F eta Q s k => ?_⟩
 refine ka e W sg H F eta _ s ?_
 unfold slF at k
 rw [R.wp_bind] at k
 refine R.wp_mono k fun x W1 k v H1 F1 eta1 o1 x1 r1 => ?_
 rw [R.wp_bind] at k
 refine kl e W1 sg H1 F1 eta1 _ (s.ext x1 o1) (R.wp_mono k fun l W2 k H2 F2 eta2 o2 x2 => ?_)
 rw [R.wp_bind] at k
 have y2:=Ext.trans s.ok o1 x1 x2
 refine kh e W2 sg H2 F2 eta2 _ (s.ext y2 o2) (R.wp_mono k fun h W3 k H3 F3 eta3 o3 x3 => ?_)
 have y3:=Ext.trans s.ok o2 y2 x3
 have r3:=r1.mono (x2.sub.trans x3.sub) (x2.pre.trans x3.pre)
 cases r3 with
 | tup q r =>
  simp only [] at k
  refine .inl ⟨_,_,rfl,(q.mono o3.sub).sq,fun hw => ?_,fun hw p ob hob hp => ?_⟩
  ·have e : cutD _ l h = _:=zZJO (by rw [r.length]; exact hw.1) (by rw [r.length]; exact hw.2)
   rw [e] at k
   exact k _ H3 F3 eta3 o3 y3 (.tup q r)
  ·have s1:=fun u=>zZr (u:=u) (o3.notF hp)
   exact k _ _ _ eta3 (o3.newF hp) (Ext.trans s.ok o3 y3 (Ext.newFz o3 hp)) (.tup (.new hob) ((r.cut l h).mono (s1 _) (List.prefix_refl _)))
 | lst q r =>
  simp only [] at k
  refine .inr ⟨_,_,rfl,SqL.of (o3.sub _ _ q),fun p hp => ?_⟩
  have s1:=fun u=>zZr (u:=u) (o3.notF hp)
  exact k _ _ _ eta3 (o3.newF hp) (Ext.trans s.ok o3 y3 (Ext.newFz o3 hp)) (.lst upd_same ((r.cut l h).mono (s1 _) (List.prefix_refl _)))
 | own q =>
  simp only [] at k
  split at k
  ·rename_i ys hw
   obtain ⟨vs,q1,q2⟩:=o3.cell _ _ _ q hw
   refine .inr ⟨_,_,rfl,SqL.of q1,fun p hp => ?_⟩
   have s1:=fun u=>zZr (u:=u) (o3.notF hp)
   exact k _ _ _ eta3 (o3.newF hp) (Ext.trans s.ok o3 y3 (Ext.newFz o3 hp)) (.lst upd_same ((q2.cut l h).mono (s1 _) (List.prefix_refl _)))
  ·exact k.elim
 | _=>exact k.elim
theorem SrcRep.lst {s : Src} {v : V} {xs : List D} (st : Stt B e W sg H F eta) (h : SrcRep B e sg F eta s v) (hi : items W s = some xs) (hs : s.isStr = false) (ht : s.isTup = false) :
  ∃ a vs,v = .ref a ∧ RepL B F eta xs vs ∧ H a = some (.lst vs):=by
 cases s with
 | frz ys d =>
  simp [items] at hi
  subst hi
  obtain ⟨r,hd⟩:=h
  rcases hd with rfl | rfl
  ·cases r with
   | lst h r=>exact ⟨_,_,rfl,r,st.ok.sub _ _ h⟩
  ·cases ht
 | slot i ys =>
  simp [items] at hi
  subst hi
  obtain ⟨h1,h2⟩:=h
  obtain ⟨a,vs,q1,q2,q3,_,_⟩:=st.sl i _ h1
  rw [q1] at h2
  cases h2
  exact ⟨a,vs,rfl,q3,q2⟩
 | cell n =>
  obtain ⟨a,h1,rfl⟩:=h
  simp only [items] at hi
  split at hi
  ·rename_i ys hw
   cases hi
   obtain ⟨vs,q1,q2⟩:=st.ok.cell n a _ h1 hw
   exact ⟨a,vs,rfl,q2,q1⟩
  ·cases hi
 | str z=>cases hs
def slFF (fs : Env → Wd → R Src) (fl fh : Env → Wd → R (Option Int)) : Env → Wd → R (List D):=fun e W=>(fs e W).bind fun s W=>(fl e W).bind fun l W=>(fh e W).bind fun h W =>
  if s.isStr || s.isTup then .st else opt ((items W s).map fun xs=>cutD xs l h) W
theorem zZNN {lo hi : Option Expr} {p2 : Pos} {fs : Env → Wd → R Src} {fl fh : Env → Wd → R (Option Int)} (ha : SOk B X pa fs) (hl : OOk B X lo fl) (hh : OOk B X hi fh) :
  FOk B X (.Subscript pa (.Slice lo hi none p2) pos) (slFF fs fl fh):=by
 obtain ⟨ta,ha,ka⟩:=ha
 obtain ⟨tl,hl,kl⟩:=hl
 obtain ⟨th,hh,kh⟩:=hh
 refine ⟨_,pe_slice sl_list ha hl hh,fun e W sg H F eta Q s k => ?_⟩
 refine ka e W sg H F eta _ s ?_
 unfold slFF at k
 rw [R.wp_bind] at k
 refine R.wp_mono k fun x W1 k v H1 F1 eta1 o1 x1 r1 => ?_
 rw [R.wp_bind] at k
 refine kl e W1 sg H1 F1 eta1 _ (s.ext x1 o1) (R.wp_mono k fun l W2 k H2 F2 eta2 o2 x2 => ?_)
 rw [R.wp_bind] at k
 have y2:=Ext.trans s.ok o1 x1 x2
 refine kh e W2 sg H2 F2 eta2 _ (s.ext y2 o2) (R.wp_mono k fun h W3 k H3 F3 eta3 o3 x3 => ?_)
 have y3:=Ext.trans s.ok o2 y2 x3
 split at k
 ·exact k.elim
 ·rename_i hc
  simp only [Bool.or_eq_true,not_or,Bool.not_eq_true] at hc
  obtain ⟨z,q,k⟩:=zZD k
  simp only [Option.map_eq_some_iff] at q
  obtain ⟨xs,hi,rfl⟩:=q
  obtain ⟨a,vs,rfl,rl,hl⟩:=((r1.ext x2).ext x3).lst (s.ext y3 o3) hi hc.1 hc.2
  refine ⟨a,vs,rfl,SqL.of hl,fun p hp => ?_⟩
  exact k p _ _ F3 eta3 (o3.new hp) (Ext.trans s.ok o3 y3 (Ext.new hp)) (y3.there s.ok o3 hp) upd_same (o3.notF hp) (o3.notE hp) (rl.cut l h)
/-- list + list -/
theorem zZLx {f1 f2 : Env → Wd → R (List D)} (ha : FOk B X pa f1) (hb : FOk B X pb f2) :
  FOk B X (.BinOp pa .Add pb pos) (fun e W=>(f1 e W).bind fun xs W=>(f2 e W).bind fun ys W=>if xs.length + ys.length ≤ cap then .ok (xs ++ ys) W else .st):=by
 obtain ⟨ta,ha,ka⟩:=ha
 obtain ⟨tb,hb,kb⟩:=hb
 refine ⟨_,pe_op op_cat ha hb,fun e W sg H F eta Q s k => ?_⟩
 refine ka e W sg H F eta _ s ?_
 rw [R.wp_bind] at k
 refine R.wp_mono k fun xs W1 k a vs H1 F1 eta1 o1 x1 g0 g1 g2 g3 r1 => ?_
 rw [R.wp_bind] at k
 refine kb e W1 sg H1 F1 eta1 _ (s.ext x1 o1) (R.wp_mono k fun ys W2 k b us H2 F2 eta2 o2 x2 h0 h1 h2 h3 r2 => ?_)
 split at k
 ·rename_i hl
  have y2:=Ext.trans s.ok o1 x1 x2
  refine ⟨a,b,vs,us,rfl,rfl,x2.keep a _ g1 g3,h1,by rw [← r1.length,← r2.length]; exact Nat.le_trans hl zZb,fun p hp => ?_⟩
  exact k p _ _ F2 eta2 (o2.new hp) (Ext.trans s.ok o2 y2 (Ext.new hp)) (y2.there s.ok o2 hp) upd_same (o2.notF hp) (o2.notE hp) ((r1.mono x2.sub x2.pre).append r2)
 ·exact k.elim
def addF (fs fs2 : Env → Wd → R Src) : Env → Wd → R (List D):=fun e W=>(fs e W).bind fun s W=>(fs2 e W).bind fun s2 W=>if (s.isStr || s.isTup) || (s2.isStr || s2.isTup) then .st else (opt (items W s) W).bind fun xs W=>(opt (items W s2) W).bind fun ys W=>if xs.length + ys.length ≤ cap then .ok (xs ++ ys) W else .st
theorem zZLf {fs fs2 : Env → Wd → R Src} (ha : SOk B X pa fs) (hb : SOk B X pb fs2) : FOk B X (.BinOp pa .Add pb pos) (addF fs fs2):=by
 obtain ⟨ta,ha,ka⟩:=ha
 obtain ⟨tb,hb,kb⟩:=hb
 refine ⟨_,pe_op op_cat ha hb,fun e W sg H F eta Q s k => ?_⟩
 refine ka e W sg H F eta _ s ?_
 unfold addF at k
 rw [R.wp_bind] at k
 refine R.wp_mono k fun z1 W1 k v H1 F1 eta1 o1 x1 r1 => ?_
 rw [R.wp_bind] at k
 refine kb e W1 sg H1 F1 eta1 _ (s.ext x1 o1) (R.wp_mono k fun z2 W2 k u H2 F2 eta2 o2 x2 r2 => ?_)
 have y2:=Ext.trans s.ok o1 x1 x2
 have st2:=s.ext y2 o2
 split at k
 ·exact k.elim
 ·rename_i hc
  simp only [Bool.or_eq_true,not_or,Bool.not_eq_true] at hc
  rw [R.wp_bind] at k
  obtain ⟨xs,hi,k⟩:=zZD k
  rw [R.wp_bind] at k
  obtain ⟨ys,hj,k⟩:=zZD k
  split at k
  ·rename_i hl
   obtain ⟨a,vs,rfl,rl,g1⟩:=(r1.ext x2).lst st2 hi hc.1.1 hc.1.2
   obtain ⟨b,us,rfl,rl2,g2⟩:=r2.lst st2 hj hc.2.1 hc.2.2
   refine ⟨a,b,vs,us,rfl,rfl,g1,g2,by rw [← rl.length,← rl2.length]; exact Nat.le_trans hl zZb,fun p hp => ?_⟩
   exact k p _ _ F2 eta2 (o2.new hp) (Ext.trans s.ok o2 y2 (Ext.new hp)) (y2.there s.ok o2 hp) upd_same (o2.notF hp) (o2.notE hp) (rl.append rl2)
  ·exact k.elim
end
end DL
set_option maxRecDepth 100000
set_option maxHeartbeats 4000000
namespace DL
open PySem PySem.Spec PyProof.Rows
open L2 hiding St
section
variable {X : Cx}
/-- sum of a tuple of ints -/
theorem zZKC {prog : Program} {w : World} {A : Around} {E : Value → Shared → Prop} {s : Shared} {l : Addr} {its : List Value} {ns : List Int} {Q : Value → Shared → Prop} (hh : A.handled = none) (hl : s.heap.IsTuple l its.toArray) (hi : IntsAre its ns)
  (h : ∀ h' tk t',(∀ b o,s.heap.get? b = some o → h'.get? b = some o) → Q (.int ns.sum t') { s with heap:=h',toks:=tk }) : wpAny (model prog w) A (PySem.call (.builtin "sum") [.ref l]) Q E s:=by
 obtain ⟨xs,e⟩:=hi.allInts.items
 have hn : numsOf (intItems xs).toList = ns:=by rw [← e]; exact hi.numsOf
 rw [nums_intItems] at hn
 rw [e] at hl
 refine PySem.W.ktm_sumG hh hl fun h' tk t' hk => ?_
 have:=h h' tk t' hk
 rw [preSum_eq,List.take_of_length_le (by simp),hn]; exact this
def rSumA (K : PySem.W.Frag) : List V → Hp → VK → Prop:=fun vs H Q => ∃ (a : Addr) (ns : List Int),vs = [V.ref a] ∧ (SqL K H a (ns.map V.int) ∨ SqT K H a (ns.map V.int)) ∧ Q (.int ns.sum) H
theorem zZMn (hc : X.calm = true) : CallR X (.builtin "sum") (rSumA X.K):=by
 intro pins s σ H vs us Q I r h
 obtain ⟨a,ns,rfl,hs,q⟩:=h
 rcases hs with hs | hs
 ·exact cr_sum hc pins s σ H _ us Q I r ⟨a,ns,rfl,hs,q⟩
 ·obtain ⟨its,rv,hl,_⟩:=I.tuple hs
  rw [Vals.ref1 r]
  exact zZKC (I.ok.hd hc) hl rv.ints fun h' tk t' hk=>⟨.int _,H,I.kept hk,⟨_,rfl⟩,q⟩
/-- the truth of flat things -/
def truV : V → Option Bool
 | .non=>some false | .bl b=>some b | .int i=>some (i != 0) | _=>none
theorem zZBb {prog : Program} {w : World} {A : Around} {vs : List V} {its : List Value} {bs : List Bool} (r : Vals vs its) (hb : vs.map truV = bs.map some) :
  TruthOf prog w A (fun i v=>its.toArray[i]? = some v) (fun i=>bs.getD i false):=fun i v s Q E hv hq=>by
 have hv' : its[i]? = some v:=by simpa using hv
 have hi : i < vs.length:=by rw [r.length]; exact (List.getElem?_eq_some_iff.mp hv').1
 obtain ⟨u,hu,ru⟩:=r.get (i:=i) (x:=vs[i]) (by simp [hi])
 rw [hv'] at hu
 cases hu
 have e : truV vs[i] = some (bs.getD i false):=by
  have:=congrArg (fun l=>l[i]?) hb
  simp only [List.getElem?_map] at this
  rw [List.getElem?_eq_getElem hi] at this
  cases q : bs[i]? with
  | none=>rw [q] at this; simp at this
  | some b=>rw [q] at this; simp at this; rw [this,List.getD_eq_getElem?_getD,q]; rfl
 cases hx : vs[i] with
 | non =>
  rw [hx] at e ru
  cases ru
  have e2:=Option.some.inj e
  have hq' : Q (bs.getD i false) s:=hq
  rw [← e2] at hq'
  exact truthy_none hq'
 | bl b =>
  rw [hx] at e ru
  cases ru
  have e2:=Option.some.inj e
  have hq' : Q (bs.getD i false) s:=hq
  rw [← e2] at hq'
  exact wpAny_truthy_bool hq'
 | int k =>
  rw [hx] at e ru
  obtain ⟨t,rfl⟩:=ru
  have e2:=Option.some.inj e
  have hq' : Q (bs.getD i false) s:=hq
  rw [← e2] at hq'
  exact truthy_int hq'
 | _=>rw [hx] at e; simp [truV] at e
def rAnyA (K : PySem.W.Frag) : List V → Hp → VK → Prop:=fun vs H Q => ∃ (a : Addr) (xs : List V) (bs : List Bool),vs = [V.ref a] ∧ (SqL K H a xs ∨ SqT K H a xs) ∧ xs.map truV = bs.map some ∧ Q (.bl (bs.any id)) H
def rAllA (K : PySem.W.Frag) : List V → Hp → VK → Prop:=fun vs H Q => ∃ (a : Addr) (xs : List V) (bs : List Bool),vs = [V.ref a] ∧ (SqL K H a xs ∨ SqT K H a xs) ∧ xs.map truV = bs.map some ∧ Q (.bl (bs.all id)) H
theorem zZGh {prog : Program} {w : World} {A : Around} {E : Value → Shared → Prop} {s : Shared} {l : Addr} {items : Array Value} {Q : Value → Shared → Prop} (hl : s.heap.IsTuple l items)
  (h : ∀ s₂ : Shared,s₂ = { s with heap:=s.heap.push { cls:=.type "tuple_iterator",data:=.fields #[.ref l,.int 0 0] } } →
   (s₂.heap.IsTupleIter s.heap.objs.size l 0 ∧ s₂.heap.IsTuple l items) → l ≠ s.heap.objs.size → Q (.ref s.heap.objs.size) s₂) : wpAny (model prog w) A (pyIter (.ref l)) Q E s:=by
 have hlt : l < s.heap.objs.size:=by obtain ⟨_,e,_⟩:=hl; exact Heap.lt_size e
 exact wpAny_pyIter_tuple hl (h _ rfl ⟨⟨_,Heap.get?_push_size _ rfl,rfl,rfl⟩,hl.at fun o e=>Heap.get?_push_of_some _ e⟩ (Nat.ne_of_lt hlt))
theorem zZMu (hc : X.calm = true) : CallR X (.builtin "any") (rAnyA X.K):=by
 intro pins s σ H vs us Q I r h
 obtain ⟨a,xs,bs,rfl,hs,hb,q⟩:=h
 rw [Vals.ref1 r]
 have hlen : xs.length = bs.length:=by simpa using congrArg List.length hb
 rcases hs with hs | hs
 ·obtain ⟨its,rv,hl,_⟩:=I.list hs
  refine call_any_walk (iter_any hl.isList fun s₂ e2 st hne => ?_)
  subst e2
  refine ⟨_,_,_,_,_,_,_,rfl,Walks.list (A:=X.A.in1) (I.ok.hd hc) _ a hne its.toArray,st,zZBb rv hb,fun h' tk hk => ?_⟩
  refine ⟨.bl _,H,I.kept fun b o eo=>hk b o (fun hmem => ?_) (Heap.get?_push_of_some _ eo), ?_,q⟩
  ·rcases List.mem_cons.mp hmem with e1 | hmem
   ·exact absurd (e1 ▸ Heap.lt_size eo) (Nat.lt_irrefl _)
   ·cases hmem
  ·show Value.bool _ = Value.bool _
   rw [← L2.any_range,List.size_toArray,← rv.length,hlen]
 ·obtain ⟨its,rv,hl,_⟩:=I.tuple hs
  refine call_any_walk (zZGh hl fun s₂ e2 st hne => ?_)
  subst e2
  refine ⟨_,_,_,_,_,_,_,rfl,Walks.tuple (A:=X.A.in1) (I.ok.hd hc) _ a hne its.toArray,st,zZBb rv hb,fun h' tk hk => ?_⟩
  refine ⟨.bl _,H,I.kept fun b o eo=>hk b o (fun hmem => ?_) (Heap.get?_push_of_some _ eo), ?_,q⟩
  ·rcases List.mem_cons.mp hmem with e1 | hmem
   ·exact absurd (e1 ▸ Heap.lt_size eo) (Nat.lt_irrefl _)
   ·cases hmem
  ·show Value.bool _ = Value.bool _
   rw [← L2.any_range,List.size_toArray,← rv.length,hlen]
theorem zZMt (hc : X.calm = true) : CallR X (.builtin "all") (rAllA X.K):=by
 intro pins s σ H vs us Q I r h
 obtain ⟨a,xs,bs,rfl,hs,hb,q⟩:=h
 rw [Vals.ref1 r]
 have hlen : xs.length = bs.length:=by simpa using congrArg List.length hb
 rcases hs with hs | hs
 ·obtain ⟨its,rv,hl,_⟩:=I.list hs
  refine call_all_walk (iter_any hl.isList fun s₂ e2 st hne => ?_)
  subst e2
  refine ⟨_,_,_,_,_,_,_,rfl,Walks.list (A:=X.A.in1) (I.ok.hd hc) _ a hne its.toArray,st,zZBb rv hb,fun h' tk hk => ?_⟩
  refine ⟨.bl _,H,I.kept fun b o eo=>hk b o (fun hmem => ?_) (Heap.get?_push_of_some _ eo), ?_,q⟩
  ·rcases List.mem_cons.mp hmem with e1 | hmem
   ·exact absurd (e1 ▸ Heap.lt_size eo) (Nat.lt_irrefl _)
   ·cases hmem
  ·show Value.bool _ = Value.bool _
   rw [← L2.all_range,List.size_toArray,← rv.length,hlen]
 ·obtain ⟨its,rv,hl,_⟩:=I.tuple hs
  refine call_all_walk (zZGh hl fun s₂ e2 st hne => ?_)
  subst e2
  refine ⟨_,_,_,_,_,_,_,rfl,Walks.tuple (A:=X.A.in1) (I.ok.hd hc) _ a hne its.toArray,st,zZBb rv hb,fun h' tk hk => ?_⟩
  refine ⟨.bl _,H,I.kept fun b o eo=>hk b o (fun hmem => ?_) (Heap.get?_push_of_some _ eo), ?_,q⟩
  ·rcases List.mem_cons.mp hmem with e1 | hmem
   ·exact absurd (e1 ▸ Heap.lt_size eo) (Nat.lt_irrefl _)
   ·cases hmem
  ·show Value.bool _ = Value.bool _
   rw [← L2.all_range,List.size_toArray,← rv.length,hlen]
end
section
variable {B : Tb} {X : Cx} {py pa pb pc : Expr} {f fa fb fc fr : Env → Wd → R D} {rest es : List Expr} {pos p : Pos}
variable {e : Env} {sg : L2.St} {F F' H H' : Hp} {eta eta' : List Addr} {W W' : Wd}
theorem RepL.ints : ∀ {ds : List D} {vs : List V} {l : List Int},RepL B F eta ds vs → intsD ds = some l → vs = l.map V.int
 | _,_,l,.nil,h=>by simp [intsD] at h; subst h; rfl
 | _,_,l,.cons r t,h=>by
  cases r <;> simp [intsD] at h
  obtain ⟨l',h1,rfl⟩:=h
  rw [RepL.ints t h1]; rfl
theorem RepL.trus : ∀ {ds : List D} {vs : List V} {l : List Bool},RepL B F eta ds vs → boolsD ds = some l → vs.map truV = l.map some
 | _,_,l,.nil,h=>by simp [boolsD] at h; subst h; rfl
 | _,_,l,.cons (d:=d) r t,h=>by
  unfold boolsD at h
  split at h
  ·rename_i a b h1 h2
   cases h
   rw [List.map_cons,List.map_cons,RepL.trus t h2]
   congr 1
   cases r <;> simp [truFl] at h1 <;> simp [truV,h1]
  ·cases h
theorem zZHp : ∀ (l : List Int) (m : Int),maxI m l ∈ m :: l ∧ (∀ y ∈ m :: l,y ≤ maxI m l)
 | [],m=>by simp [maxI]
 | x :: r,m=>by
  unfold maxI
  have hz : ∀ z,(if m < x then x else m) = z → (m ≤ z ∧ x ≤ z) ∧ (z = m ∨ z = x):=fun z h=>by
   split at h <;> omega
  generalize hq : (if m < x then x else m) = z
  obtain ⟨⟨q1,q2⟩,q3⟩:=hz z hq
  obtain ⟨h1,h2⟩:=zZHp r z
  have h3:=h2 z List.mem_cons_self
  refine ⟨?_,fun y hy => ?_⟩
  ·rcases List.mem_cons.mp h1 with h | h
   ·rw [h]; rcases q3 with e | e <;> simp [e]
   ·simp [h]
  ·rcases List.mem_cons.mp hy with e | hy
   ·omega
   ·rcases List.mem_cons.mp hy with e | hy
    ·omega
    ·exact h2 y (List.mem_cons_of_mem _ hy)
theorem zZHH : ∀ (l : List Int) (m : Int),minI m l ∈ m :: l ∧ (∀ y ∈ m :: l,minI m l ≤ y)
 | [],m=>by simp [minI]
 | x :: r,m=>by
  unfold minI
  have hz : ∀ z,(if x < m then x else m) = z → (z ≤ m ∧ z ≤ x) ∧ (z = m ∨ z = x):=fun z h=>by
   split at h <;> omega
  generalize hq : (if x < m then x else m) = z
  obtain ⟨⟨q1,q2⟩,q3⟩:=hz z hq
  obtain ⟨h1,h2⟩:=zZHH r z
  have h3:=h2 z List.mem_cons_self
  refine ⟨?_,fun y hy => ?_⟩
  ·rcases List.mem_cons.mp h1 with h | h
   ·rw [h]; rcases q3 with e | e <;> simp [e]
   ·simp [h]
  ·rcases List.mem_cons.mp hy with e | hy
   ·omega
   ·rcases List.mem_cons.mp hy with e | hy
    ·omega
    ·exact h2 y (List.mem_cons_of_mem _ hy)
/-- max(xs) of a tuple of ints -/
theorem zZML (hc : X.calm = true) (hu : X.A.units + 64 < cLine) : CallR X (.builtin "max") (fun vs H Q => ∃ (a : Addr) (ns : List Int),vs = [V.ref a] ∧ SqT X.K H a (ns.map V.int) ∧ 0 < ns.length ∧ ∀ m,m ∈ ns → (∀ y,y ∈ ns → y ≤ m) → Q (.int m) H):=by
 intro pins s σ H vs us Q I r h
 obtain ⟨a,ns,rfl,hs,hne,q⟩:=h
 obtain ⟨its,rv,hl,_⟩:=I.tuple hs
 rw [Vals.ref1 r]
 cases ns with
 | nil=>simp at hne
 | cons n ns =>
  have hr : ReadsAll s.heap its.toArray.toList (.int n :: ns.map .int) []:=by
   have : ∀ (ms : List Int) (us : List Value),Vals (ms.map V.int) us → ReadsAll s.heap us (ms.map .int) []:=by
    intro ms
    induction ms with
    | nil=>intro us h; cases h; exact .nil
    | cons m ms ih =>
     intro us h
     cases h with
     | cons h t =>
      obtain ⟨t',rfl⟩:=h
      exact ReadsAll.cons (.int _ _) (ih _ t)
   exact this (n :: ns) its rv
  have ha : PySem.W.AlikeAll (.int n :: ns.map .int):=by
   refine ⟨fun x hx y hy => ?_,fun x hx => ?_⟩
   ·have e1 : ∀ z,z ∈ (PyData.int n :: ns.map .int) → ∃ i,z = .int i:=fun z hz=>by
     rcases List.mem_cons.mp hz with h | h
     ·exact ⟨n,h⟩
     ·obtain ⟨i,_,rfl⟩:=List.mem_map.mp h; exact ⟨i,rfl⟩
    obtain ⟨i,rfl⟩:=e1 x hx
    obtain ⟨j,rfl⟩:=e1 y hy
    simp [PySem.W.alike]
   ·rcases List.mem_cons.mp hx with h | h
    ·rw [h]; simp
    ·obtain ⟨i,_,rfl⟩:=List.mem_map.mp h; simp
  refine PySem.W.max_tuple_data (I.ok.hd hc) (show s.heap.IsTuple a its.toArray from hl) hr ha ?_ fun i v h' tk bs hv rd hk => ?_
  ·have:=PyProof.Rows.depthAll_ints (n :: ns)
   rw [List.map_cons] at this
   rw [this]
   omega
  ·rw [PySem.W.maxD_ints] at rd
   have hfm : ∀ (l : List Int) (m : Int),(l.foldl max m ∈ m :: l) ∧ ∀ y ∈ m :: l,y ≤ l.foldl max m:=by
    intro l
    induction l with
    | nil=>intro m; simp
    | cons x l ih =>
     intro m
     obtain ⟨h1,h2⟩:=ih (max m x)
     rw [List.foldl_cons]
     refine ⟨?_,fun y hy => ?_⟩
     ·rcases List.mem_cons.mp h1 with h | h
      ·rw [h]
       by_cases hm : m ≤ x
       ·rw [Int.max_eq_right hm]; simp
       ·rw [Int.max_eq_left (by omega)]; simp
      ·simp [h]
     ·have hb:=h2 (max m x) List.mem_cons_self
      rcases List.mem_cons.mp hy with e | hy
      ·rw [e]; omega
      ·rcases List.mem_cons.mp hy with e | hy
       ·rw [e]; omega
       ·exact h2 y (List.mem_cons_of_mem _ hy)
   obtain ⟨g1,g2⟩:=hfm ns n
   cases rd
   exact ⟨.int _,H,I.kept hk,⟨_,rfl⟩,q _ g1 g2⟩
/-- min(xs) of a tuple of ints -/
theorem zZMH (hc : X.calm = true) (hu : X.A.units + 64 < cLine) : CallR X (.builtin "min") (fun vs H Q => ∃ (a : Addr) (ns : List Int),vs = [V.ref a] ∧ SqT X.K H a (ns.map V.int) ∧ 0 < ns.length ∧ ∀ m,m ∈ ns → (∀ y,y ∈ ns → m ≤ y) → Q (.int m) H):=by
 intro pins s σ H vs us Q I r h
 obtain ⟨a,ns,rfl,hs,hne,q⟩:=h
 obtain ⟨its,rv,hl,_⟩:=I.tuple hs
 rw [Vals.ref1 r]
 cases ns with
 | nil=>simp at hne
 | cons n ns =>
  have hr : ReadsAll s.heap its.toArray.toList (.int n :: ns.map .int) []:=by
   have : ∀ (ms : List Int) (us : List Value),Vals (ms.map V.int) us → ReadsAll s.heap us (ms.map .int) []:=by
    intro ms
    induction ms with
    | nil=>intro us h; cases h; exact .nil
    | cons m ms ih =>
     intro us h
     cases h with
     | cons h t =>
      obtain ⟨t',rfl⟩:=h
      exact ReadsAll.cons (.int _ _) (ih _ t)
   exact this (n :: ns) its rv
  have ha : PySem.W.AlikeAll (.int n :: ns.map .int):=by
   refine ⟨fun x hx y hy => ?_,fun x hx => ?_⟩
   ·have e1 : ∀ z,z ∈ (PyData.int n :: ns.map .int) → ∃ i,z = .int i:=fun z hz=>by
     rcases List.mem_cons.mp hz with h | h
     ·exact ⟨n,h⟩
     ·obtain ⟨i,_,rfl⟩:=List.mem_map.mp h; exact ⟨i,rfl⟩
    obtain ⟨i,rfl⟩:=e1 x hx
    obtain ⟨j,rfl⟩:=e1 y hy
    simp [PySem.W.alike]
   ·rcases List.mem_cons.mp hx with h | h
    ·rw [h]; simp
    ·obtain ⟨i,_,rfl⟩:=List.mem_map.mp h; simp
  refine PySem.W.min_tuple_data (I.ok.hd hc) (show s.heap.IsTuple a its.toArray from hl) hr ha ?_ fun i v h' tk bs hv rd hk => ?_
  ·have:=PyProof.Rows.depthAll_ints (n :: ns)
   rw [List.map_cons] at this
   rw [this]
   omega
  ·rw [PySem.W.minD_ints] at rd
   have hfm : ∀ (l : List Int) (m : Int),(l.foldl min m ∈ m :: l) ∧ ∀ y ∈ m :: l,l.foldl min m ≤ y:=by
    intro l
    induction l with
    | nil=>intro m; simp
    | cons x l ih =>
     intro m
     obtain ⟨h1,h2⟩:=ih (min m x)
     rw [List.foldl_cons]
     refine ⟨?_,fun y hy => ?_⟩
     ·rcases List.mem_cons.mp h1 with h | h
      ·rw [h]
       by_cases hm : m ≤ x
       ·rw [Int.min_eq_left hm]; simp
       ·rw [Int.min_eq_right (by omega)]; simp
      ·simp [h]
     ·have hb:=h2 (min m x) List.mem_cons_self
      rcases List.mem_cons.mp hy with e | hy
      ·rw [e]; omega
      ·rcases List.mem_cons.mp hy with e | hy
       ·rw [e]; omega
       ·exact h2 y (List.mem_cons_of_mem _ hy)
   obtain ⟨g1,g2⟩:=hfm ns n
   cases rd
   exact ⟨.int _,H,I.kept hk,⟨_,rfl⟩,q _ g1 g2⟩
/-- a built-in of one sequence -/
theorem zZBd {fs : Env → Wd → R Src} {g : Wd → Src → Option D} {r : List V → Hp → VK → Prop} (hp : ∀ t,PA X [pa] t → PE X py (tCB r t)) (hn : notStar pa = true) (ha : SOk B X pa fs)
  (hr : ∀ (e : Env) (sg : L2.St) s v (H F : Hp) (eta : List Addr) (W : Wd) (Q : VK) z,Stt B e W sg H F eta → SrcRep B e sg F eta s v → g W s = some z →
   (∀ (w : V) (H' F' : Hp) (eta' : List Addr),OkH B F' eta' W H' → Ext F eta H F' eta' H' → Rep B F' eta' z w → Q w H') → r [v] H Q) :
  EOk B X py (fun e W=>(fs e W).bind fun s W=>opt (g W s) W):=by
 obtain ⟨ta,ha,ka⟩:=ha
 refine ⟨_,hp _ (pa_cons ha pa_nil (star1 hn _ _)),fun e W sg H F eta Q s k => ?_⟩
 refine ka e W sg H F eta _ s ?_
 rw [R.wp_bind] at k
 refine R.wp_mono k fun x W1 k v H1 F1 eta1 o1 x1 r1 => ?_
 obtain ⟨z,q,k⟩:=zZD k
 exact hr e sg x v H1 F1 eta1 W1 Q z (s.ext x1 o1) r1 q fun w H' F' eta' o' x' rw'=>k w H' F' eta' o' (Ext.trans s.ok o1 x1 x') rw'
theorem pB {id : String} {x : Str} {r : List V → Hp → VK → Prop} (hc : CallR X (.builtin id) r) (hg : Gl X x) (hm : X.mg x = none) (hv : bootBuiltins x = some (.builtin id)) (hn : x ≠ "__name__") (hd : (x == ("__debug__" : Str)) = false) (hs : notStar pa = true) :
  ∀ t,PA X [pa] t → PE X (.Call (.Name x p) [pa] [] pos) (tCB r t):=fun t h=>pe_callB hc hg hm hv h hn hd (star1 hs _ _) rfl
theorem pTy {id : String} {x : Str} {r : List V → Hp → VK → Prop} (hc : CallR X (.type id) r) (hg : Gl X x) (hm : X.mg x = none) (hv : bootBuiltins x = some (.type id)) (hn : x ≠ "__name__") (hd : (x == ("__debug__" : Str)) = false) (hs : notStar pa = true) :
  ∀ t,PA X [pa] t → PE X (.Call (.Name x p) [pa] [] pos) (tCB r t):=fun t h=>pe_callTy hc hg hm hv h hn hd (star1 hs _ _) rfl
def b1nm : B1 → Str
 | .int => "int" | .str => "str" | .tuple => "tuple" | .len => "len" | .sum => "sum" | .any => "any" | .all => "all" | .max => "max" | .min => "min"
def noB : B1 → Bool
 | .int=>false | .str=>false | _=>true
theorem zZBD (b : B1) (hb : noB b = true) {fs : Env → Wd → R Src} (hu : X.A.units + 64 < cLine) (hc : X.calm = true) (hg : Gl X (b1nm b)) (hm : X.mg (b1nm b) = none) (hn : notStar pa = true) (ha : SOk B X pa fs) :
  EOk B X (.Call (.Name (b1nm b) p) [pa] [] pos) (fun e W=>(fs e W).bind fun s W=>opt (b1D W b s) W):=by
 cases b with
 | int=>cases hb
 | str=>cases hb
 | len =>
  refine zZBd (g:=fun W s=>b1D W .len s) (pB call_len hg hm PySem.boot_len (by decide) (by decide) hn) hn ha fun e sg s v H F eta W Q z st r1 q k => ?_
  simp only [b1D,Option.map_eq_some_iff] at q
  obtain ⟨xs,hi,rfl⟩:=q
  cases hs : s.isStr with
  | false =>
   obtain ⟨a,vs,rfl,rl,hh⟩:=r1.seq st hi hs
   refine ⟨.ref a,vs.length,rfl,hh.imp (fun h=>⟨vs,SqL.of h,rfl⟩) fun h=>⟨vs,h.sq,rfl⟩, ?_⟩
   rw [← rl.length]
   exact k _ H F eta st.ok (Ext.refl _ _ _) (.int _)
  | true =>
   cases s with
   | str zz =>
    obtain rfl : v = .str zz:=r1
    simp only [items] at hi
    split at hi
    ·rename_i hl
     cases hi
     refine ⟨.str zz,zz.length,rfl,⟨Nat.le_trans hl zZb,rfl⟩, ?_⟩
     have e1 : (zz.cps.toList.map fun c=>D.str ⟨#[c]⟩).length = zz.length:=by rw [List.length_map]; rfl
     rw [← e1]
     exact k _ H F eta st.ok (Ext.refl _ _ _) (.int _)
    ·cases hi
   | _=>cases hs
 | tuple =>
  refine zZBd (g:=fun W s=>b1D W .tuple s) (pTy zZF8 hg hm PyProof.Rows.boot_tuple (by decide) (by decide) hn) hn ha fun e sg s v H F eta W Q z st r1 q k => ?_
  simp only [b1D] at q
  split at q
  ·cases q
  ·rename_i hs
   simp only [Bool.not_eq_true] at hs
   simp only [Option.map_eq_some_iff] at q
   obtain ⟨xs,hi,rfl⟩:=q
   cases ht : s.isTup with
   | true =>
    cases s with
    | frz ys d =>
     cases d with
     | tup zs =>
      obtain ⟨rr,hd⟩:=r1
      simp [items] at hi
      subst hi
      have : zs = ys:=by simpa using hd
      subst this
      cases rr with
      | tup h r=>exact ⟨_,_,rfl,.inr ⟨(h.mono st.ok.sub).sq,k _ H F eta st.ok (Ext.refl _ _ _) (.tup h r)⟩⟩
     | _=>cases ht
    | _=>cases ht
   | false =>
    obtain ⟨a,vs,rfl,rl,hh⟩:=r1.lst st hi hs ht
    refine ⟨a,vs,rfl,.inl ⟨SqL.of hh,fun p ob hob hp => ?_⟩⟩
    have s1:=fun u=>zZr (u:=u) (st.ok.notF hp)
    exact k _ _ _ eta (st.ok.newF hp) (Ext.newFz st.ok hp) (.tup (.new hob) (rl.mono (s1 _) (List.prefix_refl _)))
 | sum =>
  refine zZBd (g:=fun W s=>b1D W .sum s) (pB (zZMn hc) hg hm PyProof.Rows.boot_sum (by decide) (by decide) hn) hn ha fun e sg s v H F eta W Q z st r1 q k => ?_
  simp only [b1D] at q
  split at q
  ·cases q
  ·rename_i hs
   simp only [Bool.not_eq_true] at hs
   simp only [Option.bind_eq_some_iff,Option.map_eq_some_iff] at q
   obtain ⟨xs,hi,l,hl,rfl⟩:=q
   obtain ⟨a,vs,rfl,rl,hh⟩:=r1.seq st hi hs
   have e1:=rl.ints hl
   subst e1
   exact ⟨a,l,rfl,hh.imp SqL.of TupF.sq,k _ H F eta st.ok (Ext.refl _ _ _) (.int _)⟩
 | any =>
  refine zZBd (g:=fun W s=>b1D W .any s) (pB (zZMu hc) hg hm (by decide +kernel) (by decide) (by decide) hn) hn ha fun e sg s v H F eta W Q z st r1 q k => ?_
  simp only [b1D] at q
  split at q
  ·cases q
  ·rename_i hs
   simp only [Bool.not_eq_true] at hs
   simp only [Option.bind_eq_some_iff,Option.map_eq_some_iff] at q
   obtain ⟨xs,hi,l,hl,rfl⟩:=q
   obtain ⟨a,vs,rfl,rl,hh⟩:=r1.seq st hi hs
   exact ⟨a,vs,l,rfl,hh.imp SqL.of TupF.sq,rl.trus hl,k _ H F eta st.ok (Ext.refl _ _ _) (.bl _)⟩
 | all =>
  refine zZBd (g:=fun W s=>b1D W .all s) (pB (zZMt hc) hg hm (by decide +kernel) (by decide) (by decide) hn) hn ha fun e sg s v H F eta W Q z st r1 q k => ?_
  simp only [b1D] at q
  split at q
  ·cases q
  ·rename_i hs
   simp only [Bool.not_eq_true] at hs
   simp only [Option.bind_eq_some_iff,Option.map_eq_some_iff] at q
   obtain ⟨xs,hi,l,hl,rfl⟩:=q
   obtain ⟨a,vs,rfl,rl,hh⟩:=r1.seq st hi hs
   exact ⟨a,vs,l,rfl,hh.imp SqL.of TupF.sq,rl.trus hl,k _ H F eta st.ok (Ext.refl _ _ _) (.bl _)⟩
 | max =>
  refine zZBd (g:=fun W s=>b1D W .max s) (pB (CallR.or (cr_max hc) (zZML hc hu)) hg hm PyProof.Rows.boot_max (by decide) (by decide) hn) hn ha fun e sg s v H F eta W Q z st r1 q k => ?_
  simp only [b1D] at q
  split at q
  ·cases q
  ·rename_i hs
   simp only [Bool.not_eq_true] at hs
   simp only [Option.bind_eq_some_iff] at q
   obtain ⟨xs,hi,l,hl,q⟩:=q
   obtain ⟨a,vs,rfl,rl,hh⟩:=r1.seq st hi hs
   have e1:=rl.ints hl
   subst e1
   cases l with
   | nil=>cases q
   | cons m r =>
    cases q
    obtain ⟨g1,g2⟩:=zZHp r m
    have fin : ∀ y,y ∈ m :: r → (∀ z,z ∈ m :: r → z ≤ y) → Q (.int y) H:=fun y hy hm'=>by
     have e2 : y = maxI m r:=Int.le_antisymm (g2 y hy) (hm' _ g1)
     rw [e2]
     exact k _ H F eta st.ok (Ext.refl _ _ _) (.int _)
    rcases hh with hh | hh
    ·exact .inl ⟨a,m :: r,rfl,SqL.of hh,by simp,fin⟩
    ·exact .inr ⟨a,m :: r,rfl,hh.sq,by simp,fin⟩
 | min =>
  refine zZBd (g:=fun W s=>b1D W .min s) (pB (CallR.or (cr_min hc) (zZMH hc hu)) hg hm PyProof.Rows.boot_min (by decide) (by decide) hn) hn ha fun e sg s v H F eta W Q z st r1 q k => ?_
  simp only [b1D] at q
  split at q
  ·cases q
  ·rename_i hs
   simp only [Bool.not_eq_true] at hs
   simp only [Option.bind_eq_some_iff] at q
   obtain ⟨xs,hi,l,hl,q⟩:=q
   obtain ⟨a,vs,rfl,rl,hh⟩:=r1.seq st hi hs
   have e1:=rl.ints hl
   subst e1
   cases l with
   | nil=>cases q
   | cons m r =>
    cases q
    obtain ⟨g1,g2⟩:=zZHH r m
    have fin : ∀ y,y ∈ m :: r → (∀ z,z ∈ m :: r → y ≤ z) → Q (.int y) H:=fun y hy hm'=>by
     have e2 : y = minI m r:=Int.le_antisymm (hm' _ g1) (g2 y hy)
     rw [e2]
     exact k _ H F eta st.ok (Ext.refl _ _ _) (.int _)
    rcases hh with hh | hh
    ·exact .inl ⟨a,m :: r,rfl,SqL.of hh,by simp,fin⟩
    ·exact .inr ⟨a,m :: r,rfl,hh.sq,by simp,fin⟩
end
end DL
set_option maxRecDepth 100000
set_option maxHeartbeats 4000000
namespace DL
open PySem PySem.Spec PyProof.Rows
open L2 hiding St
section
variable {B : Tb} {X : Cx} {py pa pb pc : Expr} {f fa fb fc fr : Env → Wd → R D} {rest es : List Expr} {pos p : Pos}
variable {e : Env} {sg : L2.St} {F F' H H' : Hp} {eta eta' : List Addr} {W W' : Wd}
theorem zZIS {f : Value} {r1 r2 : List V → Hp → VK → Prop} (h1 : CallR X f r1) (h2 : CallR X f r2) : CallR X f (fun xs H Q=>r1 xs H Q ∨ r2 xs H Q):=fun pins s σ H xs us Q I r q=>q.elim (h1 pins s σ H xs us Q I r) (h2 pins s σ H xs us Q I r)
theorem zZNF {i : Int} (h : strLen i = true) : i.natAbs.log2 < 1920:=by
 unfold strLen at h
 have h:=of_decide_eq_true h
 by_cases z : i.natAbs = 0
 ·rw [z]; decide
 ·exact (Nat.log2_lt z).mpr (Nat.lt_trans h (by decide +kernel))
theorem zZG2 (b : B1) (hb : noB b = false) (hg : Gl X (b1nm b)) (hm : X.mg (b1nm b) = none) (hn : notStar pa = true) (ha : EOk B X pa fa) :
  EOk B X (.Call (.Name (b1nm b) p) [pa] [] pos) (fun e W=>(fa e W).bind fun x W=>opt (conv b x) W):=by
 obtain ⟨ta,ha,ka⟩:=ha
 cases b with
 | int =>
  refine ⟨_,pTy (zZIS call_int1 call_int_str) hg hm PyProof.Rows.boot_int (by decide) (by decide) hn _ (pa_cons ha pa_nil (star1 hn _ _)),fun e W sg H F eta Q s k => ?_⟩
  refine ka e W sg H F eta _ s ?_
  rw [R.wp_bind] at k
  refine R.wp_mono k fun x W1 k v H1 F1 eta1 o1 x1 r1 => ?_
  obtain ⟨z,q,k⟩:=zZD k
  cases r1 <;> simp [conv] at q
  ·subst q; exact .inl (.inr ⟨_,rfl,k _ H1 F1 eta1 o1 x1 (.int _)⟩)
  ·subst q; exact .inl (.inl ⟨_,rfl,k _ H1 F1 eta1 o1 x1 (.int _)⟩)
  ·obtain ⟨q1,n,q2,rfl⟩:=q; exact .inr ⟨_,_,rfl,q2,q1,k _ H1 F1 eta1 o1 x1 (.int _)⟩
 | str =>
  refine ⟨_,pTy (zZIS call_str_int SkE.call_str_str) hg hm PyProof.Rows.boot_str (by decide) (by decide) hn _ (pa_cons ha pa_nil (star1 hn _ _)),fun e W sg H F eta Q s k => ?_⟩
  refine ka e W sg H F eta _ s ?_
  rw [R.wp_bind] at k
  refine R.wp_mono k fun x W1 k v H1 F1 eta1 o1 x1 r1 => ?_
  obtain ⟨z,q,k⟩:=zZD k
  cases r1 <;> simp [conv] at q
  ·obtain ⟨h1,rfl⟩:=q
   exact .inl ⟨_,rfl,zZNF h1,k _ H1 F1 eta1 o1 x1 (.str _)⟩
  ·subst q
   exact .inr ⟨_,rfl,k _ H1 F1 eta1 o1 x1 (.str _)⟩
 | _=>cases hb
def tyNm : Ty → String
 | .int => "int" | .bool => "bool" | .str => "str" | .list => "list" | .tuple => "tuple" | .dict => "dict"
theorem zZL2 (t : Ty) : bootBuiltins (tyNm t) = some (.type (tyNm t)):=by cases t <;> decide +kernel
theorem kits (t : Ty) : (kitB "NoneType" (tyNm t) = tyD .non t) ∧ (∀ b,kitB "bool" (tyNm t) = tyD (.bl b) t) ∧ (∀ i,kitB "int" (tyNm t) = tyD (.int i) t) ∧ (∀ i,kitB "str" (tyNm t) = tyD (.str i) t) ∧
  (∀ i,kitB "list" (tyNm t) = tyD (.lst i) t) ∧ (∀ i,kitB "tuple" (tyNm t) = tyD (.tup i) t):=by
 cases t <;> refine ⟨?_,fun _ => ?_,fun _ => ?_,fun _ => ?_,fun _ => ?_,fun _ => ?_⟩ <;> simp only [tyD,tyNm] <;> decide +kernel
theorem zZL4 {d : D} {v : V} {t : Ty} {b : Bool} (o : OkH B F eta W H) (r : Rep B F eta d v) (h : tyD d t = some b) (K : PySem.W.Frag) : ∃ u,TyX K H v u ∧ PySem.W.kitOne K u (.type (tyNm t)) = some b:=by
 obtain ⟨k1,k2,k3,k4,k5,k6⟩:=kits t
 cases r with
 | non=>exact ⟨_,.base .non,kit_ty (k1.trans h)⟩
 | bl _=>exact ⟨_,.base (.bl _),kit_ty ((k2 _).trans h)⟩
 | int _=>exact ⟨_,.base (.int _),kit_ty ((k3 _).trans h)⟩
 | str _=>exact ⟨_,.base (.str _),kit_ty ((k4 _).trans h)⟩
 | tup e _=>obtain ⟨ob,_,e⟩:=e; exact ⟨_,.fTuple (o.sub _ _ e),kit_ty ((k6 _).trans h)⟩
 | lst e _=>exact ⟨_,.base (.lst (o.sub _ _ e)),kit_ty ((k5 _).trans h)⟩
 | ins _ _=>simp [tyD] at h
 | own _=>simp [tyD] at h
 | ext _=>simp [tyD] at h
 | tupz _ _=>simp [tyD] at h
 | dct _ _=>simp [tyD] at h
 | dtt _ _=>simp [tyD] at h
 | kt _=>simp [tyD] at h
theorem zZLw (t : Ty) {q2 : Pos} (hg : Gl X "isinstance") (hm : X.mg "isinstance" = none) (hg2 : Gl X (tyNm t)) (hm2 : X.mg (tyNm t) = none) (hn : notStar pa = true) (ha : EOk B X pa fa) :
  EOk B X (.Call (.Name "isinstance" p) [pa,.Name (tyNm t) q2] [] pos) (fun e W=>(fa e W).bind fun x W=>opt ((tyD x t).map .bl) W):=by
 obtain ⟨ta,ha,ka⟩:=ha
 have hx : PE X (.Name (tyNm t) q2) (tC (.ty (tyNm t))):=pe_bltn hg2 hm2 (zZL2 t) rfl (by cases t <;> decide +kernel) (by cases t <;> decide +kernel)
 refine ⟨_,pe_callB call_isi hg hm PyProof.Rows.boot_isinstance (pa_cons ha (pa_cons hx pa_nil (star1 rfl _ _)) (star1 hn _ _)) (by decide) (by decide) (star1 hn _ _) rfl,fun e W sg H F eta Q s k => ?_⟩
 refine ka e W sg H F eta _ s ?_
 rw [R.wp_bind] at k
 refine R.wp_mono k fun x W1 k v H1 F1 eta1 o1 x1 r1 => ?_
 obtain ⟨z,q,k⟩:=zZD k
 simp only [Option.map_eq_some_iff] at q
 obtain ⟨b,q,rfl⟩:=q
 obtain ⟨u,h1,h2⟩:=zZL4 o1 r1 q X.K
 exact ⟨v,.ty (tyNm t),u,.type (tyNm t),b,rfl,.ty _,h1,h2,k _ H1 F1 eta1 o1 x1 (.bl _)⟩
theorem zZNY {fs : Env → Wd → R Src} (hg : Gl X "list") (hm : X.mg "list" = none) (hn : notStar pa = true) (ha : SOk B X pa fs) :
  FOk B X (.Call (.Name "list" p) [pa] [] pos) (fun e W=>(fs e W).bind fun s W=>if s.isStr then .st else opt (items W s) W):=by
 obtain ⟨ta,ha,ka⟩:=ha
 refine ⟨_,pTy call_list_of hg hm PyProof.Rows.boot_list (by decide) (by decide) hn _ (pa_cons ha pa_nil (star1 hn _ _)),fun e W sg H F eta Q s k => ?_⟩
 refine ka e W sg H F eta _ s ?_
 rw [R.wp_bind] at k
 refine R.wp_mono k fun x W1 k v H1 F1 eta1 o1 x1 r1 => ?_
 split at k
 ·exact k.elim
 ·rename_i hs
  simp only [Bool.not_eq_true] at hs
  obtain ⟨xs,hi,k⟩:=zZD k
  obtain ⟨a,vs,rfl,rl,hh⟩:=r1.seq (s.ext x1 o1) hi hs
  refine ⟨a,vs,rfl,hh.imp SqL.of TupF.sq,fun p hp => ?_⟩
  exact k p vs _ F1 eta1 (o1.new hp) (Ext.trans s.ok o1 x1 (Ext.new hp)) (x1.there s.ok o1 hp) upd_same (o1.notF hp) (o1.notE hp) rl
/-- list(name),the name's list from outside -/
def ScrOk (B : Tb0) (K : PySem.W.Frag) : Prop := ∀ a ns H,B.kl a ns → SqL K H a (ns.map V.int)
theorem RepL.ofInts (B : Tb0) (F : Hp) (eta : List Addr) : ∀ ns : List Int,RepL B F eta (ns.map D.int) (ns.map V.int)
 | []=>.nil
 | i :: r=>.cons (.int i) (RepL.ofInts B F eta r)
theorem zZMo {i : Nat} {x : Str} {p2 : Pos} (hk : ScrOk B X.K) (hg : Gl X "list") (hm : X.mg "list" = none) (hN : X.N[i]? = some x) (hv : Vis X.env.scope x) (hd : (x == ("__debug__" : Str)) = false) (hc : (x == ("__classdict__" : Str)) = false) :
  FOk B X (.Call (.Name "list" p) [.Name x p2] [] pos) (fun e W=>match e[i]? with | some (.val (.ext ns))=>.ok (ns.map D.int) W | _=>.st):=by
 refine ⟨_,pTy call_list_of hg hm PyProof.Rows.boot_list (by decide) (by decide) rfl _ (pa_cons (pe_var hN hv hd hc) pa_nil (star1 rfl _ _)),fun e W sg H F eta Q s k => ?_⟩
 dsimp only at k
 split at k
 ·rename_i ns hs
  obtain ⟨v,h1,h2⟩:=s.sl i _ hs
  cases h2 with
  | ext h =>
   rename_i a
   have hq : SqL X.K H a (ns.map V.int):=by
    rcases h with ⟨o,h⟩ | h
    ·exact .inl (.inr ⟨o,s.ok.sub _ _ h⟩)
    ·exact hk a ns H h
   refine ⟨_,h1,a,_,rfl,.inl hq,fun p hp => ?_⟩
   exact k p _ _ F eta (s.ok.new hp) (Ext.new hp) hp upd_same (s.ok.notF hp) (s.ok.notE hp) (RepL.ofInts _ _ _ ns)
 ·exact k.elim
theorem zZGg {s : Src} {v : V} (st : Stt B e W sg H F eta) (r : SrcRep B e sg F eta s v) (h : lstSrc W s = true) (K : PySem.W.Frag) : tyV K "list" v H ∧ s.isStr = false ∧ s.isTup = false:=by
 unfold lstSrc at h
 simp only [Bool.and_eq_true,Bool.not_eq_true'] at h
 obtain ⟨h1,h2,h3⟩:=h
 obtain ⟨xs,hi⟩:=Option.isSome_iff_exists.mp h3
 obtain ⟨a,vs,rfl,_,hh⟩:=r.lst st hi h1 h2
 exact ⟨.inl ⟨rfl,_,SqL.of hh⟩,h1,h2⟩
/-- an exception of the class c,its own value -/
theorem takes0N {X : Cx} : L2N.Takes X (fun _ _ _ _=>False):=fun _ _ x=>by
 obtain ⟨_,_,_,_,_,_,_,_,_,_,_,_,_,_,_,_,z⟩:=x
 exact z.elim
def XRep (B : Tb0) (F : Hp) (eta : List Addr) (c : Nat) (p : D) (cls : Value) (d : Option Addr) (H : Hp) : Prop:=cls = .ref (B.ca c) ∧ XPay B F eta H c p d
/-- the wish E of an exception,by the evaluator's word -/
def XW (B : Tb0) (F : Hp) (eta : List Addr) (H : Hp) (E : XK) : Nat → D → Wd → Prop:=fun c p W' => ∀ (H' F' : Hp) (eta' : List Addr) (cls : Value) (d : Option Addr),OkH B F' eta' W' H' → Ext F eta H F' eta' H' → XRep B F' eta' c p cls d H' → E cls d H'
/-- how B's wish stands to X -/
structure XLk (B : Tb) (X : Cx) : Prop where
 tk : L2N.Takes X B.wx
 lk : ∀ (c : Nat) (p : D) (W' : Wd) (sg : L2.St) (H' F' : Hp) (eta' : List Addr) (cls : Value) (d : Option Addr),B.xq c p W' → OkH B F' eta' W' H' → Ext B.xF B.xeta B.xH F' eta' H' → (∀ i ∈ B.xk,sg[i]? = B.xs[i]?) → sg.length = B.xn → XRep B F' eta' c p cls d H' → B.wx cls d sg H'
theorem XLk.wish (l : XLk B X) {e : Env} {sg : L2.St} {F F1 H H1 : Hp} {eta eta1 : List Addr} {W W1 : Wd} (s : Stt B e W sg H F eta) (o1 : OkH B F1 eta1 W1 H1) (x1 : Ext F eta H F1 eta1 H1) :
  ∀ c p W',B.xq c p W' → XW B F1 eta1 H1 (WE B.wx sg) c p W':=fun c p W' q H' F' eta' cls d o' x' r=>by
 have y:=Ext.trans' (B:=B) trivial s.ok s.xx x1
 exact l.lk c p W' sg H' F' eta' cls d q o' (Ext.trans' (B:=B) trivial o1 y x') s.xr s.xl r
/-- a def's promise,by what the evaluator says of it -/
def spC (B : Tb0) (c : List D → Wd → R D) : Sp:=fun vs H Q E => ∃ (ds : List D) (W : Wd) (F : Hp) (eta : List Addr),OkH B F eta W H ∧ RepL B F eta ds vs ∧
 (c ds W).wp (XW B F eta H E) fun d W' => ∀ (v : V) (H' F' : Hp) (eta' : List Addr),OkH B F' eta' W' H' → Ext F eta H F' eta' H' → Rep B F' eta' d v → Q v H'
/-- an __init__'s promise -/
def spI (B : Tb0) (c : Nat) (g : List D → Wd → R (List (Nat × D))) : Sp:=fun vs H Q E => ∃ (ds : List D) (W : Wd) (F : Hp) (eta : List Addr) (x dx : Addr) (us : List V) (H0 : Hp),vs = .ref x :: us ∧
 H = upd (upd H0 dx (.own x)) x (.ins (B.ca c) dx []) ∧ H0 x = none ∧ H0 dx = none ∧ dx ≠ x ∧ OkH B F eta W H0 ∧ RepL B F eta ds us ∧
 (g ds W).wp (XW B F eta H0 E) fun fs W' => ∀ (H' F' : Hp) (eta' : List Addr) (dx' : Addr) (gs : List (Str × V)),OkH B F' eta' W' H' → Ext F eta H0 F' eta' H' → H' x = some (.ins (B.ca c) dx' gs) → F' x = none → x ∉ eta' → RepF B F' eta' fs gs → Q .non H'
theorem zZCM {pins : List (Addr × Obj)} {σ : L2.St} {H : Hp} {s : Shared} {k : Nat} {f : Addr} {sp : Sp} {E : XK} {Q : VK} {us : List Value} {vs : List V} (F : FnR X.prog X.w X.K X.mg X.base (L2N.CX X.prog X.w) k f sp) (hr : Room k X.A) (hx : PassesAt (L2N.CX X.prog X.w) X σ E) (I : Inv X pins σ H s) (r : Vals vs us) (h : sp vs H Q E) :
  codeAny (model X.prog X.w) X.A (.call (.ref f) ⟨us,[]⟩) (fun r s'=>match r with | .ok (.ret v)=>EP X pins σ Q v s' | .ok _=>False | .error e=>X.xe e s') s:=by
 refine codeAny_mono (F X.A X.stack s H us vs Q E hr I.env0 r h) fun r s' hq => ?_
 cases r with
 | error e=>exact hx pins H s e s' I hq
 | ok fl =>
  cases fl with
  | ret u=>exact I.after hq
  | next=>exact False.elim hq
  | brk=>exact False.elim hq
  | cont=>exact False.elim hq
theorem zZIz {pins : List (Addr × Obj)} {σ : L2.St} {H : Hp} {s : Shared} {k : Nat} {f C : Addr} {sp : Sp} {E : XK} {Q : VK} {us : List Value} {vs : List V} (M : Mk X.K C f) (F : FnR X.prog X.w X.K X.mg X.base (L2N.CX X.prog X.w) k f sp) (hr : Room (k + 1) X.A) (hx : PassesAt (L2N.CX X.prog X.w) X σ E) (I : Inv X pins σ H s) (r : Vals vs us)
  (h : ∀ x dx,H x = Option.none → H dx = Option.none → dx ≠ x → sp (V.ref x :: vs) (upd (upd H dx (.own x)) x (.ins C dx [])) (fun v H2=>v = .non ∧ Q (.ref x) H2) E) :
  wpAny (model X.prog X.w) X.A (call (.ref C) us) (EP X pins σ Q) X.xe s:=by
 have hq:=h (s.heap.objs.size + 1) s.heap.objs.size (I.hok.fresh (Nat.le_succ _)) (I.hok.fresh (Nat.le_refl _)) (Nat.ne_of_lt (Nat.lt_succ_self _))
 have I2:=Inv.made (C:=C) I
 have r2 : Vals (V.ref (s.heap.objs.size + 1) :: vs) (Value.ref (s.heap.objs.size + 1) :: us):=.cons rfl r
 refine wpAny_call (make_map (f:=f) I.kIn M.makes M.init (beq_iff_eq.mp M.fn) (codeAny_mono (F _ X.stack _ _ (Value.ref (s.heap.objs.size + 1) :: us) _ _ E (hr.make C us []) (I2.env0.make C us []) r2 hq) fun r s' hq' => ?_))
 cases r with
 | error e=>exact hx pins _ _ e s' I2 hq'
 | ok fl =>
  cases fl with
  | ret u =>
   obtain ⟨v,H',I3,rv,ev,q3⟩:=I2.after hq'
   subst ev
   exact ⟨rv,⟨V.ref (s.heap.objs.size + 1),H',I3,rfl,q3⟩⟩
  | next=>exact False.elim hq'
  | brk=>exact False.elim hq'
  | cont=>exact False.elim hq'
theorem zZJ5 {k : Nat} {f C : Addr} {sp : Sp} {x : Str} {t : TA} (M : Mk X.K C f) (F : FnR X.prog X.w X.K X.mg X.base (L2N.CX X.prog X.w) k f sp) (hr : Room (k + 1) X.A) (hg : Gl X x) (hm : X.mg x = some (.ref C)) {Wx : WX} (tk : L2N.Takes X Wx) (ha : PA X (pa :: es) t) (hdb : (x == ("__debug__" : Str)) = false)
  (he : starEach (pa :: es) X.env = (false,eval pa X.env) :: starEach es X.env) (hpl : (backTo pos (starEach es X.env)).any (·.1) = false) : PE X (.Call (.Name x p) (pa :: es) [] pos) (fun σ H Q=>StX.tMakeR C sp (WE Wx σ) t σ H Q):=by
 refine ⟨fun pins s σ H Q I h => ?_⟩
 refine wpAny_Call_Name_kw (ld_glob I hg hm ?_ hdb)
 refine PySem.W.callWith_K (h₀:=X.base) I.ok.mod.kin M.kp (thn (ha.run pos pins s σ H _ I h) fun us s1 ⟨vs,H1,I1,r,q⟩=>⟨I1.kIn, ?_⟩) he hpl
 exact zZIz M F hr (L2N.passAt tk σ) I1 r q
/-- f(e,..) by a positional promise -/
theorem zZKG {k : Nat} {a : Addr} {sp : Sp} {x : Str} {t : TA} (Fn : FnR X.prog X.w X.K X.mg X.base (L2N.CX X.prog X.w) k a sp) (hr : Room k X.A) (hg : Gl X x) (hm : X.mg x = some (.ref a)) (hk : PySem.W.keepIn X.K (.ref a) = true)
  (hd : (x == ("__debug__" : Str)) = false) (hn : notStar pa = true) {Wx : WX} (tk : L2N.Takes X Wx) (ha : PA X (pa :: es) t) : PE X (.Call (.Name x p) (pa :: es) [] pos) (fun σ H Q=>t σ H fun vs H1=>sp vs H1 Q (WE Wx σ)):=by
 refine ⟨fun pins s σ H Q I h => ?_⟩
 refine wpAny_Call_Name_kw (ld_glob I hg hm ?_ hd)
 cases hs : es.all notStar with
 | true =>
  refine PySem.W.callWith_K (h₀:=X.base) I.ok.mod.kin hk (thn (ha.run pos pins s σ H _ I h) fun us s1 ⟨vs,H1,I1,r,q⟩=>⟨I1.kIn, ?_⟩) (star1 hn _ _) (zZA4 _ _ hs)
  exact wpAny_call (zZCM Fn hr (L2N.passAt tk σ) I1 r q)
 | false =>
  refine PySem.W.callWith_S2 (h₀:=X.base) I.ok.mod.kin hk (thn (ha.run pos pins s σ H _ I h) fun us s1 ⟨vs,H1,I1,r,q⟩=>⟨I1.kIn, ?_⟩) (star1 hn _ _) (zZGm _ _ hs)
  exact wpAny_call (zZCM Fn hr (L2N.passAt tk σ) I1 r q)
theorem zZJL {k : Nat} {a : Addr} {sp : Sp} {x : Str} (Fn : FnR X.prog X.w X.K X.mg X.base (L2N.CX X.prog X.w) k a sp) (hr : Room k X.A) (hg : Gl X x) (hm : X.mg x = some (.ref a)) (hk : PySem.W.keepIn X.K (.ref a) = true)
  (hd : (x == ("__debug__" : Str)) = false) {Wx : WX} (tk : L2N.Takes X Wx) : PE X (.Call (.Name x p) [] [] pos) (fun σ H Q=>sp [] H Q (WE Wx σ)):=by
 refine ⟨fun pins s σ H Q I h => ?_⟩
 refine wpAny_Call_Name_kw (ld_glob I hg hm ?_ hd)
 exact PySem.W.callWith_K0 I.kIn hk (wpAny_call (zZCM (us:=[]) Fn hr (L2N.passAt tk σ) I .nil h))
/-- where a def stands,what it promises -/
structure DefOk (B : Tb0) (P : Program) (w : World) (K : PySem.W.Frag) (mg : Str → Option Value) (base : Heap) (k : Nat) (c : List D → Wd → R D) (a : Addr) : Prop where
 fn : FnR P w K mg base (L2N.CX P w) k a (spC B c)
 kp : PySem.W.keepIn K (.ref a) = true
def headOk : List Expr → Bool
 | []=>true | a :: _=>notStar a
theorem zZJu {k : Nat} {a : Addr} {c : List D → Wd → R D} {x : Str} (Fn : DefOk B X.prog X.w X.K X.mg X.base k c a) (hl : XLk B X) (hr : Room k X.A) (hg : Gl X x) (hm : X.mg x = some (.ref a)) (hd : (x == ("__debug__" : Str)) = false) :
  EOk B X (.Call (.Name x p) [] [] pos) (fun e W=>c [] W) :=
 ⟨_,zZJL Fn.fn hr hg hm Fn.kp hd hl.tk,fun e W sg H F eta Q s k=>⟨[],W,F,eta,s.ok,.nil,R.wp_mono2 k (hl.wish s s.ok (Ext.refl _ _ _)) fun _ _ k=>k⟩⟩
theorem zZLN {k : Nat} {a : Addr} {c : List D → Wd → R D} {x : Str} {fs : Env → Wd → R (List D)} (Fn : DefOk B X.prog X.w X.K X.mg X.base k c a) (hl : XLk B X) (hr : Room k X.A) (hg : Gl X x) (hm : X.mg x = some (.ref a)) (hd : (x == ("__debug__" : Str)) = false)
  (hn : notStar pa = true) (ha : AOk B X (pa :: es) fs) : EOk B X (.Call (.Name x p) (pa :: es) [] pos) (fun e W=>(fs e W).bind fun xs W=>c xs W):=by
 obtain ⟨ta,ha,ka⟩:=ha
 refine ⟨_,zZKG Fn.fn hr hg hm Fn.kp hd hn hl.tk ha,fun e W sg H F eta Q s k => ?_⟩
 refine ka e W sg H F eta _ s ?_
 rw [R.wp_bind] at k
 refine R.wp_mono k fun xs W1 k vs H1 F1 eta1 o1 x1 r1 => ?_
 exact ⟨xs,W1,F1,eta1,o1,r1,R.wp_mono2 k (hl.wish s o1 x1) fun d W2 k v H' F' eta' o' x' r'=>k v H' F' eta' o' (Ext.trans s.ok o1 x1 x') r'⟩
/-- a def that is called within an except suite -/
def DefH (B : Tb0) (P : Program) (w : World) (K : PySem.W.Frag) (mg : Str → Option Value) (base : Heap) (k : Nat) (c : List D → Wd → R D) (a : Addr) : Prop :=
 PySem.W.keepIn K (.ref a) = true ∧ ∃ (fd : FuncData) (ps : List Str),Binds K fd ps [] ∧ L2H.FnH P w K mg base (L2N.CX P w) k a fd ps (spC B c)
theorem zZJX {k : Nat} {a : Addr} {c : List D → Wd → R D} {x : Str} {fs : Env → Wd → R (List D)} (Fn : DefH B X.prog X.w X.K X.mg X.base k c a) (hl : XLk B X) (hr : L2H.RoomH k X.A) (hc : L2H.HotC X) (hg : Gl X x) (hm : X.mg x = some (.ref a)) (hd : (x == ("__debug__" : Str)) = false)
  (hn : (pa :: es).all notStar = true) (ha : AOk B X (pa :: es) fs) : EOk B X (.Call (.Name x p) (pa :: es) [] pos) (fun e W=>(fs e W).bind fun xs W=>c xs W):=by
 obtain ⟨kp,fd,ps,hb,F⟩:=Fn
 obtain ⟨ta,ha,ka⟩:=ha
 simp only [List.all_cons,Bool.and_eq_true] at hn
 refine ⟨_,L2H.pe_callH (E:=fun σ=>WE B.wx σ) F hr hc hg hm kp hb (fun σ=>L2N.passAt hl.tk σ) ha hd (star1 hn.1 _ _) (zZA4 _ _ hn.2),fun e W sg H F eta Q s k => ?_⟩
 refine ka e W sg H F eta _ s ?_
 rw [R.wp_bind] at k
 refine R.wp_mono k fun xs W1 k vs H1 F1 eta1 o1 x1 r1 => ?_
 exact ⟨xs,W1,F1,eta1,o1,r1,R.wp_mono2 k (hl.wish s o1 x1) fun d W2 k v H' F' eta' o' x' r'=>k v H' F' eta' o' (Ext.trans s.ok o1 x1 x') r'⟩
theorem zZGY {o : Expr} {m : Str} {apos : Pos} {env : PySem.Env} (hb : attributeBase o m env (eval o env) = eval o env) (hl : (apos.endLine == pos.line) = true) (hn : es.all notStar = true) (hz : es.length < 30) :
  eval (.Call (.Attribute o m apos) es [] pos) env = (do
   let ov ← eval o env
   standAt apos.atName
   let (f,first) ← holding [ov] (getMethod ov m (do return (← importBound o env).getD true))
   callWith pos f first (backTo pos (starEach es env)) (backToKw pos (keywordEach [] env))):=by
 have hform : methodCallForm (es.length + ([] : List Keyword).length) (backTo pos (starEach es env)) (backToKw pos (keywordEach [] env)) = true:=by
  unfold methodCallForm
  have h1 : (backTo pos (starEach es env)).all (fun x => !x.1) = true:=by
   have:=zZA4 env pos hn
   simpa [List.all_eq_not_any_not] using this
  have h2 : (backToKw pos (keywordEach [] env)) = []:=rfl
  rw [h1,h2]
  simp
  exact hz
 have hpos : methodCallPos true o env apos pos = pure pos:=by
  unfold methodCallPos
  rw [hl]
  rfl
 rw [arm_eval_Call,hb]
 unfold methodCall
 rw [hform,hpos]
 rfl
def tMethR (X : Cx) (Wx : WX) (k : Nat) (m : Str) (ta : TE) (t : TA) : TE:=fun σ H Q=>ta σ H fun x H1 => ∃ (a dx C g : Addr) (fs : List (Str × V)) (sp : Sp),x = .ref a ∧ H1 a = some (.ins C dx fs) ∧ Cls X.K C ∧ Meth X.K C m g ∧
   fs.lookup m = none ∧ FnR X.prog X.w X.K X.mg X.base (L2N.CX X.prog X.w) k g sp ∧ t σ H1 fun vs H2=>sp (x :: vs) H2 Q (WE Wx σ)
theorem zZKf {k : Nat} {o : Expr} {m : Str} {apos : Pos} {ta : TE} {t : TA} {Wx : WX} (tk : L2N.Takes X Wx) (hr : Room k X.A) (hb : attributeBase o m X.env (eval o X.env) = eval o X.env) (hl : (apos.endLine == pos.line) = true) (hn : (pa :: es).all notStar = true) (hz : (pa :: es).length < 30)
  (ho : PE X o ta) (ha : PA X (pa :: es) t) : PE X (.Call (.Attribute o m apos) (pa :: es) [] pos) (tMethR X Wx k m ta t):=by
 refine ⟨fun pins s σ H Q I h => ?_⟩
 refine PySem.W.methodCall_KW (pl:=do return (← importBound o X.env).getD true) (thn (ho.run pins s σ H _ I h) fun u s1 ⟨x,H1,I1,rx,a,dx,C,g,fs,sp,ex,ea,c,hm,l,Fn,q⟩ => ?_) (zZGY hb hl hn hz)
 subst ex
 obtain rfl : u = Value.ref a:=rx
 refine getmeth_ok I1 ea c hm l ?_
 simp only [List.all_cons,Bool.and_eq_true] at hn
 refine PySem.W.callWith_K (first:=[.ref a]) (h₀:=X.base) I1.ok.mod.kin hm.kp (thn (ha.run pos pins s1 σ H1 _ I1 q) fun us s2 ⟨vs,H2,I2,r,q2⟩=>⟨I2.kIn, ?_⟩) (star1 hn.1 _ _) (zZA4 _ _ hn.2)
 exact wpAny_call (zZCM (us:=.ref a :: us) (vs:=.ref a :: vs) Fn hr (L2N.passAt tk σ) I2 (.cons rfl r) q2)
theorem zZJo {k : Nat} {o : Expr} {m : Str} {apos : Pos} {ta : TE} {Wx : WX} (tk : L2N.Takes X Wx) (hr : Room k X.A) (hb : attributeBase o m X.env (eval o X.env) = eval o X.env) (hl : (apos.endLine == pos.line) = true)
  (ho : PE X o ta) : PE X (.Call (.Attribute o m apos) [] [] pos) (tMethR X Wx k m ta tNil):=by
 refine ⟨fun pins s σ H Q I h => ?_⟩
 refine PySem.W.methodCall_KW (pl:=do return (← importBound o X.env).getD true) (thn (ho.run pins s σ H _ I h) fun u s1 ⟨x,H1,I1,rx,a,dx,C,g,fs,sp,ex,ea,c,hm,l,Fn,q⟩ => ?_) (zZGY hb hl rfl (by decide))
 subst ex
 obtain rfl : u = Value.ref a:=rx
 refine getmeth_ok I1 ea c hm l ?_
 exact PySem.W.callWith_K0 (first:=[.ref a]) I1.kIn hm.kp (wpAny_call (zZCM (us:=[.ref a]) (vs:=[.ref a]) Fn hr (L2N.passAt tk σ) I1 (.cons rfl .nil) q))
/-- what is known of the methods -/
def MethOk (B : Tb0) (P : Program) (w : World) (K : PySem.W.Frag) (mg : Str → Option Value) (base : Heap) (k : Nat) (g : Cfg) : Prop :=
 ∀ c m f,g.meth c m = some f → m < B.nA ∧ Cls K (B.ca c) ∧ ∃ a,Meth K (B.ca c) (B.fn m) a ∧ FnR P w K mg base (L2N.CX P w) k a (spC B (g.call f))
def methF (g : Cfg) (m : Nat) (fa : Env → Wd → R D) (fs : Env → Wd → R (List D)) : Env → Wd → R D:=fun e W=>(fa e W).bind fun o W =>
  (match o with
   | .ins c fs=>if (fs.lookup m).isNone then opt (g.meth c m) W else .st
   | .own n=>(match W[n]? with | some (.ins c fs)=>if (fs.lookup m).isNone then opt (g.meth c m) W else .st | _=>.st)
   | _=>.st).bind fun f W=>(fs e W).bind fun xs W=>g.call f (o :: xs) W
theorem zZGc {lv : Nat} {g : Cfg} {m : Nat} {nm : Str} {fs : Env → Wd → R (List D)} {ta : TE} {tb : TA} (hx : XLk B X) (hM : MethOk B X.prog X.w X.K X.mg X.base lv g) (hnm : B.fn m = nm)
  (ka : ∀ (e : Env) (W : Wd) (sg : L2.St) (H F : Hp) (eta : List Addr) (Q : VK),Stt B e W sg H F eta →
   (fa e W).wp B.xq (fun d W' => ∀ (v : V) (H' F' : Hp) (eta' : List Addr),OkH B F' eta' W' H' → Ext F eta H F' eta' H' → Rep B F' eta' d v → Q v H') → ta sg H Q)
  (kb : ∀ (e : Env) (W : Wd) (sg : L2.St) (H F : Hp) (eta : List Addr) (Q : List V → Hp → Prop),Stt B e W sg H F eta →
   (fs e W).wp B.xq (fun ds W' => ∀ (vs : List V) (H' F' : Hp) (eta' : List Addr),OkH B F' eta' W' H' → Ext F eta H F' eta' H' → RepL B F' eta' ds vs → Q vs H') → tb sg H Q) :
  ∀ (e : Env) (W : Wd) (sg : L2.St) (H F : Hp) (eta : List Addr) (Q : VK),Stt B e W sg H F eta →
   (methF g m fa fs e W).wp B.xq (fun d W' => ∀ (v : V) (H' F' : Hp) (eta' : List Addr),OkH B F' eta' W' H' → Ext F eta H F' eta' H' → Rep B F' eta' d v → Q v H') → tMethR X B.wx lv nm ta tb sg H Q:=by
 subst hnm
 intro e W sg H F eta Q s k
 refine ka e W sg H F eta _ s ?_
 unfold methF at k
 rw [R.wp_bind] at k
 refine R.wp_mono k fun o W1 k v H1 F1 eta1 o1 x1 r1 => ?_
 have go : ∀ (a dx : Addr) (c f : Nat) (gs : List (Str × V)),v = .ref a → H1 a = some (.ins (B.ca c) dx gs) → g.meth c m = some f → gs.lookup (B.fn m) = none →
   ((fs e W1).bind fun xs W=>g.call f (o :: xs) W).wp B.xq (fun d W' => ∀ (v : V) (H' F' : Hp) (eta' : List Addr),OkH B F' eta' W' H' → Ext F eta H F' eta' H' → Rep B F' eta' d v → Q v H') →
   ∃ (a dx C q : Addr) (fs : List (Str × V)) (sp : Sp),v = .ref a ∧ H1 a = some (.ins C dx fs) ∧ Cls X.K C ∧ Meth X.K C (B.fn m) q ∧
   fs.lookup (B.fn m) = none ∧ FnR X.prog X.w X.K X.mg X.base (L2N.CX X.prog X.w) lv q sp ∧ tb sg H1 fun vs H2=>sp (v :: vs) H2 Q (WE B.wx sg):=by
  intro a dx c f gs e1 e2 e3 e4 k
  obtain ⟨_,h2,q,h3,h4⟩:=hM c m f e3
  refine ⟨a,dx,_,q,gs,_,e1,e2,h2,h3,e4,h4, ?_⟩
  refine kb e W1 sg H1 F1 eta1 _ (s.ext x1 o1) ?_
  rw [R.wp_bind] at k
  refine R.wp_mono k fun xs W2 k vs H2 F2 eta2 o2 x2 r2 => ?_
  have y2:=Ext.trans s.ok o1 x1 x2
  exact ⟨o :: xs,W2,F2,eta2,o2,.cons (r1.mono x2.sub x2.pre) r2,R.wp_mono2 k (hx.wish s o2 y2) fun d W3 k v H' F' eta' o' x' r'=>k v H' F' eta' o' (Ext.trans s.ok o2 y2 x') r'⟩
 cases r1 with
 | ins h r =>
  simp only [] at k
  split at k
  ·rename_i hl
   rw [R.wp_bind] at k
   obtain ⟨f,q,k⟩:=zZD k
   have hlt:=(hM _ m f q).1
   exact go _ _ _ f _ rfl (o1.sub _ _ h) q (r.lookup_none hlt (Option.isNone_iff_eq_none.mp hl)) k
  ·exact k.elim
 | own h =>
  simp only [] at k
  split at k
  ·rename_i c fs hw
   split at k
   ·rename_i hl
    rw [R.wp_bind] at k
    obtain ⟨f,q,k⟩:=zZD k
    have hlt:=(hM _ m f q).1
    obtain ⟨dx,gs,q1,q2⟩:=o1.cell _ _ _ h hw
    exact go _ _ _ f _ rfl q1 q (q2.lookup_none hlt (Option.isNone_iff_eq_none.mp hl)) k
   ·exact k.elim
  ·exact k.elim
 | _=>exact k.elim
theorem zZKh {k : Nat} {g : Cfg} {m : Nat} {nm : Str} {apos : Pos} {fs : Env → Wd → R (List D)} (hx : XLk B X) (hM : MethOk B X.prog X.w X.K X.mg X.base k g) (hr : Room k X.A) (hnm : B.fn m = nm)
  (hb : attributeBase pb nm X.env (eval pb X.env) = eval pb X.env) (hl : (apos.endLine == pos.line) = true) (hn : (pa :: es).all notStar = true) (hz : (pa :: es).length < 30) (ho : EOk B X pb fa) (ha : AOk B X (pa :: es) fs) :
  EOk B X (.Call (.Attribute pb nm apos) (pa :: es) [] pos) (methF g m fa fs):=by
 obtain ⟨ta,ho,ka⟩:=ho
 obtain ⟨tb,ha,kb⟩:=ha
 exact ⟨_,zZKf hx.tk hr hb hl hn hz ho ha,zZGc hx hM hnm ka kb⟩
theorem zZJB {k : Nat} {g : Cfg} {m : Nat} {nm : Str} {apos : Pos} (hx : XLk B X) (hM : MethOk B X.prog X.w X.K X.mg X.base k g) (hr : Room k X.A) (hnm : B.fn m = nm)
  (hb : attributeBase pb nm X.env (eval pb X.env) = eval pb X.env) (hl : (apos.endLine == pos.line) = true) (ho : EOk B X pb fa) :
  EOk B X (.Call (.Attribute pb nm apos) [] [] pos) (methF g m fa (fun _ W=>.ok [] W)):=by
 obtain ⟨ta,ho,ka⟩:=ho
 exact ⟨_,zZJo hx.tk hr hb hl ho,zZGc hx hM hnm ka fun e W sg H F eta Q s k=>k [] H F eta s.ok (Ext.refl _ _ _) .nil⟩
def MakeOk (B : Tb0) (P : Program) (w : World) (K : PySem.W.Frag) (mg : Str → Option Value) (base : Heap) (k : Nat) (g : Cfg) (c : Nat) (x : Str) : Prop :=
 mg x = some (.ref (B.ca c)) ∧ ∃ a,Mk K (B.ca c) a ∧ FnR P w K mg base (L2N.CX P w) k a (spI B c (g.init c))
theorem zZKm {k : Nat} {g : Cfg} {c : Nat} {x : Str} {fs : Env → Wd → R (List D)} (hM : MakeOk B X.prog X.w X.K X.mg X.base k g c x) (hl : XLk B X) (hr : Room (k + 1) X.A) (hg : Gl X x) (hd : (x == ("__debug__" : Str)) = false)
  (hn : (pa :: es).all notStar = true) (ha : AOk B X (pa :: es) fs) :
  EOk B X (.Call (.Name x p) (pa :: es) [] pos) (fun e W=>(fs e W).bind fun xs W=>(g.init c xs W).bind fun fs W=>if g.cellc c then newCell (.ins c fs) W else .ok (.ins c fs) W):=by
 obtain ⟨hm,a,M,Fn⟩:=hM
 obtain ⟨tb,ha,kb⟩:=ha
 simp only [List.all_cons,Bool.and_eq_true] at hn
 refine ⟨_,zZJ5 M Fn hr hg hm hl.tk ha hd (star1 hn.1 _ _) (zZA4 _ _ hn.2),fun e W sg H F eta Q s k => ?_⟩
 refine kb e W sg H F eta _ s ?_
 rw [R.wp_bind] at k
 refine R.wp_mono k fun xs W1 k vs H1 F1 eta1 o1 x1 r1 x dx hx hdx hne => ?_
 rw [R.wp_bind] at k
 refine ⟨xs,W1,F1,eta1,x,dx,vs,H1,rfl,rfl,hx,hdx,hne,o1,r1,R.wp_mono2 k (hl.wish s o1 x1) fun fs W2 k H2 F2 eta2 dx2 gs o2 x2 h2 h3 h4 r2=>⟨rfl, ?_⟩⟩
 have y2:=Ext.trans s.ok o1 x1 x2
 have h0 : H x = none:=x1.there s.ok o1 hx
 split at k
 ·have o3 : OkH B F2 (eta2 ++ [x]) (W2 ++ [.ins c fs]) H2:=o2.toCell h3 h4 ⟨dx2,gs,h2,r2.mono (SubH.refl _) (List.prefix_append _ _)⟩
  refine k (.ref x) H2 F2 (eta2 ++ [x]) o3 ⟨y2.sub,y2.pre.trans (List.prefix_append _ _),y2.keep,y2.newF,fun b hb => ?_⟩ (.own ?_)
  ·rcases List.mem_append.mp hb with hb | hb
   ·exact y2.newE b hb
   ·rw [List.mem_singleton.mp hb]; exact .inr h0
  ·rw [← o2.len]; simp
 ·have s1:=zZr (u:=HO.ins (B.ca c) dx2 gs) h3
  refine k (.ref x) H2 (upd F2 x (.ins (B.ca c) dx2 gs)) eta2 (o2.frz h2 h3 h4) ⟨y2.sub.trans s1,y2.pre,y2.keep,fun b hb => ?_,y2.newE⟩ (.ins upd_same (r2.mono s1 (List.prefix_refl _)))
  by_cases e : b = x
  ·subst e; exact .inr h0
  ·rw [upd_ne e] at hb; exact y2.newF b hb
end
end DL
set_option maxRecDepth 100000
set_option maxHeartbeats 4000000
namespace DL
open PySem PySem.Spec PyProof.Rows
open L2 hiding St
end DL
set_option maxRecDepth 100000
set_option maxHeartbeats 4000000
namespace DL
open PySem PySem.Spec PyProof.Rows
open L2 hiding St
theorem passLN {X : Cx} : Passes (L2N.CX X.prog X.w) X E0:=fun _ _ _ _ _ _ _ h=>by
 obtain ⟨_,_,_,_,_,_,_,_,_,_,_,_,z⟩:=h
 exact z.elim
section
variable {B : Tb} {X : Cx} {py pa pb pc : Expr} {pos p : Pos} {fa fb : Env → Wd → R D} {e : Env} {sg : L2.St} {F F' H H' : Hp} {eta eta' : List Addr} {W W' : Wd}
def rOwnE (X : Cx) (k : Nat) : R2:=fun x y H Q => ∃ (a dx C : Addr) (fs : List (Str × V)) (b dy C' : Addr) (gs : List (Str × V)) (q : Addr) (sp : Sp),x = .ref a ∧ y = .ref b ∧ H a = some (.ins C dx fs) ∧ H b = some (.ins C' dy gs) ∧
 PySem.W.findIn X.K (.ref C) "__eq__" = some (some (.ref q)) ∧ PySem.W.isFn X.K (.ref q) = true ∧ PySem.W.notFirst X.K C (.ref C') = true ∧ FnR X.prog X.w X.K X.mg X.base (L2N.CX X.prog X.w) k q sp ∧ sp [x,y] H Q E0
theorem zZIV {k : Nat} (hr : Room k X.A) : OpR X (compareOp .Eq) (rOwnE X k):=by
 intro pins s σ H x y v u Q I rx ry h
 obtain ⟨a,dx,C,fs,b,dy,C',gs,q,sp,rfl,rfl,ha,hb,hs,hf,hn,Fn,hq⟩:=h
 cases (show v = Value.ref a from rx)
 cases (show u = Value.ref b from ry)
 obtain ⟨mA,O,_⟩:=ins_get I.hok ha
 obtain ⟨mB,O',_⟩:=ins_get I.hok hb
 obtain ⟨od,J,_⟩:=O.look
 obtain ⟨od',J',_⟩:=O'.look
 obtain ⟨m,hF⟩:=I.fr
 show wpAny _ _ (richCompare .Eq (.ref a) (.ref b)) _ _ _
 refine PySem.W.cmp_K (op:=.Eq) (tb:=.ref C') hr.units0 hF I.ok.mod.kin J J'.type hn hs hf ?_
 refine wpAny_mono (wpAny_call (run_fnR (us:=[.ref a,.ref b]) (vs:=[.ref a,.ref b]) Fn hr passLN I (.cons rfl (.cons rfl .nil)) hq)) (fun w s' z => ?_) fun _ _ x=>x
 obtain ⟨z',H',I',rz,qz⟩:=z
 exact SlX.cmpback rz ⟨z',H',I',rz,qz⟩
/-- what is known of the own == -/
def EqmOk (B : Tb0) (P : Program) (w : World) (K : PySem.W.Frag) (mg : Str → Option Value) (base : Heap) (k : Nat) (g : Cfg) : Prop :=
 ∀ c c' f,g.eqm c c' = some f → ∃ a,PySem.W.findIn K (.ref (B.ca c)) "__eq__" = some (some (.ref a)) ∧ PySem.W.isFn K (.ref a) = true ∧ PySem.W.notFirst K (B.ca c) (.ref (B.ca c')) = true ∧ FnR P w K mg base (L2N.CX P w) k a (spC B (g.call f))
theorem zZHB {x : D} {v : V} {c : Nat} (o : OkH B F eta W H) (r : Rep B F eta x v) (h : clsD W x = some c) : ∃ a dx gs,v = .ref a ∧ H a = some (.ins (B.ca c) dx gs):=by
 cases r with
 | ins h1 r=>simp [clsD] at h; subst h; exact ⟨_,_,_,rfl,o.sub _ _ h1⟩
 | own h1 =>
  simp only [clsD] at h
  split at h
  ·rename_i c' fs hw
   cases h
   obtain ⟨dx,gs,e,_⟩:=o.cell _ _ _ h1 hw
   exact ⟨_,dx,gs,rfl,e⟩
  ·cases h
 | _=>simp [clsD] at h
def eqoF (g : Cfg) (fa fb : Env → Wd → R D) : Env → Wd → R D:=fun e W=>(fa e W).bind fun x W=>(fb e W).bind fun y W=>eqoR g x y W
theorem zZGy {k : Nat} {g : Cfg} {x y : D} {v u : V} {Q : VK} (hM : EqmOk B X.prog X.w X.K X.mg X.base k g) (o : OkH B F eta W H) (r1 : Rep B F eta x v) (r2 : Rep B F eta y u)
  (q : (eqoR g x y W).wp B.xq fun d W' => ∀ (w : V) (H' F' : Hp) (eta' : List Addr),OkH B F' eta' W' H' → Ext F eta H F' eta' H' → Rep B F' eta' d w → (∃ b,d = .bl b) → Q w H') : rOwnE X k v u H Q:=by
 unfold eqoR at q
 split at q
 ·rename_i c c' h1 h2
  split at q
  ·rename_i f hf
   obtain ⟨a,dx,gs,rfl,ha⟩:=zZHB o r1 h1
   obtain ⟨b,dy,gs',rfl,hb⟩:=zZHB o r2 h2
   obtain ⟨q1,e1,e2,e3,e4⟩:=hM c c' f hf
   refine ⟨a,dx,_,gs,b,dy,_,gs',q1,_,rfl,rfl,ha,hb,e1,e2,e3,e4, ?_⟩
   rw [R.wp_bind] at q
   refine ⟨[x,y],W,F,eta,o,.cons r1 (.cons r2 .nil),R.wp_mono (R.wp_calm q) fun d W2 k w H' F' eta' o' x' r' => ?_⟩
   cases d with
   | bl b=>exact k w H' F' eta' o' x' r' ⟨b,rfl⟩
   | _=>exact k.elim
  ·exact q.elim
 ·exact q.elim
theorem zZL9 {k : Nat} {g : Cfg} (hM : EqmOk B X.prog X.w X.K X.mg X.base k g) (hr : Room k X.A) (hm : behindInMarks .Eq pb = false) (ha : EOk B X pa fa) (hb : EOk B X pb fb) : EOk B X (.Compare pa [.Eq] [pb] pos) (eqoF g fa fb):=by
 obtain ⟨ta,ha,ka⟩:=ha
 obtain ⟨tb,hb,kb⟩:=hb
 refine ⟨_,pe_cmpR (zZIV hr) ha hb hm,fun e W sg H F eta Q s k => ?_⟩
 refine ka e W sg H F eta _ s ?_
 unfold eqoF at k
 rw [R.wp_bind] at k
 refine R.wp_mono k fun x W1 k v H1 F1 eta1 o1 x1 r1 => ?_
 rw [R.wp_bind] at k
 refine kb e W1 sg H1 F1 eta1 _ (s.ext x1 o1) (R.wp_mono k fun y W2 k u H2 F2 eta2 o2 x2 r2 => ?_)
 have y2:=Ext.trans s.ok o1 x1 x2
 exact zZGy hM o2 (r1.mono x2.sub x2.pre) r2 (R.wp_mono k fun d W3 k w H' F' eta' o' x' r' _=>k w H' F' eta' o' (Ext.trans s.ok o2 y2 x') r')
theorem zZLo {k : Nat} {g : Cfg} (hM : EqmOk B X.prog X.w X.K X.mg X.base k g) (hr : Room k X.A) (hm : behindInMarks .Eq pb = false) (ha : EOk B X pa fa) (hb : EOk B X pb fb) : TOk B X (.Compare pa [.Eq] [pb] pos) (tv (eqoF g fa fb)):=by
 obtain ⟨ta,ha,ka⟩:=ha
 obtain ⟨tb,hb,kb⟩:=hb
 refine ⟨_,pt_cmpR (zZIV hr) ha hb hm,fun e W sg H F eta Q s k => ?_⟩
 refine ka e W sg H F eta _ s ?_
 unfold tv eqoF at k
 rw [R.bind_assoc,R.wp_bind] at k
 refine R.wp_mono k fun x W1 k v H1 F1 eta1 o1 x1 r1 => ?_
 rw [R.bind_assoc,R.wp_bind] at k
 refine kb e W1 sg H1 F1 eta1 _ (s.ext x1 o1) (R.wp_mono k fun y W2 k u H2 F2 eta2 o2 x2 r2 => ?_)
 have y2:=Ext.trans s.ok o1 x1 x2
 rw [R.wp_bind] at k
 refine zZGy hM o2 (r1.mono x2.sub x2.pre) r2 (R.wp_mono k fun d W3 k w H' F' eta' o' x' r' hb => ?_)
 obtain ⟨b,rfl⟩:=hb
 cases r'
 exact ⟨b,rfl,k H' F' eta' o' (Ext.trans s.ok o2 y2 x')⟩
/-- isinstance(x,C),C a class of the text -/
structure IscAt (K : PySem.W.Frag) (C C' : Addr) (r : Bool) : Prop where
 cl : Cls K C
 ha : PySem.W.findIn K (.ref C) "__class__" = some (some (.builtin "object.__class__"))
 hn : PySem.W.specialIn K (.builtin "object.__class__") "__get__" = some (some (.builtin "getset_descriptor.__get__"))
 tk : PySem.W.takesIn K (.builtin "object.__class__") = some true
 mr : PySem.W.mroIn K C (.type "object") = some true
 kit : PySem.W.kitOne K (.ref C) (.ref C') = some r
 kn : PySem.W.kitOne K (.type "NoneType") (.ref C') = some false
def IscOk (B : Tb0) (K : PySem.W.Frag) (g : Cfg) : Prop := ∀ c c' r,g.isc c c' = some r → IscAt K (B.ca c) (B.ca c') r
theorem zZMb {g : Cfg} {c : Nat} {y : Str} {q2 : Pos} {fo : Env → Wd → R (Nat × List (Nat × D))} (hM : IscOk B X.K g) (hg : Gl X "isinstance") (hm : X.mg "isinstance" = none) (hg2 : Gl X y) (hm2 : X.mg y = some (.ref (B.ca c))) (hd : (y == ("__debug__" : Str)) = false) (hn : notStar pa = true) (ha : ObOk B X pa fo) :
  EOk B X (.Call (.Name "isinstance" p) [pa,.Name y q2] [] pos) (fun e W=>(fo e W).bind fun o W=>opt ((g.isc o.1 c).map .bl) W):=by
 obtain ⟨ta,ha,ka⟩:=ha
 have hx : PE X (.Name y q2) (tC (.ref (B.ca c))):=pe_glob (v:=.ref (B.ca c)) hg2 hm2 rfl hd
 refine ⟨_,pe_callB call_isi hg hm PyProof.Rows.boot_isinstance (pa_cons ha (pa_cons hx pa_nil (star1 rfl _ _)) (star1 hn _ _)) (by decide) (by decide) (star1 hn _ _) rfl,fun e W sg H F eta Q s k => ?_⟩
 refine ka e W sg H F eta _ s ?_
 rw [R.wp_bind] at k
 refine R.wp_mono k fun o W1 k a dx gs H1 F1 eta1 o1 x1 h1 r1 => ?_
 obtain ⟨z,q,k⟩:=zZD k
 simp only [Option.map_eq_some_iff] at q
 obtain ⟨b,q,rfl⟩:=q
 have A:=hM _ _ _ q
 exact ⟨.ref a,.ref (B.ca c),_,_,b,rfl,.own _,.base (.ins h1 A.cl A.ha A.hn A.tk A.mr),A.kit,k _ H1 F1 eta1 o1 x1 (.bl _)⟩
end
end DL
set_option maxRecDepth 100000
set_option maxHeartbeats 4000000
namespace DL
open PySem PySem.Spec PyProof.Rows
open L2 hiding St
def inN : Nat → Around → Around
 | 0,A=>A
 | j + 1,A=>(inN j A).in1
theorem zZJc : ∀ (j : Nat) (A : Around),(inN j A).units = A.units + j ∧ (inN j A).depth = A.depth ∧ (inN j A).handled = A.handled
 | 0,_=>⟨rfl,rfl,rfl⟩
 | j + 1,A=>by
  obtain ⟨a,b,c⟩:=zZJc j A
  refine ⟨?_,b,c⟩
  show (inN j A).units + 1 = _
  rw [a]
  omega
theorem zZCu {k j : Nat} {A : Around} (r : Room (k + 1) A) (h : j ≤ 16) : Room k (inN j A):=by
 obtain ⟨a,b,c⟩:=zZJc j A
 exact ⟨c.trans r.hd,by have:=r.dp; rw [b]; omega,by have:=r.un; rw [a]; omega⟩
section
variable {B : Tb} {X : Cx} {pins : List (Addr × Obj)} {σ : L2.St} {py pa pb pc : Expr} {pos p : Pos} {fa fb : Env → Wd → R D} {e : Env} {sg : L2.St} {F F' H H' : Hp} {eta eta' : List Addr} {W W' : Wd} {s : Shared}
theorem zZJw {P : Program} {w : World} {K : PySem.W.Frag} {mg : Str → Option Value} {base : Heap} {A : Around} {outer : List PySem.Env} (e : Env0 P w K mg base A outer s H) : ∀ j,Env0 P w K mg base (inN j A) outer s H
 | 0=>e
 | j + 1=>(zZJw e j).in1
theorem zZJd {j k : Nat} {g : Addr} {sp : Sp} {Q : VK} {us : List Value} {ws : List V} {E : Value → Shared → Prop} (Fn : FnR X.prog X.w X.K X.mg X.base (L2N.CX X.prog X.w) k g sp) (hr : Room (k + 1) X.A) (hj : j ≤ 16) (I : Inv X pins σ H s) (r : Vals ws us) (h : sp ws H Q E0) :
  codeAny (model X.prog X.w) (inN j X.A) (.call (.ref g) ⟨us,[]⟩) (fun r s'=>match r with | .ok (.ret v)=>EP X pins σ Q v s' | .ok _=>False | .error e=>E e s') s:=by
 refine codeAny_mono (Fn (inN j X.A) X.stack s H us ws Q E0 (zZCu hr hj) (zZJw I.env0 j) r h) fun r s' hq => ?_
 cases r with
 | error e =>
  obtain ⟨_,_,_,_,_,_,_,_,_,_,_,_,z⟩:=hq
  exact z.elim
 | ok fl =>
  cases fl with
  | ret u=>exact I.after hq
  | next=>exact False.elim hq
  | brk=>exact False.elim hq
  | cont=>exact False.elim hq
end
end DL
set_option maxRecDepth 100000
set_option maxHeartbeats 4000000
namespace DL
open PySem PySem.Spec PyProof.Rows
open L2 hiding St
inductive Sk where
 | l | t
def IterAt (k : Sk) (h : Heap) (it a : Addr) (i : Nat) : Prop:=match k with | .l=>h.IsListIter it a i | .t=>h.IsTupleIter it a i
def SeqAtK (k : Sk) (h : Heap) (a : Addr) (its : Array Value) : Prop:=match k with | .l=>h.IsList a its | .t=>h.IsTuple a its
def SqK (k : Sk) (K : PySem.W.Frag) (H : Hp) (a : Addr) (xs : List V) : Prop:=match k with | .l=>SqL K H a xs | .t=>SqT K H a xs
def iterObj (k : Sk) (a : Addr) : Obj:=match k with
 | .l=>{ cls:=.type "list_iterator",data:=.fields #[.ref a,.int 0 0] }
 | .t=>{ cls:=.type "tuple_iterator",data:=.fields #[.ref a,.int 0 0] }
section
variable {k : Sk} {h h' : Heap} {it a : Addr} {i : Nat} {its : Array Value}
theorem IterAt.obj (x : IterAt k h it a i) : ∃ o,h.get? it = some o ∧ ∀ v,o.data ≠ .cell v:=by
 cases k with
 | l=>obtain ⟨o,e,_,d⟩:=x; exact ⟨o,e,fun v q=>by rw [d] at q; cases q⟩
 | t=>obtain ⟨o,e,d⟩:=x; exact ⟨o,e,fun v q=>by simp [d] at q⟩
theorem IterAt.at (x : IterAt k h it a i) (e : ∀ o,h.get? it = some o → h'.get? it = some o) : IterAt k h' it a i:=by
 cases k with
 | l=>exact Heap.IsListIter.at x e
 | t=>exact Heap.IsTupleIter.at x e
theorem zZHb {prog : Program} {w : World} {A : Around} (hh : A.handled = none) (hne : a ≠ it) (its : Array Value) : Draws prog w A it [it,a] its.size (fun i v=>its[i]? = some v) (fun i h=>IterAt k h it a i ∧ SeqAtK k h a its):=by
 cases k with
 | l=>exact Draws.list hh it a hne its
 | t=>exact Draws.tuple hh it a hne its
theorem zZJy (its : Array Value) : Begins (.ref a) (iterObj k a) (fun h=>SeqAtK k h a its):=by
 cases k with
 | l=>exact begins_list a its
 | t=>exact begins_tuple a its
theorem zZIg (e : h.get? it = some (iterObj k a)) : IterAt k h it a 0:=by
 cases k with
 | l=>exact ⟨_,e,rfl,rfl⟩
 | t=>exact ⟨_,e,rfl,rfl⟩
end
section
variable {X : Cx} {pins : List (Addr × Obj)} {σ : L2.St} {H : Hp} {s : Shared} {k : Sk} {a : Addr} {xs ys : List V}
theorem zZHr (I : L2.Inv X pins σ H s) (h : SqK k X.K H a xs) : ∃ its : List Value,Vals xs its ∧ SeqAtK k s.heap a its.toArray ∧ a < s.heap.objs.size:=by
 cases k with
 | l=>obtain ⟨its,r,p,_⟩:=I.list h; exact ⟨its,r,p.isList,p.lt⟩
 | t=>obtain ⟨its,r,p,_⟩:=I.tuple h; exact ⟨its,r,p,p.lt⟩
theorem zZI5 (I : L2.Inv X pins σ H s) (h : SqK k X.K H a xs) (h' : SqK k X.K H a ys) : xs = ys:=by
 cases k with
 | l=>exact I.list_inj h h'
 | t=>exact I.tuple_inj h h'
end
theorem zZKt {X : Cx} {pins : List (Addr × Obj)} {s : Shared} {σ : L2.St} {H : Hp} {E : Value → Shared → Prop} {tg : Expr} {it : Addr} {fpG wr fp : List Addr} {n : Nat} {Y : Nat → Heap → Value → Heap → Prop} {St : Nat → Heap → Prop} {J : L2.It} {tn : Nat → Heap → Prop} {i : Nat} {xs : List V}
  (G : GoesN X.prog X.w X.A tg it fpG wr n Y St) (I : L2.Inv X pins σ H s) (hf : ∀ b ∈ fp,FpOk X pins H b) (hfp : ∀ b ∈ fp,b < s.heap.objs.size) (hwr : ∀ b ∈ wr,b ∈ fp) (hi : i < n) (st : St i s.heap) (ht : ∀ h',St (i + 1) h' → tn (i + 1) h') (hz : xs.length ≤ 3)
  (hY : ∀ h₀ v h',Y i h₀ v h' → ∃ (T : Addr) (vals : List Value),v = .ref T ∧ h₀.objs.size ≤ T ∧ h'.IsTuple T vals.toArray ∧ Vals xs vals)
  (hJ : ∀ T,H T = none → J.yld i H (.ref T) (upd H T (.tup xs))) :
  wpAny (model X.prog X.w) X.A (pyNext (.ref it)) (fun r s1 => ∃ u,r = some u ∧
   wpAny (model X.prog X.w) X.A (letOwnedTupleGo tg (.ref it) u) (fun _ s2 => ∃ x H',L2.Inv X pins σ H' s2 ∧ RelV x u ∧ J.yld i H x H' ∧ tn (i + 1) s2.heap ∧ ∀ b ∈ fp,H' b = none) E s1) E s:=by
 refine G.goes i s (fun u s2 => ∃ x H',L2.Inv X pins σ H' s2 ∧ RelV x u ∧ J.yld i H x H' ∧ tn (i + 1) s2.heap ∧ ∀ b ∈ fp,H' b = none) E hi st fun v h' tk y st' kk htk => ?_
 obtain ⟨T,vals,rfl,hT,hv,rv⟩:=hY _ _ _ y
 have hn : H T = none:=I.hok.fresh hT
 have new : ObjOk X.prog X.w (upd H T (.tup xs)) h' T (.tup xs):=⟨Nat.le_trans hz (by decide),vals,rv,hv⟩
 have I1 : L2.Inv X pins σ (upd H T (.tup xs)) { s with heap:=h',toks:=tk }:=I.turnedNew (ch:=wr) (fun b o hb q=>kk b o hb q) (fun b hb=>hf b (hwr b hb)) hT new
 refine ⟨.ref T,_,I1,rfl,hJ T hn,ht h' st',fun b hb => ?_⟩
 rw [upd_ne (Nat.ne_of_lt (Nat.lt_of_lt_of_le (hfp b hb) hT))]
 exact (hf b hb).1
theorem zZJJ {X : Cx} {pins : List (Addr × Obj)} {s : Shared} {σ : L2.St} {H : Hp} {E : Value → Shared → Prop} {tg : Expr} {it : Addr} {fpG wr fp : List Addr} {n : Nat} {Y : Nat → Heap → Value → Heap → Prop} {St : Nat → Heap → Prop}
  (G : GoesN X.prog X.w X.A tg it fpG wr n Y St) (I : L2.Inv X pins σ H s) (hf : ∀ b ∈ fp,FpOk X pins H b) (hwr : ∀ b ∈ wr,b ∈ fp) (st : St n s.heap) :
  wpAny (model X.prog X.w) X.A (pyNext (.ref it)) (fun r s1=>r = none ∧ L2.Inv X pins σ H s1) E s :=
 G.stops s (fun s1=>L2.Inv X pins σ H s1) E st fun h' tk kk _=>I.turnedL (ch:=wr) (fun b o hb q=>kk b o hb q) fun b hb=>hf b (hwr b hb)
def Je (K : PySem.W.Frag) (k : Sk) (a : Addr) : L2.It :=
 ⟨fun i H => ∃ (xs : List V) (x : V),SqK k K H a xs ∧ xs[i]? = some x,
  fun i H v H' => ∃ T x,v = .ref T ∧ H T = none ∧ H' = upd H T (.tup [.int (i : Nat),x]) ∧ ∀ xs,SqK k K H a xs → xs[i]? = some x,
  fun i H => ∃ xs : List V,SqK k K H a xs ∧ xs.length = i⟩
theorem zZNQ {P : Program} {w : World} {K : PySem.W.Frag} {elts : List Expr} {kk : Nat} {tpos : Pos} {k : Sk} {a e it : Addr} (hei : e ≠ it) (hea : e ≠ a) (hai : a ≠ it) :
  Turn P w K (.Tuple elts kk tpos) (Je K k a) [e,it] e (fun i h=>(∃ old,IsEnum h e it ((0 : Int) + (i : Int)) old) ∧ IterAt k h it a i) where
 mem:=by simp
 obj:=fun i h st d hd=>by
  obtain ⟨⟨old,he⟩,h1⟩:=st
  have e' : d = e ∨ d = it:=by simpa using hd
  rcases e' with q | q <;> subst q
  ·exact ⟨_,he,fun v q=>nomatch q⟩
  ·exact h1.obj
 keep:=fun i h h' st q=>by
  obtain ⟨⟨old,he⟩,h1⟩:=st
  exact ⟨⟨old,q e (by simp) _ he⟩,h1.at fun o z=>q it (by simp) o z⟩
 item:=by
  intro X hP hw hK hc i pins s σ H E I hf st hg
  subst hP hw hK
  obtain ⟨he,h1⟩:=st
  obtain ⟨xs,x,hqx,hx⟩:=hg
  obtain ⟨its1,rv1,p1,_⟩:=zZHr I hqx
  have n1 : i < its1.toArray.size:=by have:=(List.getElem?_eq_some_iff.mp hx).1; have:=rv1.length; simp; omega
  have G:=GoesN.enumFrom (elts:=elts) (x1:=kk) (pos:=tpos) 0 (zZHb (prog:=X.prog) (w:=X.w) (A:=X.A.in1) (k:=k) (I.ok.hd hc) hai its1.toArray) e hei (by simp [hei,hea]) (by simp)
  refine zZKt (J:=Je X.K k a) (tn:=fun i h=>(∃ old,IsEnum h e it ((0 : Int) + (i : Int)) old) ∧ IterAt k h it a i) (xs:=[.int (i : Nat),x]) (fp:=[e,it]) G I hf (fun d hdm => ?_) (by simp) n1 ⟨he,h1,p1⟩ (fun h' ⟨q1,q2⟩=>⟨q1,q2.1⟩) (by simp) (fun h₀ v h' ⟨T,t,u1,e1,e2,e3,e4⟩ => ?_) (fun T hT => ?_)
  ·obtain ⟨old,he⟩:=he
   have e' : d = e ∨ d = it:=by simpa using hdm
   rcases e' with q | q <;> subst q
   ·exact Heap.lt_size he
   ·obtain ⟨o,e,_⟩:=h1.obj; exact Heap.lt_size e
  ·obtain ⟨w1,g1,r1⟩:=rv1.get hx
   have f1 : w1 = u1:=by simpa [g1] using e3
   subst f1
   exact ⟨T,[.int (0 + (i : Int)) t,w1],e1,e2,e4,.cons ⟨t,by rw [Int.zero_add]⟩ (.cons r1 .nil)⟩
  ·exact ⟨T,x,rfl,hT,rfl,fun l hl=>by rw [zZI5 I hl hqx]; exact hx⟩
 done:=by
  intro X hP hw hK hc i pins s σ H E I hf st hg
  subst hP hw hK
  obtain ⟨he,h1⟩:=st
  obtain ⟨xs,hqx,hend⟩:=hg
  obtain ⟨its1,rv1,p1,_⟩:=zZHr I hqx
  have G:=GoesN.enumFrom (elts:=elts) (x1:=kk) (pos:=tpos) 0 (zZHb (prog:=X.prog) (w:=X.w) (A:=X.A.in1) (k:=k) (I.ok.hd hc) hai its1.toArray) e hei (by simp [hei,hea]) (by simp)
  have en : its1.toArray.size = i:=by have:=rv1.length; simp; omega
  exact zZJJ (fp:=[e,it]) G I hf (by simp) (by rw [en]; exact ⟨he,h1,p1⟩)
 self:=fun A i s Q E st h=>let ⟨⟨_,he⟩,_⟩:=st; wpAny_pyIter_enum he h
set_option maxHeartbeats 4000000 in
theorem zZH8 {v : Value} {o : PySem.Obj} {H : Heap → Prop} (B : Begins v o H) :
  Meets (Builtin.«enumerate.__new__» ⟨[.type "enumerate",v],[]⟩) (fun _ R s=>H s.heap ∧
   R (.ok (.ret (.ref (s.heap.push o).objs.size))) { s with heap:=(s.heap.push o).push { cls:=.type "enumerate",data:=.fields #[.none,.bool false,.ref s.heap.objs.size,rawInt 0,.none,.none] } }) :=
 .of_wp fun prog w A R s h=>by
  obtain ⟨hp,g,d,tk,os⟩:=s; obtain ⟨h1,h⟩:=h
  have hsub:=sub_enumerate
  have q1 : ∀ {A' : Around} {E : Value → Shared → Prop} {Q : Value → Shared → Prop},Q (.ref hp.objs.size) ⟨hp.push o,g,d,tk,os⟩ → wpAny (model prog w) A' (pyIter v) Q E ⟨hp,g,d,tk,os⟩ :=
   fun q=>B.iter prog w _ _ ⟨hp,g,d,tk,os⟩ _ h1 q
  wp_walk using q1
  refine wpAny_stack_any fun st=>wpAny_pure ?_
  split
  ·rename_i c _ _ _ _ _
   cases (c == Value.type "enumerate")
   ·wp_walk using q1
    exact ⟨_,rfl,h⟩
   ·wp_walk using q1
    exact ⟨_,rfl,h⟩
  ·wp_walk using q1
   exact ⟨_,rfl,h⟩
theorem zZHL {prog : Program} {w : World} {A : Around} {E : Value → Shared → Prop} {s : Shared} {v : Value} {o : PySem.Obj} {H : Heap → Prop} {Q : Value → Shared → Prop} (B : Begins v o H) (h1 : H s.heap)
  (h : ∀ h',IsEnum h' (s.heap.objs.size + 1) s.heap.objs.size 0 .none → h'.get? s.heap.objs.size = some o → h'.objs.size = s.heap.objs.size + 2 →
   (∀ b o,s.heap.get? b = some o → h'.get? b = some o) → Q (.ref (s.heap.objs.size + 1)) { s with heap:=h' }) :
  wpAny (model prog w) A (PySem.call (.type "enumerate") [v]) Q E s:=by
 refine callType_new F.called_enumerate (by decide) (F.typeCall_enumerate_1 _) (F.newCall_enumerate_1 _) (fun obj=>F.args_object_init_2 obj _) F.entry_enumerate_new
  (zZH8 B) ⟨h1, ?_⟩
 have hz : (s.heap.push o).objs.size = s.heap.objs.size + 1:=Heap.size_push ..
 show _ ∧ _
 rw [hz]
 have he : IsEnum ((s.heap.push o).push { cls:=.type "enumerate",data:=.fields #[.none,.bool false,.ref s.heap.objs.size,rawInt 0,.none,.none] }) (s.heap.objs.size + 1) s.heap.objs.size 0 .none:=by
  have:=Heap.get?_push_size (s.heap.push o) (o:={ cls:=.type "enumerate",data:=.fields #[.none,.bool false,.ref s.heap.objs.size,rawInt 0,.none,.none] }) rfl
  rw [hz] at this; exact this
 refine ⟨⟨_,he,rfl⟩,h _ he (Heap.get?_push_of_some _ (Heap.get?_push_size _ B.free)) (by rw [Heap.size_push,hz]) fun b o x=>Heap.get?_push_of_some _ (Heap.get?_push_of_some _ x)⟩
end DL
set_option maxRecDepth 100000
set_option maxHeartbeats 4000000
namespace DL
open PySem PySem.Spec PyProof.Rows
open L2 hiding St
/-- what stays as loops go on: what was frozen; a frame's places,if they are asked -/
def Per (B : Tb) (e : Env) (sg : L2.St) (F0 : Hp) (eta0 : List Addr) (b : Bool) (F : Hp) (eta : List Addr) (H : Hp) : Prop:=SubH F0 F ∧ eta0 <+: eta ∧ (b = true → ∃ W,Stt B e W sg H F eta)
structure IterOk (B : Tb) (J : L2.It) (ds : List D) (P : Hp → List Addr → Hp → Prop) : Prop where
 step : ∀ (i : Nat) (d : D) (F : Hp) (eta : List Addr) (W : Wd) (H : Hp),ds[i]? = some d → OkH B F eta W H → P F eta H → J.go i H ∧ ∀ (x : V) (H' : Hp),J.yld i H x H' → ∃ F',OkH B F' eta W H' ∧ Ext F eta H F' eta H' ∧ Rep B F' eta d x
 stop : ∀ (F : Hp) (eta : List Addr) (W : Wd) (H : Hp),OkH B F eta W H → P F eta H → J.stop ds.length H
def ItOk (B : Tb) (X : Cx) (tg py : Expr) (f : Env → Wd → R (List D × Bool)) : Prop := ∃ t : TI,PI X tg py t ∧ ∀ (e : Env) (W : Wd) (sg : L2.St) (H F : Hp) (eta : List Addr) (Q : L2.It → Hp → Prop),Stt B e W sg H F eta →
 (f e W).wp B.xq (fun ds W' => ∀ (J : L2.It) (H' F' : Hp) (eta' : List Addr),OkH B F' eta' W' H' → Ext F eta H F' eta' H' → IterOk B J ds.1 (Per B e sg F' eta' ds.2) → Q J H') → t sg H Q
section
variable {B : Tb} {X : Cx} {tg py pa pb pc : Expr} {pos p : Pos} {fa fb : Env → Wd → R D} {fs fs2 fs3 : Env → Wd → R Src}
variable {e : Env} {sg : L2.St} {F F' H H' : Hp} {eta eta' : List Addr} {W W' : Wd}
/-- a source,now and later -/
theorem zZNB {s : Src} {v : V} {xs : List D} (st : Stt B e W sg H F eta) (r : SrcRep B e sg F eta s v) (hi : items W s = some xs) (h : s.isIt = true) (K : PySem.W.Frag) :
  ∃ (a : Addr) (k : Sk),v = .ref a ∧ ∀ (F' : Hp) (eta' : List Addr) (H' : Hp) (W' : Wd),OkH B F' eta' W' H' → Per B e sg F eta s.isSlot F' eta' H' → ∃ vs,SqK k K H' a vs ∧ RepL B F' eta' xs vs:=by
 cases s with
 | frz ys d =>
  simp [items] at hi
  subst hi
  obtain ⟨r,hd⟩:=r
  rcases hd with rfl | rfl
  ·cases r with
   | lst h r=>exact ⟨_,.l,rfl,fun F' eta' H' W' o p=>⟨_,SqL.of (o.sub _ _ (p.1 _ _ h)),r.mono p.1 p.2.1⟩⟩
  ·cases r with
   | tup h r=>exact ⟨_,.t,rfl,fun F' eta' H' W' o p=>⟨_,((h.mono p.1).mono o.sub).sq,r.mono p.1 p.2.1⟩⟩
 | slot i ys =>
  simp [items] at hi
  subst hi
  obtain ⟨h1,h2⟩:=r
  obtain ⟨a,vs,q1,q2,q3,_,_⟩:=st.sl i _ h1
  rw [q1] at h2
  cases h2
  refine ⟨a,.l,rfl,fun F' eta' H' W' o p => ?_⟩
  obtain ⟨W2,st2⟩:=p.2.2 rfl
  obtain ⟨a',vs',z1,z2,z3,_,_⟩:=st2.sl i _ h1
  rw [q1] at z1
  cases z1
  exact ⟨vs',SqL.of z2,z3⟩
 | _=>cases h
def Jseq (K : PySem.W.Frag) (k : Sk) (a : Addr) : L2.It:=match k with | .l=>Itl K a | .t=>Itt K a
/-- a list or a tuple,walked -/
def iSeqA (K : PySem.W.Frag) (tl : TE) : TI:=fun σ H R=>tl σ H fun x H1 => ∃ (a : Addr) (k : Sk),x = .ref a ∧ (∃ xs,SqK k K H1 a xs) ∧ R (Jseq K k a) H1
theorem zZId {l : Expr} {tl : TE} (hl : PE X l tl) : PI X tg l (iSeqA X.K tl):=by
 refine ⟨fun pins s σ H R I h => ?_⟩
 refine thn (hl.run pins s σ H _ I h) fun v s1 ⟨x,H1,I1,r1,q1⟩ => ?_
 obtain ⟨a,k,e,⟨xs,hq⟩,q⟩:=q1
 subst e
 cases r1
 cases k with
 | l =>
  obtain ⟨its,rv,p,hz⟩:=I1.list hq
  refine wpAny_pyIter_list p.isList ?_
  refine ⟨s1.heap.objs.size,[s1.heap.objs.size],_,_,H1,rfl,I1.kept (t':=s1.toks) fun b o e=>Heap.get?_push_of_some _ e,turn_list a _,⟨_,Heap.get?_push_size _ rfl,rfl,rfl⟩,fun b hb => ?_,q⟩
  have e : b = s1.heap.objs.size:=by simpa using hb
  subst e
  exact I1.fpOk (Nat.le_refl _) (I1.hok.fresh (Nat.le_refl _))
 | t =>
  obtain ⟨its,rv,p,hz⟩:=I1.tuple hq
  refine wpAny_pyIter_tuple (show s1.heap.IsTuple a its.toArray from p) ?_
  refine ⟨s1.heap.objs.size,[s1.heap.objs.size],_,_,H1,rfl,I1.kept (t':=s1.toks) fun b o e=>Heap.get?_push_of_some _ e,turn_tuple a _,⟨_,Heap.get?_push_size _ rfl,rfl,rfl⟩,fun b hb => ?_,q⟩
  have e : b = s1.heap.objs.size:=by simpa using hb
  subst e
  exact I1.fpOk (Nat.le_refl _) (I1.hok.fresh (Nat.le_refl _))
theorem zZHf {K : PySem.W.Frag} {a : Addr} {k : Sk} {xs : List D} {P : Hp → List Addr → Hp → Prop} (h : ∀ (F' : Hp) (eta' : List Addr) (H' : Hp) (W' : Wd),OkH B F' eta' W' H' → P F' eta' H' → ∃ vs,SqK k K H' a vs ∧ RepL B F' eta' xs vs) :
  IterOk B (Jseq K k a) xs P:=by
 constructor
 ·intro i d F eta W H hd o p
  obtain ⟨vs,hq,r⟩:=h F eta H W o p
  obtain ⟨y,hy,ry⟩:=r.get hd
  cases k with
  | l =>
   refine ⟨⟨vs,y,hq,hy⟩,fun x H' ⟨e1,e2⟩ => ?_⟩
   subst e1
   have:=e2 vs hq
   rw [hy] at this
   cases this
   exact ⟨F,o,Ext.refl _ _ _,ry⟩
  | t =>
   refine ⟨⟨vs,y,hq,hy⟩,fun x H' ⟨e1,e2⟩ => ?_⟩
   subst e1
   have:=e2 vs hq
   rw [hy] at this
   cases this
   exact ⟨F,o,Ext.refl _ _ _,ry⟩
 ·intro F eta W H o p
  obtain ⟨vs,hq,r⟩:=h F eta H W o p
  cases k with
  | l=>exact ⟨vs,hq,by rw [r.length]; exact Nat.le_refl _⟩
  | t=>exact ⟨vs,hq,by rw [r.length]; exact Nat.le_refl _⟩
theorem zZKQ {b : Bool} (st : Stt B e W sg H F eta) : Per B e sg F eta b F eta H:=⟨SubH.refl _,List.prefix_refl _,fun _=>⟨W,st⟩⟩
theorem zZKn (ha : SOk B X pa fs) : ItOk B X tg pa (fun e W=>(fs e W).bind fun s W=>if s.isIt then opt ((items W s).map fun xs=>(xs,s.isSlot)) W else .st):=by
 obtain ⟨ta,ha,ka⟩:=ha
 refine ⟨_,zZId ha,fun e W sg H F eta Q s k => ?_⟩
 refine ka e W sg H F eta _ s ?_
 rw [R.wp_bind] at k
 refine R.wp_mono k fun z W1 k v H1 F1 eta1 o1 x1 r1 => ?_
 split at k
 ·rename_i hz
  obtain ⟨q,hq,k⟩:=zZD k
  simp only [Option.map_eq_some_iff] at hq
  obtain ⟨xs,hi,rfl⟩:=hq
  have st1:=s.ext x1 o1
  obtain ⟨a,sk,rfl,h⟩:=zZNB st1 r1 hi hz X.K
  obtain ⟨vs,q1,q2⟩:=h F1 eta1 H1 W1 o1 (zZKQ st1)
  exact ⟨a,sk,rfl,⟨vs,q1⟩,k _ H1 F1 eta1 o1 x1 (zZHf h)⟩
 ·exact k.elim
theorem zZIj {lo : Int} {n i : Nat} {d : D} (h : (rangeD lo n)[i]? = some d) : i < n ∧ d = .int (lo + i):=by
 unfold rangeD at h
 rw [List.getElem?_map] at h
 obtain ⟨k,h1,h2⟩:=Option.map_eq_some_iff.mp h
 have:=List.getElem?_eq_some_iff.mp h1
 obtain ⟨hl,e⟩:=this
 simp at hl e
 subst e
 exact ⟨hl,h2.symm⟩
theorem zZGr (lo : Int) (n : Nat) : (rangeD lo n).length = n:=by simp [rangeD]
theorem zZIs {lo : Int} {n : Nat} {P : Hp → List Addr → Hp → Prop} : IterOk B (Itr lo n) (rangeD lo n) P:=by
 constructor
 ·intro i d F eta W H hd o p
  obtain ⟨h1,rfl⟩:=zZIj hd
  refine ⟨h1,fun x H' ⟨e1,e2⟩ => ?_⟩
  subst e1 e2
  exact ⟨F,o,Ext.refl _ _ _,.int _⟩
 ·intro F eta W H o p
  rw [zZGr]
  exact Nat.le_refl _
theorem zZK4 {i : Int} (h : smallI i = true) : -(2 ^ 62) ≤ i ∧ i < 2 ^ 62:=by
 unfold smallI at h
 simp only [Bool.and_eq_true,decide_eq_true_eq] at h
 omega
theorem zZH3 (hg : Gl X "range") (hm : X.mg "range" = none) (hn : notStar pa = true) (ha : EOk B X pa fa) :
  ItOk B X tg (.Call (.Name "range" p) [pa] [] pos) (fun e W=>(fa e W).bind fun x W=>match x with | .int j=>if smallI j then .ok (rangeD 0 j.toNat,false) W else .st | _=>.st):=by
 obtain ⟨ta,ha,ka⟩:=ha
 refine ⟨_,pi_range1 hg hm (pa_cons ha pa_nil (star1 hn _ _)) (star1 hn _ _),fun e W sg H F eta Q s k => ?_⟩
 refine ka e W sg H F eta _ s ?_
 rw [R.wp_bind] at k
 refine R.wp_mono k fun z W1 k v H1 F1 eta1 o1 x1 r1 => ?_
 cases r1 with
 | int j =>
  simp only [] at k
  split at k
  ·rename_i hs
   obtain ⟨h1,h2⟩:=zZK4 hs
   exact ⟨j,rfl,h1,h2,k _ H1 F1 eta1 o1 x1 zZIs⟩
  ·exact k.elim
 | _=>exact k.elim
theorem zZGV : ∀ {xs : List D} {k i : Nat} {d : D},(enumD k xs)[i]? = some d → ∃ x,xs[i]? = some x ∧ d = .tupz [.int ((k + i : Nat) : Int),x]
 | [],k,i,d,h=>by simp [enumD] at h
 | x :: r,k,0,d,h=>by simp [enumD] at h; exact ⟨x,rfl,by rw [← h]; rfl⟩
 | x :: r,k,i + 1,d,h=>by
  simp only [enumD,List.getElem?_cons_succ] at h
  obtain ⟨y,h1,h2⟩:=zZGV h
  refine ⟨y,by simpa using h1, ?_⟩
  rw [h2]
  have : k + 1 + i = k + (i + 1):=by omega
  rw [this]
theorem zZEi : ∀ (xs : List D) (k : Nat),(enumD k xs).length = xs.length
 | [],k=>rfl
 | x :: r,k=>by simp [enumD,zZEi r]
theorem zZLd {T : Addr} {vs : List V} {ds : List D} (o : OkH B F eta W H) (hT : H T = none) (r : RepL B F eta ds vs) :
  ∃ F',OkH B F' eta W (upd H T (.tup vs)) ∧ Ext F eta H F' eta (upd H T (.tup vs)) ∧ Rep B F' eta (.tupz ds) (.ref T) :=
 ⟨upd F T (.tup vs),o.newF hT,Ext.newFz o hT,.tupz upd_same (r.mono (zZr (o.notF hT)) (List.prefix_refl _))⟩
abbrev ItSrc (B : Tb) (K : PySem.W.Frag) (k : Sk) (a : Addr) (xs : List D) (P : Hp → List Addr → Hp → Prop) : Prop :=
 ∀ (F' : Hp) (eta' : List Addr) (H' : Hp) (W' : Wd),OkH B F' eta' W' H' → P F' eta' H' → ∃ vs,SqK k K H' a vs ∧ RepL B F' eta' xs vs
theorem zZJA {K : PySem.W.Frag} {a : Addr} {k : Sk} {xs : List D} {P : Hp → List Addr → Hp → Prop} (h : ItSrc B K k a xs P) : IterOk B (Je K k a) (enumD 0 xs) P:=by
 constructor
 ·intro i d F eta W H hd o p
  obtain ⟨vs,hq,r⟩:=h F eta H W o p
  obtain ⟨x,hx,rfl⟩:=zZGV hd
  obtain ⟨y,hy,ry⟩:=r.get hx
  refine ⟨⟨vs,y,hq,hy⟩,fun v H' ⟨T,z,e1,e2,e3,e4⟩ => ?_⟩
  subst e1 e3
  have:=e4 vs hq
  rw [hy] at this
  cases this
  rw [Nat.zero_add]
  exact zZLd o e2 (.cons (.int _) (.cons ry .nil))
 ·intro F eta W H o p
  obtain ⟨vs,hq,r⟩:=h F eta H W o p
  exact ⟨vs,hq,by rw [zZEi,r.length]⟩
/-- enumerate(xs) -/
theorem zZKA {elts : List Expr} {kk : Nat} {tpos : Pos} {ta : TA} (hg : Gl X "enumerate") (hm : X.mg "enumerate" = none) (hn : notStar pa = true) (ha : PA X [pa] ta) :
  PI X (.Tuple elts kk tpos) (.Call (.Name "enumerate" p) [pa] [] pos) (fun σ H R=>ta σ H fun vs H1 => ∃ a k xs,vs = [.ref a] ∧ SqK k X.K H1 a xs ∧ R (Je X.K k a) H1):=by
 refine ⟨fun pins s σ H R I h => ?_⟩
 refine Call_ (ld_blt I hg hm boot_enumerate (PyProof.Rows.callWith_type1 (thn (ha.run pos pins s σ H _ I h) fun us s1 ⟨vs,H1,I1,r1,q1⟩ => ?_) (star1 hn _ _) rfl))
 obtain ⟨a,k,xs,ex,hq,q⟩:=q1
 subst ex
 cases r1 with
 | cons r rr =>
  cases rr
  cases r
  obtain ⟨its,rv,p',hlt⟩:=zZHr I1 hq
  refine zZHL (zZJy its.toArray) p' fun h' he hit hsz hk=>wpAny_pyIter_enum he ?_
  have I2 : L2.Inv X pins σ H1 { s1 with heap:=h' }:=I1.kept (t':=s1.toks) hk
  refine ⟨s1.heap.objs.size + 1,[s1.heap.objs.size + 1,s1.heap.objs.size],_,_,H1,rfl,I2,zZNQ (a:=a) (e:=s1.heap.objs.size + 1) (it:=s1.heap.objs.size) (Nat.succ_ne_self _) (Nat.ne_of_gt (Nat.lt_succ_of_lt hlt)) (Nat.ne_of_lt hlt),⟨⟨.none,he⟩,zZIg hit⟩,fun b hb => ?_,q⟩
  have e' : b = s1.heap.objs.size + 1 ∨ b = s1.heap.objs.size:=by simpa using hb
  have hle : s1.heap.objs.size ≤ b:=by rcases e' with z | z <;> rw [z] <;> first | exact Nat.le_add_right _ _ | exact Nat.le_refl _
  exact I1.fpOk hle (I1.hok.fresh hle)
end
end DL
set_option maxRecDepth 100000
set_option maxHeartbeats 4000000
namespace DL
open PySem PySem.Spec PyProof.Rows
open L2 hiding St
theorem zZGW {K : Type} [DecidableEq K] : ∀ (more kvs : List (K × Value)),((kvs ++ more).map (·.1)).Nodup → merged kvs more = kvs ++ more
 | [],kvs,_=>by
  show kvs = _
  simp
 | p :: more,kvs,h=>by
  show merged (stored kvs p.1 p.2) more = _
  have hn : valueAt kvs p.1 = none:=by
   unfold valueAt
   rw [Option.map_eq_none_iff,List.find?_eq_none]
   intro x hx z
   have z:=of_decide_eq_true z
   rw [List.map_append,List.nodup_append] at h
   exact h.2.2 x.1 (List.mem_map_of_mem hx) p.1 (by simp) z
  rw [stored_absent hn,zZGW more _ (by simpa [List.append_assoc] using h),List.append_assoc]
  rfl
section
variable {B : Tb} {X : Cx} {pa pb : Expr} {pos p : Pos} {fa fb : Env → Wd → R D} {fs fs2 : Env → Wd → R Src} {F : Hp} {eta : List Addr}
theorem zZGn : ∀ {kvs : List (D × D)} {gs : List (Key × V)} {k : Key} {d : D},RepK B F eta kvs gs → lookK k kvs = some d → ∃ v,valV gs k = some v ∧ Rep B F eta d v
 | _,_,k,d,.nil,h=>by simp [lookK] at h
 | _,_,k,d,.cons (k:=k2) hk r t,h=>by
  unfold lookK at h
  unfold valV
  rw [List.find?_cons] at h ⊢
  by_cases e : k2 = k
  ·subst e
   simp only [hk,decide_true,Option.map_some,Option.some.injEq] at h ⊢
   subst h
   exact ⟨_,rfl,r⟩
  ·have e2 : ¬ (some k2 = some k):=fun z=>e (Option.some.inj z)
   simp only [hk,e,e2,decide_false] at h ⊢
   exact zZGn t h
def dgetF (fa fb : Env → Wd → R D) : Env → Wd → R D:=fun e W=>(fa e W).bind fun x W=>(fb e W).bind fun y W=>dgetR x y W
theorem zZKg (hu : X.A.units + 64 < cLine) (hx : PlainIx pb) (ha : EOk B X pa fa) (hb : EOk B X pb fb) : EOk B X (.Subscript pa pb pos) (dgetF fa fb):=by
 obtain ⟨ta,ha,ka⟩:=ha
 obtain ⟨tb,hb,kb⟩:=hb
 refine ⟨_,pe_dget (by omega) ha hb hx,fun e W sg H F eta Q s k => ?_⟩
 refine ka e W sg H F eta _ s ?_
 unfold dgetF at k
 rw [R.wp_bind] at k
 refine R.wp_mono k fun x W1 k v H1 F1 eta1 o1 x1 r1 => ?_
 rw [R.wp_bind] at k
 refine kb e W1 sg H1 F1 eta1 _ (s.ext x1 o1) (R.wp_mono k fun y W2 k u H2 F2 eta2 o2 x2 r2 => ?_)
 have y2:=Ext.trans s.ok o1 x1 x2
 unfold dgetR at k
 split at k
 ·obtain ⟨z,q,k⟩:=zZD k
  simp only [Option.bind_eq_some_iff] at q
  obtain ⟨ky,hk,q⟩:=q
  cases r1 with
  | dct h r =>
   obtain ⟨w,hw,rw'⟩:=zZGn (r.mono x2.sub x2.pre) q
   have eu : u = kV ky:=by cases r2 <;> simp [keyD] at hk <;> subst hk <;> rfl
   subst eu
   refine ⟨_,w,rfl, ?_,k w H2 F2 eta2 o2 y2 rw'⟩
   rw [← hw]
   exact DGet.k (o2.sub _ _ (x2.sub _ _ h))
 ·exact k.elim
end
end DL
set_option maxRecDepth 100000
set_option maxHeartbeats 4000000
namespace DL
open PySem PySem.Spec PyProof.Rows
open L2 hiding St
end DL
set_option maxRecDepth 100000
set_option maxHeartbeats 4000000
namespace DL
open PySem PySem.Spec PyProof.Rows
open L2 hiding St
section
variable {B : Tb} {X : Cx} {pa pb : Expr} {pos p : Pos} {fs fs2 : Env → Wd → R Src}
def repF (fs : Env → Wd → R Src) (fb : Env → Wd → R D) : Env → Wd → R (List D):=fun e W=>(fs e W).bind fun s W=>(fb e W).bind fun d W=>repR s d W
theorem RepL.flat {F : Hp} {eta : List Addr} {xs : List D} {vs : List V} (h : RepL B.toTb0 F eta xs vs) : ∀ n : Nat,RepL B.toTb0 F eta (List.replicate n xs).flatten (List.replicate n vs).flatten
 | 0=>.nil
 | n + 1=>by
  rw [List.replicate_succ,List.replicate_succ,List.flatten_cons,List.flatten_cons]
  exact h.append (RepL.flat h n)
theorem zZMq {fs : Env → Wd → R Src} {fb : Env → Wd → R D} (ha : SOk B X pa fs) (hb : EOk B X pb fb) : FOk B X (.BinOp pa .Mult pb pos) (repF fs fb):=by
 obtain ⟨ta,ha,ka⟩:=ha
 obtain ⟨tb,hb,kb⟩:=hb
 refine ⟨_,pe_op op_rep ha hb,fun e W sg H F eta Q s k => ?_⟩
 unfold repF at k
 refine ka e W sg H F eta _ s ?_
 rw [R.wp_bind] at k
 refine R.wp_mono k fun z1 W1 k v H1 F1 eta1 o1 x1 r1 => ?_
 rw [R.wp_bind] at k
 refine kb e W1 sg H1 F1 eta1 _ (s.ext x1 o1) (R.wp_mono k fun d W2 k u H2 F2 eta2 o2 x2 r2 => ?_)
 have y2:=Ext.trans s.ok o1 x1 x2
 have st2:=s.ext y2 o2
 unfold repR at k
 split at k
 ·rename_i n
  split at k
  ·exact k.elim
  ·rename_i hc
   simp only [Bool.or_eq_true,not_or,Bool.not_eq_true] at hc
   rw [R.wp_bind] at k
   obtain ⟨xs,hi,k⟩:=zZD k
   split at k
   ·rename_i hl
    obtain ⟨a,vs,rfl,rl,g1⟩:=(r1.ext x2).lst st2 hi hc.1 hc.2
    cases r2
    have hcap : n.toNat < 2 ^ 62:=Nat.lt_of_le_of_lt hl.2.1 (by decide)
    refine ⟨a,n,vs,rfl,rfl,g1,by omega,by omega,by rw [← rl.length]; exact Nat.le_trans hl.2.2 zZb,fun p hp => ?_⟩
    exact k p _ _ F2 eta2 (o2.new hp) (Ext.trans s.ok o2 y2 (Ext.new hp)) (y2.there s.ok o2 hp) upd_same (o2.notF hp) (o2.notE hp) (RepL.flat rl _)
   ·exact k.elim
 ·exact k.elim
end
end DL
set_option maxRecDepth 100000
set_option maxHeartbeats 4000000
namespace DL
open PySem PySem.Spec PyProof.Rows
open L2 hiding St
/-- the promise: the exception bears a dict with the one field -/
def spX (C : Addr) (fl : Str) : Sp:=fun vs H Q _ => ∃ (a : Addr) (v : V) (H1 : Hp),vs = [.ref a,v] ∧ H = upd H1 a (exo a C none) ∧ H1 a = none ∧ ∀ d,H1 d = none → d ≠ a → Q .non (upd (upd (upd H1 a (exo a C none)) d (exd d [(fl,v)])) a (exo a C (some d)))
def supBody (p0 p1 p2 p3 p4 p5 p6 p7 p8 p9 : Pos) (j : Nat) (m fl vn : Str) : List Stmt :=
 [.Expr (.Call (.Attribute (.Call (.Name "super" p0) [] [] p1) "__init__" p2) [.Constant (.str m) j p3] [] p4) p5,.Assign [.Attribute (.Name "self" p6) fl p7] (.Name vn p8) p9]
def cxS (CX : CXT) (P : Program) (w : World) (K : PySem.W.Frag) (mg : Str → Option Value) (base : Heap) (N : List Str) (env : PySem.Env) (A : Around) (outer : List PySem.Env) (s : Shared) (H : Hp) (E : XK) : Cx where
 prog:=P
 w:=w
 K:=K
 mg:=mg
 base:=base
 A:=A.deeper env
 N:=N
 s_0:=s
 H_0:=H
 env:=env
 outer:=outer
 stack:=env :: outer
 ex:=[]
 calm:=true
 fn:=fun _=>false
 pn:=[]
 xe:=fun e s'=>wpAny (model P w) (A.deeper env) (leaving env e) (fun _ s''=>CX outer H s E e s'') (fun e' s''=>CX outer H s E e' s'') s'
theorem lk1 {cc c : Addr} {x : Str} (h : List.lookup x [(("__class__" : Str),cc)] = some c) : x = "__class__" ∧ c = cc:=by
 rw [List.lookup_cons] at h
 cases e : x == ("__class__" : Str) with
 | true=>rw [e] at h; cases h; exact ⟨eq_of_beq e,rfl⟩
 | false=>rw [e] at h; cases h
section
variable {P : Program} {w : World} {K : PySem.W.Frag} {mg : Str → Option Value} {base : Heap} {CX : CXT} {C f cc cda : Addr} {name qual vn fl m file : Str} {params : Arguments} {scope : Scope} {dV kV doc pm ct oc ccl cl : Value} {an od cdd cld : Option Addr} {osl ccs csl : Array (Option Value)} {p0 p1 p2 p3 p4 p5 p6 p7 p8 p9 : Pos} {j : Nat} {ar : Arg} {vs0 : Array Value} {tf : Tok}
theorem zZKj {o e : Expr} {m : Str} {apos pos : Pos} {env : PySem.Env} (hl : (apos.endLine == pos.line) = true) (hn : notStar e = true) :
  eval (.Call (.Attribute o m apos) [e] [] pos) env = (do
   let ov ← attributeBase o m env (eval o env)
   standAt apos.atName
   let (f,first) ← holding [ov] (getMethod ov m (do return (← importBound o env).getD true))
   callWith pos f first (backTo pos (starEach [e] env)) []):=by
 have hform : methodCallForm ([e].length + ([] : List Keyword).length) (backTo pos (starEach [e] env)) (backToKw pos (keywordEach [] env)) = true:=by
  unfold methodCallForm
  have h1 : (backTo pos (starEach [e] env)).all (fun x => !x.1) = true:=by
   have:=zZA4 (es:=[e]) env pos (by simp [hn])
   simpa [List.all_eq_not_any_not] using this
  have h2 : (backToKw pos (keywordEach [] env)) = []:=rfl
  rw [h1,h2]
  simp
 have hpos : methodCallPos true o env apos pos = pure pos:=by
  unfold methodCallPos
  rw [hl]
  rfl
 rw [arm_eval_Call]
 unfold methodCall
 rw [hform,hpos]
 rfl
theorem zZKJ (hline : (p2.endLine == p4.line) = true)
  (lk : K.lookup f = some ⟨oc,od,.func (PySem.W.ksFn name qual params (supBody p0 p1 p2 p3 p4 p5 p6 p7 p8 p9 j m fl vn) scope dV kV doc pm an (.ref cda) ct cc),osl⟩)
  (hcd : PySem.W.codeIn K (.ref cda) qual = true) (hk : scope.kind = .function) (hco : scope.isCoroutine = false) (hgen : scope.isGenerator = false)
  (hks : scope.names.lookup ("super" : Str) = some .globalImplicit) (hkc : scope.names.lookup ("__class__" : Str) = some .free) (hself : scope.names.lookup ("self" : Str) = some .local) (hv : scope.names.lookup vn = some .local)
  (hnc : ∀ x ∈ scope.names,x.2 ≠ .cell) (hfree : ∀ y ∈ scope.names,y.2 = .free → y.1 = "__class__") (hne : (("self" : Str) == vn) = false) (hvd : (vn == ("__debug__" : Str)) = false) (hvc : (vn == ("__classdict__" : Str)) = false)
  (hp : (params.posonlyargs ++ params.args).head? = some ar) (har : ar.arg = "self")
  (hcode : K.lookup cda = some ⟨ccl,cdd,.fields vs0,ccs⟩) (hvs : vs0[2]? = some (.str file tf)) (hfile : ((P.main.file : Str) == file) = true)
  (hcell : K.lookup cc = some ⟨cl,cld,.cell (some (.ref C)),csl⟩) (hsub : PySem.W.mroIn K C (.ref C) = some true) (hsup : mg "super" = none) (htop : (P.main.scope.names.lookup ("super" : Str)).isSome = false)
  (hst : PySem.W.nsIn K cStatics "thirdparty.any" = some none) (hm : PySem.W.ks_superIn K C C "__init__" = some (some (.builtin "ValueError.__init__"))) (hB : PySem.W.subIn K (.ref C) (.type "ValueError") = some true)
  (T : OexC K C) (hno : PySem.W.findIn K (.ref C) fl = some none) :
  FnOk P w K mg base CX 0 f (PySem.W.ksFn name qual params (supBody p0 p1 p2 p3 p4 p5 p6 p7 p8 p9 j m fl vn) scope dV kV doc pm an (.ref cda) ct cc) ["self",vn] (spX C fl):=by
 refine ⟨fun vs H Q E h=>by obtain ⟨a,v,H1,rfl,_⟩:=h; rfl,fun A outer s H args us vs Q E hr e0 hb r hsp => ?_⟩
 obtain ⟨a,v,H1,rfl,rfl,ha,hq⟩:=hsp
 obtain ⟨u0,u1,rfl,r0,r1⟩ : ∃ u0 u1,us = [u0,u1] ∧ RelV (.ref a) u0 ∧ RelV v u1:=by
  cases r with
  | cons p q =>
   cases q with
   | cons p' q'=>cases q'; exact ⟨_,_,rfl,p,p'⟩
 obtain rfl : u0 = Value.ref a:=r0
 have KX : K.In s.heap:=e0.mod.kin.keeps fun b o e=>(e0.bs b o e).1
 have lim : s.heap.NoLimit:=e0.mod.nolimit.keeps fun b o e=>(e0.bs b o e).1
 refine ks_codeAny_call_defAt (body:=supBody p0 p1 p2 p3 p4 p5 p6 p7 p8 p9 j m fl vn) (binds:=[("self" : Str),vn].zip [Value.ref a,u1]) hr.depth (KX _ _ lk) rfl lim (PySem.W.codeRec_of KX hcd) rfl hb hnc (fun y hy => ?_) (fun h0 hns hk0 => ?_) hco hgen hk
 ·simp only [List.zip_cons_cons,List.zip_nil_right,List.mem_cons,List.not_mem_nil,or_false] at hy
  rcases hy with rfl | rfl
  ·exact hself
  ·exact hv
 ·let env:=PySem.W.ksEnv qual scope s.heap.objs.size f (.ref cda) cc
  let X : Cx:=cxS CX P w K mg base ["self",vn] env A outer s (upd H1 a (exo a C none)) E
  have noA : ∀ b : Addr,b ∉ X.ex:=fun b z=>absurd (show b ∈ ([] : List Addr) from z) (by simp)
  have I : Inv X [] [some (V.ref a),some v] (upd H1 a (exo a C none)) { s with heap:=h0,toks:=s.toks + 2 }:=by
   refine ⟨⟨e0.mod,hk,rfl,rfl,Nat.le_refl _,fun y z c h1 h2 => ?_,fun y hy => ?_,fun y c h=>(Bool.noConfusion (show false = true from h)),fun _=>hr.hd,Around.frames_deeper e0.frames,.inr ⟨rfl,rfl⟩,fun b z=>absurd z (noA b),e0.bs,e0.bsz,fun b _ _=>noA b,fun b z=>absurd z (noA b),e0.funs,e0.frf⟩,
    rfl,e0.bare,Un.kept hk0,⟨_,hns,fun i y v' h1 h2 h3 => ?_⟩,fun y c h => ?_,e0.hok.fresh (Nat.le_refl _),fun y c h => ?_,fun p hp=>absurd (show p ∈ ([] : List (Addr × Obj)) from hp) (by simp),e0.hok.kept hk0,rfl⟩
   ·rw [(lk1 h1).1,(lk1 h2).1]
   ·rcases hy with hy | hy
    ·exact absurd rfl (hnc _ (PySem.mem_of_lookup hy))
    ·have:=hfree _ (PySem.mem_of_lookup hy) rfl
     dsimp only at this
     subst this
     exact ⟨cc,rfl⟩
   ·match i,h1,h2 with
    | 0,h1,h2 =>
     cases h1
     cases h2
     refine ⟨.ref a,rfl,.inl ⟨hself, ?_⟩⟩
     show List.lookup _ [(vn,u1),(("self" : Str),Value.ref a)] = _
     rw [List.lookup_cons,hne]
     rfl
    | 1,h1,h2 =>
     cases h1
     cases h2
     refine ⟨u1,r1,.inl ⟨hv, ?_⟩⟩
     show List.lookup _ [(vn,u1),(("self" : Str),Value.ref a)] = _
     simp
   ·obtain ⟨_,rfl⟩:=lk1 h
    exact ⟨_,_,hk0 _ _ (KX _ _ hcell),rfl⟩
   ·obtain ⟨_,rfl⟩:=lk1 h
    exact (e0.bs _ _ (e0.mod.kin _ _ hcell)).2
  obtain ⟨nm,q,N,bs,bm,sn,sub,ab,col,dd,k0,k1,k2,k3,k5,hC,hbm⟩:=T.cls
  obtain ⟨mb,b1,b2⟩:=e0.mod.blt
  have KX1 : K.In h0:=I.kIn
  obtain ⟨t1,ho⟩:=exo_at (e:=a) I.hok upd_same
  unfold supBody
  refine ks_wpAt_execs_cons (ks_wpAt_Expr_any (ks_wpAt_MethodCall (ks_wpAt_super_base (env:=env) hks hkc rfl rfl (hk0 _ _ (KX _ _ lk)) rfl hp rfl (hk0 _ _ (KX _ _ hcode)) rfl hvs hfile htop ?_) (zZKj hline rfl)) I.quiet)
  refine PySem.W.ks_loadName_global hk hks (PySem.Calls.loadGlobal_builtin (env:=env) (I.mod.glob.keeps I.bk) hsup (b1.keeps I.bk) ((b2 "super" (by decide)).trans rfl) ⟨rfl, ?_⟩)
  refine wpAny_loadName_free hk hkc rfl ⟨_,hk0 _ _ (KX _ _ hcell),rfl⟩ ?_
  rw [har]
  refine wpAny_loadName_local (v:=.ref a) hk hself hns ?_ ?_
  ·show List.lookup _ [(vn,u1),(("self" : Str),Value.ref a)] = _
   rw [List.lookup_cons,hne]
   rfl
  refine ks_wpAny_isType_cls (KX1 _ _ hC) rfl ⟨rfl, ?_⟩
  refine ks_wpAny_call_super (KX1 _ _ hC) rfl ho rfl (fun c e=>by cases e) (PySem.W.looks_mroIn KX1 hsub) (fun h2 e2 k2 => ?_)
  have I2 : Inv X [] [some (V.ref a),some v] (upd H1 a (exo a C none)) { s with heap:=h2,toks:=s.toks + 2 }:=I.kept k2
  have KX2 : K.In h2:=I2.kIn
  have ho2:=k2 _ _ ho
  have J : PySem.W.InstAt h2 a _ C none:=⟨ho2,rfl,rfl,trivial⟩
  cases hc : PySem.W.clsIn K C with
  | none =>
   unfold PySem.W.ks_superIn at hm
   rw [hc] at hm
   cases hm
  | some cd =>
   have hm' : PySem.W.alongIn K "__init__" ((cd.mro.dropWhile (· != .ref C)).drop 1) = some (some (.builtin "ValueError.__init__")):=by
    unfold PySem.W.ks_superIn at hm
    rw [hc] at hm
    exact hm
   refine PySem.W.kxs_getMethod PySem.W.kxs_ValueError e2 (PySem.W.looks_opaque KX2 hst) (l₀:=cd.mro) (fun A Q E s k q=>wpAny_bind ((PySem.W.looks_clsIn KX2 hc) A _ E s k (wpAny_pure q))) rfl KX2 hm' (J.type.andThen (PySem.W.looks_subIn KX2 hB)) (PySem.W.ks_ne KX2 J hc) rfl ?_
   have I3 : Inv X [] [some (V.ref a),some v] (upd H1 a (exo a C none)) { s with heap:=h2.push (PySem.W.kxs_mw "ValueError.__init__" a),toks:=s.toks + 2 + 1 }:=I2.kept (fun b o e=>Heap.get?_push_of_some _ e)
   have hu : (h2.push (PySem.W.kxs_mw "ValueError.__init__" a)).get? h2.objs.size = some (PySem.W.kxs_mw "ValueError.__init__" a):=Heap.get?_push_at rfl rfl
   have I4 : Inv X [(h2.objs.size,PySem.W.kxs_mw "ValueError.__init__" a)] [some (V.ref a),some v] (upd H1 a (exo a C none)) { s with heap:=h2.push (PySem.W.kxs_mw "ValueError.__init__" a),toks:=s.toks + 2 + 1 }:=by
    refine I3.pins_of fun p hp => ?_
    rw [List.mem_singleton.mp hp]
    exact ⟨hu,I2.hok.fresh (Nat.le_refl _),Nat.ne_of_gt I2.lt,I2.nofs (Nat.le_refl _),fun v z=>nomatch z⟩
   refine PySem.W.kxs_callWith (i := "ValueError.__init__") (x:=a) rfl (PySem.Calls.evalArgs_plain ?_)
   refine thn ((pa_cons (X:=X) (pe_str (x:=m) (j:=j) (pos:=p3)) pa_nil).run p4 _ _ _ _ (fun vs H'=>vs = [V.str m] ∧ H' = upd H1 a (exo a C none)) I4 ⟨rfl,rfl⟩) fun us s5 ⟨vs5,H5,I5,r5,q5,q6⟩ => ?_
   subst q5 q6
   obtain ⟨hu5,_⟩:=I5.pin _ (List.mem_append_right _ List.mem_cons_self)
   refine ⟨hu5, ?_⟩
   have hz : us.length ≤ sizeLine:=by
    rw [← Paired.length r5]
    show 1 ≤ sizeLine
    decide
   obtain ⟨t5,ho5⟩:=exo_at (e:=a) I5.hok upd_same
   have hC5:=I5.kIn _ _ hC
   have fin : ∀ s6 : Shared,Inv X [] [some (V.ref a),some v] (upd H1 a (exo a C none)) s6 → _root_.PySem.wpAt (model P w) (A.deeper env) (.func (supBody p0 p1 p2 p3 p4 p5 p6 p7 p8 p9 j m fl vn) env) (execs [.Assign [.Attribute (.Name "self" p6) fl p7] (.Name vn p8) p9] env) (fun fl s'=>CR CX outer P w (upd H1 a (exo a C none)) s Q E (.ok (.ret (match fl with | .ret v=>v | _=>.none))) s') X.xe s6:=by
    intro s6 I6
    have hps:=pss_cons (X:=X) (ps_ost (o:=.Name "self" p6) (e:=.Name vn p8) (f:=fl) (p':=p7) (pos:=p9) (pe_var (i:=0) rfl (.inl hself) (by decide) (by decide)) (pe_var (i:=1) rfl (.inl hv) hvd hvc)) pss_nil
    refine wpAt_of_wpAny (wpAny_mono (hps.run [] s6 _ _ { nx:=fun _ H'=>Q .non H',rt:=Q } I6 ?_) (fun fl s' hs => ?_) fun e s' hs=>hs)
    ·refine ⟨v,rfl,.ref a,rfl,a,C,rfl,T,hno,.inl ⟨upd_same,fun dx hdx hne2 => ?_⟩⟩
     exact hq dx (by rw [upd_ne hne2] at hdx; exact hdx) hne2
    ·cases fl with
     | ret u =>
      obtain ⟨v',σ',H',K1,rv,q⟩:=hs
      exact ⟨v',H',K1.os,K1.bare,K1.base,K1.hok,rv,q⟩
     | next =>
      obtain ⟨σ',H',K1,q⟩:=hs
      exact ⟨.non,H',K1.os,K1.bare,K1.base,K1.hok,rfl,q⟩
     | brk =>
      obtain ⟨_,_,_,q⟩:=hs
      exact False.elim q
     | cont =>
      obtain ⟨_,_,_,q⟩:=hs
      exact False.elim q
   have I6 : Inv X [] [some (V.ref a),some v] (upd H1 a (exo a C none)) s5:=I5.pins_of fun p hp=>absurd hp (by simp)
   refine wpAny_mono (Q:=fun _ s6=>Inv X [] [some (V.ref a),some v] (upd H1 a (exo a C none)) s6) ?_ (fun r s6 I6=>fin s6 I6) fun _ _ z=>z
   obtain ⟨hp5,g5,d5,tk5,os5⟩:=s5
   refine wpAny_call (codeAny_of_tree ?_)
   show wpAny _ _ (callAny (.ref h2.objs.size) ⟨us,[]⟩) _ _ _
   simp only [callAny]
   refine wpAny_bind (wpAny_load hu5 ?_)
   simp only [PySem.W.kxs_mw,show (Value.type "method-wrapper" == Value.type "method" || Value.type "method-wrapper" == Value.type "builtin_function_or_method" || Value.type "method-wrapper" == Value.type "method-wrapper") = true by decide,if_true]
   refine PySem.W.KFB.if_so (by decide) ?_
   refine wpAny_bind (PySem.W.check_bound_init F.excBase_ValueError.toExcCallFacts hC5 ho5 rfl ?_)
   refine wpAny_bind (wpAny_pure (wpAny_pure ?_))
   refine ⟨plainId_quiet F.excBase_ValueError.init.plain _,codeAny_builtin F.excBase_ValueError.initEntry ?_⟩
   refine PySem.W.exc_init_tree (cls:=.ref C) (t0:=t5) (dv:=none) (c2:=.none) (c3:=.none) (b4:=.bool false) ho5 hz fun h6 k6 e6 e7 => ?_
   have J6:=I6.write (t':=tk5) (x:=a) (e:=a) (o:=exo a C none) (by rw [upd_same]; exact True.intro) (.inl rfl) k6 ⟨_,e6⟩ (exo_ok e6)
   have eu : upd (upd H1 a (exo a C none)) a (exo a C none) = upd H1 a (exo a C none):=by
    funext b
    by_cases hb : b = a
    ·rw [hb,upd_same,upd_same]
    ·rw [upd_ne hb]
   rw [eu] at J6
   exact J6
end
end DL
set_option maxRecDepth 100000
set_option maxHeartbeats 4000000
namespace DL
open PySem PySem.Spec PyProof.Rows
open L2 hiding St
section
variable {B : Tb} {X : Cx} {tg py pa pb pc : Expr} {pos p : Pos} {fa fb : Env → Wd → R D} {fs fs2 fs3 : Env → Wd → R Src}
variable {e e' : Env} {sg sg' : L2.St} {F F' H H' : Hp} {eta eta' : List Addr} {W W' : Wd}
def canE (B : Tb) (f : Env → Wd → R D) : TE:=fun sg H Q => ∃ (e : Env) (W : Wd) (F : Hp) (eta : List Addr),Stt B e W sg H F eta ∧
 (f e W).wp B.xq (fun d W' => ∀ (v : V) (H' F' : Hp) (eta' : List Addr),OkH B F' eta' W' H' → Ext F eta H F' eta' H' → Rep B F' eta' d v → Q v H')
def canT (B : Tb) (f : Env → Wd → R Bool) : TT:=fun sg H Q => ∃ (e : Env) (W : Wd) (F : Hp) (eta : List Addr),Stt B e W sg H F eta ∧
 (f e W).wp B.xq (fun k W' => ∀ (H' F' : Hp) (eta' : List Addr),OkH B F' eta' W' H' → Ext F eta H F' eta' H' → Q k H')
theorem EOk.can (h : EOk B X py fa) : PE X py (canE B fa):=by
 obtain ⟨t,h,k⟩:=h
 exact ⟨fun pins s σ H Q I ⟨e,W,F,eta,st,q⟩=>h.run pins s σ H Q I (k e W σ H F eta Q st q)⟩
/-- a clause's tests -/
def QOk (B : Tb) (X : Cx) (ifs : List Expr) (f : Env → Wd → R Bool) : Prop:=PTs X ifs (canT B f)
theorem zZL5 : QOk B X [] (fun _ W=>.ok true W):=⟨fun pins s σ H Q I ⟨e,W,F,eta,st,q⟩=>(pts_nil (X:=X)).run pins s σ H Q I (q H F eta st.ok (Ext.refl _ _ _))⟩
theorem zZLm {f : Env → Wd → R Bool} (h : TOk B X pa f) : QOk B X [pa] f:=by
 obtain ⟨t,h,k⟩:=h
 exact ⟨fun pins s σ H Q I ⟨e,W,F,eta,st,q⟩=>(pts_one h).run pins s σ H Q I (k e W σ H F eta Q st q)⟩
theorem Stt.set (st : Stt B e W sg H F eta) {i : Nat} {d : D} {v : V} (hi : i < e.length) (hx : i ∉ B.xk) (r : Rep B F eta d v) : Stt B (e.set i (.val d)) W (sg.set i (some v)) H F eta:=by
 refine ⟨st.ok,by simp [st.len],fun j z h => ?_,fun j k sj sk a h1 h2 o1 o2 g1 g2 => ?_,fun j hj => ?_,by rw [List.length_set]; exact st.xl,st.xx⟩
 ·by_cases hj : i = j
  ·subst hj
   rw [List.getElem?_set_self hi] at h
   cases h
   exact ⟨v,List.getElem?_set_self (by rw [← st.len]; exact hi),r⟩
  ·rw [List.getElem?_set_ne hj] at h
   have q:=st.sl j z h
   cases z with
   | no=>trivial
   | val d=>obtain ⟨u,h1,h2⟩:=q; exact ⟨u,by rw [List.getElem?_set_ne hj]; exact h1,h2⟩
   | ol xs=>obtain ⟨a,vs,h1,h2⟩:=q; exact ⟨a,vs,by rw [List.getElem?_set_ne hj]; exact h1,h2⟩
   | oi c fs=>obtain ⟨a,dx,gs,h1,h2⟩:=q; exact ⟨a,dx,gs,by rw [List.getElem?_set_ne hj]; exact h1,h2⟩
   | od kvs=>obtain ⟨a,xs,ep,h1,h2⟩:=q; exact ⟨a,xs,ep,by rw [List.getElem?_set_ne hj]; exact h1,h2⟩
   | xv c p=>obtain ⟨h1,h2⟩:=q; exact ⟨by rw [List.getElem?_set_ne hj]; exact h1,h2⟩
 ·have hj : i ≠ j:=fun z=>by
   subst z
   rw [List.getElem?_set_self hi] at h1
   cases h1
   cases o1
  have hk : i ≠ k:=fun z=>by
   subst z
   rw [List.getElem?_set_self hi] at h2
   cases h2
   cases o2
  rw [List.getElem?_set_ne hj] at h1 g1
  rw [List.getElem?_set_ne hk] at h2 g2
  exact st.un j k sj sk a h1 h2 o1 o2 g1 g2
 ·rw [List.getElem?_set_ne (fun z=>hx (by rw [z]; exact hj))]
  exact st.xr j hj
def GOk (B : Tb) (X : Cx) (tg : Expr) (f : D → Env → Option Env) (ns : List Nat) : Prop:=(∀ i ∈ ns,i ∉ B.xk) ∧ ∃ t : TG,PG X tg t ∧ ∀ (d : D) (v : V) (e e' : Env) (W : Wd) (sg : L2.St) (H F : Hp) (eta : List Addr) (Q : L2.St → Hp → Prop),Stt B e W sg H F eta → Rep B F eta d v → f d e = some e' →
 (∀ sg',Stt B e' W sg' H F eta → (∀ vs : List Nat,(∀ i ∈ ns,i ∈ vs) → wipe sg' vs = wipe sg vs) → Q sg' H) → t v sg H Q
def GsOk (B : Tb) (X : Cx) (tg : List Expr) (f : List D → Env → Option Env) (ns : List Nat) : Prop:=(∀ i ∈ ns,i ∉ B.xk) ∧ ∃ t : TGs,PGs X tg t ∧ ∀ (d : List D) (v : List V) (e e' : Env) (W : Wd) (sg : L2.St) (H F : Hp) (eta : List Addr) (Q : L2.St → Hp → Prop),Stt B e W sg H F eta → RepL B F eta d v → f d e = some e' →
 (∀ sg',Stt B e' W sg' H F eta → (∀ vs : List Nat,(∀ i ∈ ns,i ∈ vs) → wipe sg' vs = wipe sg vs) → Q sg' H) → t v sg H Q
theorem zZFA {i : Nat} {x : Option V} : ∀ {vs : List Nat} (sg : L2.St),i ∈ vs → wipe (sg.set i x) vs = wipe sg vs
 | [],_,h=>by simp at h
 | v :: vs,sg,h=>by
  unfold wipe
  by_cases hv : v = i
  ·subst hv
   by_cases hm : v ∈ vs
   ·rw [zZFA sg hm]
   ·have : ∀ (ws : List Nat) ,v ∉ ws → wipe (sg.set v x) ws = (wipe sg ws).set v x:=by
     intro ws
     induction ws with
     | nil=>intro _; rfl
     | cons w ws ih =>
      intro hw
      simp only [List.mem_cons,not_or] at hw
      unfold wipe
      rw [ih hw.2,List.set_comm _ _ hw.1]
    rw [this vs hm,List.set_set]
  ·have hm : i ∈ vs:=by
    rcases List.mem_cons.mp h with z | z
    ·exact absurd z.symm hv
    ·exact z
   rw [zZFA sg hm]
theorem zZNT {i : Nat} {x : Str} (hxk : i ∉ B.xk) (hN : X.N.Nodup) (hi : X.N[i]? = some x) (hx : L2.Loc X.env.scope x) (hf : X.fn x = true ∨ X.env.scope.names.lookup x = some .local) :
  GOk B X (.Name x pos) (fun d e=>if i < e.length then some (e.set i (.val d)) else none) [i]:=by
 refine ⟨fun j hj=>by rw [List.mem_singleton.mp hj]; exact hxk,_,pg_name hN hi hx hf,fun d v e e' W sg H F eta Q st r h k => ?_⟩
 dsimp only at h
 split at h
 ·rename_i hl
  cases h
  exact k _ (st.set hl hxk r) fun vs hv=>zZFA sg (hv i (by simp))
 ·cases h
theorem zZLC : GsOk B X [] (fun ds e=>match ds with | []=>some e | _=>none) []:=by
 refine ⟨(fun _ h=>by cases h),_,pgs_nil,fun d v e e' W sg H F eta Q st r h k => ?_⟩
 cases r with
 | nil=>cases h; exact ⟨rfl,k _ st fun _ _=>rfl⟩
 | cons _ _=>cases h
theorem zZJs {tgs : List Expr} {f : D → Env → Option Env} {fs : List D → Env → Option Env} {n1 n2 : List Nat} (hn : notStar tg = true) (h1 : GOk B X tg f n1) (h2 : GsOk B X tgs fs n2) :
  GsOk B X (tg :: tgs) (fun ds e=>match ds with | x :: xs=>(f x e).bind fun e=>fs xs e | []=>none) (n1 ++ n2):=by
 obtain ⟨w1,t,h1,k1⟩:=h1
 obtain ⟨w2,u,h2,k2⟩:=h2
 have hs : (assignEach (tg :: tgs) X.env).map (·.2) = assign tg X.env :: (assignEach tgs X.env).map (·.2):=by
  cases tg <;> first | rfl | cases hn
 refine ⟨fun i hi=>(List.mem_append.mp hi).elim (w1 i) (w2 i),_,pgs_cons h1 h2 hs,fun d v e e' W sg H F eta Q st r h k => ?_⟩
 cases r with
 | nil=>cases h
 | cons r rr =>
  simp only [Option.bind_eq_some_iff] at h
  obtain ⟨e1,q1,q2⟩:=h
  refine ⟨_,_,rfl, ?_⟩
  refine k1 _ _ e e1 W sg H F eta _ st r q1 fun sg1 st1 w1 => ?_
  refine k2 _ _ e1 e' W sg1 H F eta _ st1 rr q2 fun sg2 st2 w2=>k _ st2 fun vs hv => ?_
  rw [w2 vs fun i hi=>hv i (List.mem_append_right _ hi),w1 vs fun i hi=>hv i (List.mem_append_left _ hi)]
theorem zZCb : ∀ {ts : List Expr} (env : PySem.Env),ts.all notStar = true → (assignEach ts env).length = ts.length ∧ (assignEach ts env).findIdx? (·.1) = none
 | [],_,_=>⟨rfl,rfl⟩
 | t :: ts,env,h=>by
  simp only [List.all_cons,Bool.and_eq_true] at h
  obtain ⟨h1,h2⟩:=zZCb env h.2
  have e : assignEach (t :: ts) env = (false,assign t env) :: assignEach ts env:=by
   have hn:=h.1
   cases t <;> first | rfl | cases hn
  rw [e]
  refine ⟨by simp [h1], ?_⟩
  rw [List.findIdx?_cons]
  simp [h2]
theorem zZMG {tgs : List Expr} {k : Nat} {fs : List D → Env → Option Env} {ns : List Nat} (hc : X.calm = true) (hl : ∀ ds e e',fs ds e = some e' → ds.length = tgs.length) (hn : tgs.all notStar = true) (h : GsOk B X tgs fs ns) :
  GOk B X (.Tuple tgs k pos) (fun d e=>match d with | .tup xs=>fs xs e | .tupz xs=>fs xs e | _=>none) ns:=by
 obtain ⟨w,t,h,kt⟩:=h
 obtain ⟨a1,a2⟩:=zZCb X.env hn
 refine ⟨w,_,pg_tup (n:=tgs.length) hc h a1 a2,fun d v e e' W sg H F eta Q st r q k => ?_⟩
 cases r with
 | tupz hh rr=>exact ⟨_,_,rfl,SqT.of (st.ok.sub _ _ hh),by rw [← rr.length]; exact hl _ _ _ q,kt _ _ e e' W sg H F eta Q st rr q k⟩
 | tup hh rr=>exact ⟨_,_,rfl,(hh.mono st.ok.sub).sq,by rw [← rr.length]; exact hl _ _ _ q,kt _ _ e e' W sg H F eta Q st rr q k⟩
 | _=>cases q
def canG (B : Tb) (f : D → Env → Option Env) (ns : List Nat) : TG:=fun v sg H Q => ∃ (d : D) (e e' : Env) (W : Wd) (F : Hp) (eta : List Addr),Stt B e W sg H F eta ∧ Rep B F eta d v ∧ f d e = some e' ∧
 ∀ sg',Stt B e' W sg' H F eta → (∀ vs : List Nat,(∀ i ∈ ns,i ∈ vs) → wipe sg' vs = wipe sg vs) → Q sg' H
theorem GOk.can {f : D → Env → Option Env} {ns : List Nat} (h : GOk B X tg f ns) : PG X tg (canG B f ns):=by
 obtain ⟨_,t,h,k⟩:=h
 exact ⟨fun pins s σ H v u Q I r ⟨d,e,e',W,F,eta,st,rd,q,kk⟩=>h.run pins s σ H v u Q I r (k d v e e' W σ H F eta Q st rd q kk)⟩
theorem zZAh {vs : List Nat} : ∀ {sg : L2.St} {i : Nat} ,i ∉ vs → (wipe sg vs)[i]? = sg[i]? := by
 induction vs with
 | nil=>intro sg i _; rfl
 | cons v vs ih =>
  intro sg i h
  simp only [List.mem_cons,not_or] at h
  unfold wipe
  rw [List.getElem?_set_ne (fun z=>h.1 z.symm),ih h.2]
theorem zZEs {vs : List Nat} : ∀ {e : Env} {i : Nat} {z : Slot},(wipeE e vs)[i]? = some z → z = .no ∨ (e[i]? = some z ∧ i ∉ vs):=by
 induction vs with
 | nil=>intro e i z h; exact .inr ⟨h,by simp⟩
 | cons v vs ih =>
  intro e i z h
  unfold wipeE at h
  by_cases hv : v = i
  ·subst hv
   by_cases hl : v < (wipeE e vs).length
   ·rw [List.getElem?_set_self hl] at h; cases h; exact .inl rfl
   ·rw [List.getElem?_eq_none (by simpa using hl)] at h; cases h
  ·rw [List.getElem?_set_ne hv] at h
   rcases ih h with q | ⟨q,hn⟩
   ·exact .inl q
   ·exact .inr ⟨q,by simp [hn]; exact fun z=>hv z.symm⟩
theorem zZEl (e : Env) : ∀ vs : List Nat,(wipeE e vs).length = e.length
 | []=>rfl
 | v :: vs=>by unfold wipeE; rw [List.length_set,zZEl e vs]
theorem Stt.wipe (st : Stt B e W sg H F eta) (vs : List Nat) (hx : ∀ i ∈ vs,i ∉ B.xk) : Stt B (wipeE e vs) W (L2.wipe sg vs) H F eta:=by
 refine ⟨st.ok,by rw [zZEl,wipe_length]; exact st.len,fun i z h => ?_,fun i j si sj a h1 h2 o1 o2 g1 g2 => ?_,fun j hj => ?_,by rw [wipe_length]; exact st.xl,st.xx⟩
 ·rcases zZEs h with rfl | ⟨q,hn⟩
  ·trivial
  ·have r:=st.sl i z q
   have w:=zZAh (sg:=sg) hn
   cases z with
   | no=>trivial
   | val d=>obtain ⟨v,h1,h2⟩:=r; exact ⟨v,by rw [w]; exact h1,h2⟩
   | ol xs=>obtain ⟨a,vs',h1,h2⟩:=r; exact ⟨a,vs',by rw [w]; exact h1,h2⟩
   | oi c fs=>obtain ⟨a,dx,gs,h1,h2⟩:=r; exact ⟨a,dx,gs,by rw [w]; exact h1,h2⟩
   | od kvs=>obtain ⟨a,xs,ep,h1,h2⟩:=r; exact ⟨a,xs,ep,by rw [w]; exact h1,h2⟩
   | xv c p=>obtain ⟨h1,h2⟩:=r; exact ⟨by rw [w]; exact h1,h2⟩
 ·rcases zZEs h1 with rfl | ⟨q1,n1⟩
  ·cases o1
  ·rcases zZEs h2 with rfl | ⟨q2,n2⟩
   ·cases o2
   ·rw [zZAh n1] at g1
    rw [zZAh n2] at g2
    exact st.un i j si sj a q1 q2 o1 o2 g1 g2
 ·rw [zZAh (fun z=>hx j z hj)]
  exact st.xr j hj
theorem zZGb {w : L2.St} : ∀ (us : List Nat),(∀ i ∈ us,∀ x,w[i]? ≠ some (some x)) → L2.wipe w us = w
 | [],_=>rfl
 | u :: us,h=>by
  show (L2.wipe w us).set u none = w
  rw [zZGb us fun i hi=>h i (List.mem_cons_of_mem _ hi)]
  apply List.ext_getElem?
  intro j
  by_cases hj : u = j
  ·subst hj
   by_cases hl : u < w.length
   ·rw [List.getElem?_set_self hl]
    cases hg : w[u]? with
    | none=>rw [List.getElem?_eq_none_iff] at hg; omega
    | some z =>
     cases z with
     | none=>rfl
     | some x=>exact absurd hg (h u List.mem_cons_self x)
   ·rw [List.getElem?_eq_none (by simpa using hl),List.getElem?_eq_none (by simpa using hl)]
  ·rw [List.getElem?_set_ne hj]
theorem zZGk (sg : L2.St) (vs us : List Nat) (h : ∀ i ∈ us,i ∈ vs) : L2.wipe (L2.wipe sg vs) us = L2.wipe sg vs :=
 zZGb us fun i hi x e=>(wipe_some e).2 (h i hi)
/-- the loop's reading -/
theorem zZJQ {elt : Env → Wd → R D} {tst : Env → Wd → R Bool} {tgf : D → Env → Option Env} {ns : List Nat} {J : L2.It} {ds : List D} {b : Bool} {F1 H1 : Hp} {eta1 : List Addr} {W1 : Wd} {Dn : Addr} {Qd : Hp → Prop}
  (hxk : ∀ i ∈ ns,i ∉ B.xk) (st1 : Stt B e W1 sg H1 F1 eta1) (it : IterOk B J ds (Per B e sg F1 eta1 b)) (hD : H1 Dn = none) (hz : ds.length ≤ cap)
  (k : (compL (fun d=>tgf d (wipeE e ns)) (fun e W=>(tst e W).bind fun k W=>.ok (.bl k) W) elt ds W1).wp B.xq fun xs W' => ∀ (vs : List V) (H' F' : Hp) (eta' : List Addr),OkH B F' eta' W' H' → Ext F1 eta1 H1 F' eta' H' → H' Dn = some (.lst vs) → F' Dn = none → Dn ∉ eta' → RepL B F' eta' xs vs → Qd H') :
  ∃ W : Nat → Nat → Hp → Prop,(∃ m,W 0 m (upd H1 Dn (.lst []))) ∧ ∀ i m H,W i m H →
 (J.stop i H ∧ Qd H) ∨ (J.go i H ∧ ∃ Nx : Hp → Prop,(∀ H',Nx H' → ∃ m',m' < m ∧ W (i + 1) m' H') ∧ ∀ x H',J.yld i H x H' → canG B.mute tgf ns x (wipe sg ns) H' fun σ2 H2=>wipe σ2 ns = wipe sg ns ∧ canT B.mute tst σ2 H2 fun b H3 =>
  if b = true then canE B.mute elt σ2 H3 fun y H4 => ∃ acc,H4 Dn = some (.lst acc) ∧ acc.length < sizeLine ∧ Nx (upd H4 Dn (.lst (acc ++ [y]))) else Nx H3):=by
 let Good : Nat → Hp → Prop:=fun i H => ∃ (F : Hp) (eta : List Addr) (Wc : Wd) (acc : List V) (accD : List D),OkH B F eta Wc H ∧ Ext F1 eta1 H1 F eta H ∧ H Dn = some (.lst acc) ∧ F Dn = none ∧ Dn ∉ eta ∧ RepL B F eta accD acc ∧ accD.length ≤ i ∧
  (compL (fun d=>tgf d (wipeE e ns)) (fun e W=>(tst e W).bind fun k W=>.ok (.bl k) W) elt (ds.drop i) Wc).wp B.xq fun xs W' => ∀ (vs : List V) (H' F' : Hp) (eta' : List Addr),OkH B F' eta' W' H' → Ext F1 eta1 H1 F' eta' H' → H' Dn = some (.lst vs) → F' Dn = none → Dn ∉ eta' → RepL B F' eta' (accD ++ xs) vs → Qd H'
 refine ⟨fun i m H=>m = ds.length - i ∧ i ≤ ds.length ∧ Good i H,⟨ds.length,by simp,Nat.zero_le _,F1,eta1,W1,[],[],st1.ok.new hD,Ext.new hD,upd_same,st1.ok.notF hD,st1.ok.notE hD,.nil,by simp, ?_⟩, ?_⟩
 ·simpa using k
 rintro i m H ⟨rfl,hi,F,eta,Wc,acc,accD,o,x,hDn,hF,hE,rl,hlen,kk⟩
 have per : Per B e sg F1 eta1 b F eta H:=⟨x.sub,x.pre,fun _=>⟨Wc,st1.ext x o⟩⟩
 by_cases hlt : i < ds.length
 ·obtain ⟨go,yl⟩:=it.step i ds[i] F eta Wc H (by simp [hlt]) o per
  refine .inr ⟨go,Good (i + 1),fun H' p'=>⟨ds.length - (i + 1),by omega,rfl,hlt,p'⟩,fun v H2 y => ?_⟩
  obtain ⟨F2,o2,x2,r2⟩:=yl v H2 y
  have y2:=Ext.trans st1.ok o x x2
  have st2:=(st1.ext y2 o2).wipe ns hxk
  rw [List.drop_eq_getElem_cons hlt] at kk
  unfold compL at kk
  rw [R.wp_bind] at kk
  obtain ⟨e2,q,kk⟩:=zZD kk
  -- the new list stays
  have hD2 : H2 Dn = some (.lst acc):=x2.keep Dn _ hDn hE
  have hF2 : F2 Dn = none:=by
   cases q : F2 Dn with
   | none=>rfl
   | some u =>
    rcases x2.newF Dn (by rw [q]; simp) with z | z
    ·exact absurd hF z
    ·rw [hDn] at z; cases z
  refine ⟨ds[i],_,e2,Wc,F2,eta,st2.mute,r2,q,fun sg3 st3 w3=>⟨?_, ?_⟩⟩
  ·have:=w3 ns fun i h=>h
   rw [this]
   exact zZGk sg ns ns fun i h=>h
  ·rw [R.wp_bind] at kk
   replace kk:=R.wp_calm (y:=B.mute.xq) kk
   rw [R.wp_bind] at kk
   refine ⟨e2,Wc,F2,eta,st3,R.wp_mono kk fun bb W4 kk H4 F4 eta4 o4 x4 => ?_⟩
   have y4:=Ext.trans st1.ok o2 y2 x4
   have hD4 : H4 Dn = some (.lst acc):=x4.keep Dn _ hD2 hE
   have hF4 : F4 Dn = none:=by
    cases q : F4 Dn with
    | none=>rfl
    | some u =>
     rcases x4.newF Dn (by rw [q]; simp) with z | z
     ·exact absurd hF2 z
     ·rw [hD2] at z; cases z
   have hE4 : Dn ∉ eta4:=fun z=>by
    rcases x4.newE Dn z with q | q
    ·exact hE q
    ·rw [hD2] at q; cases q
   simp only [R.wp_ok] at kk
   cases bb with
   | true =>
    refine iteT ?_
    simp only [] at kk
    rw [R.wp_bind] at kk
    replace kk:=R.wp_calm (y:=B.mute.xq) kk
    refine ⟨e2,W4,F4,eta4,st3.ext x4 o4,R.wp_mono kk fun d5 W5 kk w5 H5 F5 eta5 o5 x5 r5 => ?_⟩
    have y5:=Ext.trans st1.ok o4 y4 x5
    have hD5 : H5 Dn = some (.lst acc):=x5.keep Dn _ hD4 hE4
    have hF5 : F5 Dn = none:=by
     cases q : F5 Dn with
     | none=>rfl
     | some u =>
      rcases x5.newF Dn (by rw [q]; simp) with z | z
      ·exact absurd hF4 z
      ·rw [hD4] at z; cases z
    have hE5 : Dn ∉ eta5:=fun z=>by
     rcases x5.newE Dn z with q | q
     ·exact hE4 q
     ·rw [hD4] at q; cases q
    have hl : acc.length < sizeLine:=by rw [← rl.length]; exact Nat.lt_of_lt_of_le (Nat.lt_of_le_of_lt hlen (Nat.lt_of_lt_of_le hlt hz)) zZb
    refine ⟨acc,hD5,hl,F5,eta5,W5,acc ++ [w5],accD ++ [d5],o5.writeO hF5 hE5,⟨y5.sub,y5.pre,fun a u ha hn => ?_,y5.newF,y5.newE⟩,upd_same,hF5,hE5,((rl.mono ((x2.sub.trans x4.sub).trans x5.sub) (x4.pre.trans x5.pre)).append (.cons r5 .nil)),by simp; omega, ?_⟩
    ·have hne : a ≠ Dn:=ne_of_none ha hD
     rw [upd_ne hne]
     exact y5.keep a u ha hn
    ·rw [R.wp_bind] at kk
     refine R.wp_mono kk fun xs W6 kk vs H' F' eta' o' x' h1 h2 h3 h4 => ?_
     refine kk vs H' F' eta' o' x' h1 h2 h3 ?_
     simpa using h4
   | false =>
    refine iteF ?_
    simp only [] at kk
    exact ⟨F4,eta4,W4,acc,accD,o4,y4,hD4,hF4,hE4,rl.mono (x2.sub.trans x4.sub) x4.pre,by omega,kk⟩
 ·have ei : i = ds.length:=by omega
  subst ei
  rw [List.drop_length] at kk
  unfold compL at kk
  rw [R.wp_ok,List.append_nil] at kk
  exact .inl ⟨it.stop F eta Wc H o per,kk acc H F eta o x hDn hF hE rl⟩
def compF (elt : Env → Wd → R D) (tst : Env → Wd → R Bool) (tgf : D → Env → Option Env) (ns : List Nat) (fi : Env → Wd → R (List D × Bool)) : Env → Wd → R (List D):=fun e W=>(fi e W).bind fun ds W =>
 if ds.1.length ≤ cap then compL (fun d=>tgf d (wipeE e ns)) (fun e W=>(tst e W).bind fun k W=>.ok (.bl k) W) elt ds.1 W else .st
theorem zZGf {elt : Env → Wd → R D} {tst : Env → Wd → R Bool} {tgf : D → Env → Option Env} {ns : List Nat} {fi : Env → Wd → R (List D × Bool)} {wi : TI}
  (hxk : ∀ i ∈ ns,i ∉ B.xk) (ki : ∀ (e : Env) (W : Wd) (sg : L2.St) (H F : Hp) (eta : List Addr) (Q : L2.It → Hp → Prop),Stt B e W sg H F eta →
   (fi e W).wp B.xq (fun ds W' => ∀ (J : L2.It) (H' F' : Hp) (eta' : List Addr),OkH B F' eta' W' H' → Ext F eta H F' eta' H' → IterOk B J ds.1 (Per B e sg F' eta' ds.2) → Q J H') → wi sg H Q)
  (e : Env) (W : Wd) (sg : L2.St) (H F : Hp) (eta : List Addr) (Q : VK) (s : Stt B e W sg H F eta)
  (k : (compF elt tst tgf ns fi e W).wp B.xq (fun ds W' => ∀ (a : Addr) (vs : List V) (H' F' : Hp) (eta' : List Addr),OkH B F' eta' W' H' → Ext F eta H F' eta' H' → H a = none → H' a = some (.lst vs) → F' a = none → a ∉ eta' → RepL B F' eta' ds vs → Q (.ref a) H')) :
  tLc wi (canG B.mute tgf ns) (canT B.mute tst) (canE B.mute elt) ns sg H Q:=by
 refine ki e W sg H F eta _ s ?_
 unfold compF at k
 rw [R.wp_bind] at k
 refine R.wp_mono k fun ds W1 k J H1 F1 eta1 o1 x1 it Dn hD => ?_
 split at k
 ·rename_i hz
  refine zZJQ hxk (s.ext x1 o1) it hD hz (R.wp_mono k fun xs W2 k vs H' F' eta' o' x' h1 h2 h3 h4 => ?_)
  exact k Dn vs H' F' eta' o' (Ext.trans s.ok o1 x1 x') (x1.there s.ok o1 hD) h1 h2 h3 h4
 ·exact k.elim
/-- the places of a comprehension's own names -/
def ownOf (N : List Str) (ns : List Nat) : List (Str × Nat):=ns.map fun i=>(N.getD i "",i)
theorem zZCh (N : List Str) (ns : List Nat) : (ownOf N ns).map (·.2) = ns:=by
 unfold ownOf
 rw [List.map_map]
 show List.map (fun i=>i) ns = ns
 exact List.map_id' ns
/-- the contexts of a comprehension's block -/
def Blk (X : Cx) (scope : Scope) (X' : Cx) : Prop := ∃ (s : Shared) (H : Hp) (C : Addr) (cl : List (Str × Addr)) (fp : List Addr),X' = X.blk s H scope (compEnvC scope cl C X.env) fp
theorem zZLK {pelt iter : Expr} {ifs : List Expr} {scope : Scope} {elt : Env → Wd → R D} {tst : Env → Wd → R Bool} {tgf : D → Env → Option Env} {ns : List Nat} {fi : Env → Wd → R (List D × Bool)}
  (hxk : ∀ i ∈ ns,i ∉ B.xk) (hc : X.calm = true) (hN : X.N.Nodup) (hb : blkC X.N X.env.scope scope (ownOf X.N ns) = true) (hs : ∀ x,foldedSetIterable iter X.env x = pure x)
  (hi : ItOk B X tg iter fi) (hg : ∀ X',Blk X scope X' → GOk B.mute X' tg tgf ns) (ht : ∀ X',Blk X scope X' → QOk B.mute X' ifs tst) (he : ∀ X',Blk X scope X' → EOk B.mute X' pelt elt) :
  FOk B X (.ListComp pelt [⟨tg,iter,ifs,0⟩] scope pos) (compF elt tst tgf ns fi):=by
 obtain ⟨wi,hi,ki⟩:=hi
 have h:=pe_lc (pos:=pos) (own:=ownOf X.N ns) hc hN hi (blkOk_by hb) (fun s H C cl fp=>(hg _ ⟨s,H,C,cl,fp,rfl⟩).can) (fun s H C cl fp=>ht _ ⟨s,H,C,cl,fp,rfl⟩) (fun s H C cl fp=>(he _ ⟨s,H,C,cl,fp,rfl⟩).can) hs
 rw [zZCh] at h
 exact ⟨_,h,fun e W sg H F eta Q s k=>zZGf hxk ki e W sg H F eta Q s k⟩
/-- the store of a comprehension in a name,on one line -/
theorem zZFR {pelt iter : Expr} {ifs : List Expr} {scope : Scope} {elt : Env → Wd → R D} {tst : Env → Wd → R Bool} {tgf : D → Env → Option Env} {ns : List Nat} {fi : Env → Wd → R (List D × Bool)} {i : Nat} {y : Str} {py spos : Pos}
  (hxk : ∀ i ∈ ns,i ∉ B.xk) (hc : X.calm = true) (hN : X.N.Nodup) (hy : X.N[i]? = some y) (hyl : X.env.scope.names.lookup y = some .local)
  (hsw : swapsWith (.ListComp pelt [⟨tg,iter,ifs,0⟩] scope pos) (some (.Name y py)) spos.line X.env = pure true) (hb : blkC X.N X.env.scope scope (ownOf X.N ns) = true) (hs : ∀ x,foldedSetIterable iter X.env x = pure x)
  (hi : ItOk B X tg iter fi) (hg : ∀ X',Blk X scope X' → GOk B.mute X' tg tgf ns) (ht : ∀ X',Blk X scope X' → QOk B.mute X' ifs tst) (he : ∀ X',Blk X scope X' → EOk B.mute X' pelt elt) :
  ∃ t : TE,PS X (.Assign [.Name y py] (.ListComp pelt [⟨tg,iter,ifs,0⟩] scope pos) spos) (tAsg t (gName i)) ∧ ∀ (e : Env) (W : Wd) (sg : L2.St) (H F : Hp) (eta : List Addr) (Q : VK),Stt B e W sg H F eta →
   (compF elt tst tgf ns fi e W).wp B.xq (fun ds W' => ∀ (a : Addr) (vs : List V) (H' F' : Hp) (eta' : List Addr),OkH B F' eta' W' H' → Ext F eta H F' eta' H' → H a = none → H' a = some (.lst vs) → F' a = none → a ∉ eta' → RepL B F' eta' ds vs → Q (.ref a) H') → t sg H Q:=by
 obtain ⟨wi,hi,ki⟩:=hi
 have h:=ps_setLc (own:=ownOf X.N ns) hc hN hy hyl hsw hi (blkOk_by hb) (fun s H C cl fp=>(hg _ ⟨s,H,C,cl,fp,rfl⟩).can) (fun s H C cl fp=>ht _ ⟨s,H,C,cl,fp,rfl⟩) (fun s H C cl fp=>(he _ ⟨s,H,C,cl,fp,rfl⟩).can) hs
 rw [zZCh] at h
 exact ⟨_,h,fun e W sg H F eta Q s k=>zZGf hxk ki e W sg H F eta Q s k⟩
end
end DL
set_option maxRecDepth 100000
set_option maxHeartbeats 4000000
namespace DL
open PySem PySem.Spec PyProof.Rows
open L2 hiding St
def Slot.isOi : Slot → Bool
 | .oi _ _=>true | _=>false
/-- a frame's state,against the heap at the call -/
structure Fr0 (B : Tb) (xo : Addr) (F0 : Hp) (eta0 : List Addr) (H0 : Hp) (e : Env) (W : Wd) (sg : L2.St) (H F : Hp) (eta : List Addr) : Prop where
 st : Stt B e W sg H F eta
 ext : Ext F0 eta0 H0 F eta H
 new : ∀ (i : Nat) (z : Slot) (a : Addr),e[i]? = some z → z.owned = true → sg[i]? = some (some (V.ref a)) → H0 a = none ∧ (z.isOi = true → a = xo) ∧ B.xH a = none
/-- what is wanted behind a statement,by the evaluator's word -/
def FlowP (B : Tb) (xo : Addr) (F0 : Hp) (eta0 : List Addr) (H0 : Hp) (D : Ends) : Fl → Wd → Prop
 | .nx e,W => ∀ (sg : L2.St) (H F : Hp) (eta : List Addr),Fr0 B xo F0 eta0 H0 e W sg H F eta → D.nx sg H
 | .bk e,W => ∀ (sg : L2.St) (H F : Hp) (eta : List Addr),Fr0 B xo F0 eta0 H0 e W sg H F eta → D.bk sg H
 | .ct e,W => ∀ (sg : L2.St) (H F : Hp) (eta : List Addr),Fr0 B xo F0 eta0 H0 e W sg H F eta → D.ct sg H
 | .rt d,W => ∀ (v : V) (H F : Hp) (eta : List Addr),OkH B F eta W H → Ext F0 eta0 H0 F eta H → Rep B F eta d v → D.rt v H
def TSOk (B : Tb) (t : TS) (f : Env → Wd → R Fl) : Prop := ∀ (xo : Addr) (F0 : Hp) (eta0 : List Addr) (H0 : Hp) (W0 : Wd) (e : Env) (W : Wd) (sg : L2.St) (H F : Hp) (eta : List Addr) (D : Ends),True → Fr0 B xo F0 eta0 H0 e W sg H F eta →
 (f e W).wp B.xq (FlowP B xo F0 eta0 H0 D) → t D sg H
def POk (B : Tb) (X : Cx) (py : Stmt) (f : Env → Wd → R Fl) : Prop := ∃ t : TS,PS X py t ∧ TSOk B t f
def BOk (B : Tb) (X : Cx) (py : List Stmt) (f : Env → Wd → R Fl) : Prop := ∃ t : TS,PSs X py t ∧ TSOk B t f
section
variable {B : Tb} {X : Cx} {xo : Addr} {tg py pa pb pc : Expr} {pos p : Pos} {fa fb fc : Env → Wd → R D} {fs fs2 fs3 : Env → Wd → R Src}
variable {e e' : Env} {sg sg' : L2.St} {F F' H H' F0 H0 : Hp} {eta eta' eta0 : List Addr} {W W' W0 : Wd} {st : Stmt} {sts : List Stmt} {f g : Env → Wd → R Fl}
theorem Fr0.ext2 (x : Fr0 B xo F0 eta0 H0 e W sg H F eta) (o0 : True) (y : Ext F eta H F' eta' H') (o : OkH B F' eta' W' H') : Fr0 B xo F0 eta0 H0 e W' sg H' F' eta' :=
 ⟨x.st.ext y o,Ext.trans' o0 x.st.ok x.ext y,x.new⟩
theorem zZMA : BOk B X [] (fun e W=>.ok (.nx e) W):=⟨_,pss_nil,fun xo F0 eta0 H0 W0 e W sg H F eta D o x k=>k sg H F eta x⟩
theorem zZKb (h1 : POk B X st f) (h2 : BOk B X sts g) : BOk B X (st :: sts) (fun e W=>(f e W).bind fun fl W=>match fl with | .nx e=>g e W | fl=>.ok fl W):=by
 obtain ⟨t,h1,k1⟩:=h1
 obtain ⟨u,h2,k2⟩:=h2
 refine ⟨_,pss_cons h1 h2,fun xo F0 eta0 H0 W0 e W sg H F eta D o x k => ?_⟩
 refine k1 xo F0 eta0 H0 W0 e W sg H F eta _ o x ?_
 rw [R.wp_bind] at k
 refine R.wp_mono k fun fl W1 k => ?_
 cases fl with
 | nx e1=>exact fun sg1 H1 F1 eta1 x1=>k2 xo F0 eta0 H0 W0 e1 W1 sg1 H1 F1 eta1 D o x1 k
 | rt d=>exact k
 | bk e1=>exact k
 | ct e1=>exact k
theorem zZK8 : POk B X (.Pass pos) (fun e W=>.ok (.nx e) W):=⟨_,ps_pass,fun xo F0 eta0 H0 W0 e W sg H F eta D o x k=>k sg H F eta x⟩
theorem zZLj (ha : EOk B X pa fa) : POk B X (.Return (some pa) pos) (fun e W=>(fa e W).bind fun d W=>.ok (.rt d) W):=by
 obtain ⟨ta,ha,ka⟩:=ha
 refine ⟨_,ps_ret ha,fun xo F0 eta0 H0 W0 e W sg H F eta D o x k => ?_⟩
 refine ka e W sg H F eta _ x.st ?_
 rw [R.wp_bind] at k
 exact R.wp_mono k fun d W1 k v H1 F1 eta1 o1 x1 r1=>k v H1 F1 eta1 o1 (Ext.trans' o x.st.ok x.ext x1) r1
def notComp : Expr → Bool
 | .ListComp _ _ _ _=>false | .SetComp _ _ _ _=>false | .DictComp _ _ _ _ _=>false | _=>true
theorem zZAE {v : Expr} (h : notComp v = true) (t : Option Expr) (l : Nat) (env : PySem.Env) : swapsWith v t l env = pure false:=by
 cases v <;> first | rfl | cases h
theorem zZE6 {v t : Expr} (h : ∀ x p,t ≠ .Name x p) (l : Nat) (env : PySem.Env) : swapsWith v (some t) l env = pure false:=by
 unfold swapsWith
 cases v <;> first
  | rfl
  | (cases t <;> first | rfl | exact absurd rfl (h _ _))
theorem zZFq {v t : Expr} (h : ∀ x p,t ≠ .Name x p) (l : Nat) (env : PySem.Env) : swapsWithSole [t] v l env = pure false:=zZE6 h l env
theorem zZK0 (hn : notComp pa = true) (ha : EOk B X pa fa) : POk B X (.Expr pa pos) (fun e W=>(fa e W).bind fun _ W=>.ok (.nx e) W):=by
 obtain ⟨ta,ha,ka⟩:=ha
 refine ⟨_,ps_expr ha (zZAE hn _ _ _),fun xo F0 eta0 H0 W0 e W sg H F eta D o x k => ?_⟩
 refine ka e W sg H F eta _ x.st ?_
 rw [R.wp_bind] at k
 exact R.wp_mono k fun d W1 k v H1 F1 eta1 o1 x1 r1=>k sg H1 F1 eta1 (x.ext2 o x1 o1)
theorem Fr0.set (x : Fr0 B xo F0 eta0 H0 e W sg H F eta) {i : Nat} {d : D} {v : V} (hi : i < e.length) (hx : i ∉ B.xk) (r : Rep B F eta d v) : Fr0 B xo F0 eta0 H0 (e.set i (.val d)) W (sg.set i (some v)) H F eta:=by
 refine ⟨x.st.set hi hx r,x.ext,fun j z a h1 h2 h3 => ?_⟩
 have hj : i ≠ j:=fun z=>by
  subst z
  rw [List.getElem?_set_self hi] at h1
  cases h1
  cases h2
 rw [List.getElem?_set_ne hj] at h1 h3
 exact x.new j z a h1 h2 h3
/-- name = e -/
theorem zZIX {i : Nat} {x : Str} {p2 : Pos} (hxk : i ∉ B.xk) (hN : X.N.Nodup) (hi : X.N[i]? = some x) (hx : L2.Loc X.env.scope x) (hf : X.fn x = true ∨ X.env.scope.names.lookup x = some .local) (hs : swapsWith pa (some (.Name x p2)) pos.line X.env = pure false) (ha : EOk B X pa fa) :
  POk B X (.Assign [.Name x p2] pa pos) (fun e W=>(fa e W).bind fun d W=>(opt (if i < e.length then some (e.set i (.val d)) else none) W).bind fun e W=>.ok (.nx e) W):=by
 obtain ⟨ta,ha,ka⟩:=ha
 refine ⟨_,ps_set hN hi hx ha hs hf,fun xo F0 eta0 H0 W0 e W sg H F eta D o y k => ?_⟩
 refine ka e W sg H F eta _ y.st ?_
 rw [R.wp_bind] at k
 refine R.wp_mono k fun d W1 k v H1 F1 eta1 o1 x1 r1 => ?_
 rw [R.wp_bind] at k
 obtain ⟨e2,q,k⟩:=zZD k
 split at q
 ·rename_i hl
  cases q
  exact k _ H1 F1 eta1 ((y.ext2 o x1 o1).set hl hxk r1)
 ·cases q
/-- a,b = e -/
def notTup : Expr → Bool
 | .Tuple _ _ _=>false | _=>true
theorem zZHy {t v : Expr} (h : notTup v = true) (env : PySem.Env) : swappedStores [t] v env = pure none:=by
 unfold swappedStores
 cases t <;> first
  | rfl
  | (cases v <;> first | rfl | cases h)
theorem zZH9 {a b v : Expr} {p : Pos} (env : PySem.Env) : swappedStores [.Subscript a b p] v env = pure none:=by
 unfold swappedStores
 rfl
theorem Fr0.tgt (y : Fr0 B xo F0 eta0 H0 e W sg H F eta) {ns : List Nat} (st' : Stt B e' W sg' H F eta) (hw : ∀ vs : List Nat,(∀ i ∈ ns,i ∈ vs) → wipe sg' vs = wipe sg vs) (he : ∀ i z,e'[i]? = some z → z.owned = true → e[i]? = some z ∧ i ∉ ns) :
  Fr0 B xo F0 eta0 H0 e' W sg' H F eta:=by
 refine ⟨st',y.ext,fun i z a h1 h2 h3 => ?_⟩
 obtain ⟨q1,q2⟩:=he i z h1 h2
 refine y.new i z a q1 h2 ?_
 have w:=hw ns fun i h=>h
 have:=zZAh (sg:=sg) q2
 rw [← this,← w,zZAh q2]
 exact h3
mutual
theorem zZEu : ∀ {t : Tg} {d : D} {e e' : Env},tgD t d e = some e' → ∀ (i : Nat) (z : Slot),e'[i]? = some z → z.owned = true → e[i]? = some z ∧ i ∉ tgN t
 | .nm j,d,e,e',h=>by
  unfold tgD at h
  split at h
  ·rename_i hl
   cases h
   intro i z h1 h2
   by_cases hj : j = i
   ·subst hj
    rw [List.getElem?_set_self hl] at h1
    cases h1
    cases h2
   ·rw [List.getElem?_set_ne hj] at h1
    exact ⟨h1,by simp [tgN]; exact fun z=>hj z.symm⟩
  ·cases h
 | .tup ts,.tup xs,e,e',h=>by
  simp only [tgD] at h
  simp only [tgN]
  exact zZFN h
 | .tup ts,.tupz xs,e,e',h=>by
  simp only [tgD] at h
  simp only [tgN]
  exact zZFN h
 | .tup ts,.non,e,e',h=>by simp [tgD] at h
 | .tup ts,.ext _,e,e',h=>by simp [tgD] at h
 | .tup ts,.bl _,e,e',h=>by simp [tgD] at h
 | .tup ts,.int _,e,e',h=>by simp [tgD] at h
 | .tup ts,.str _,e,e',h=>by simp [tgD] at h
 | .tup ts,.lst _,e,e',h=>by simp [tgD] at h
 | .tup ts,.ins _ _,e,e',h=>by simp [tgD] at h
 | .tup ts,.dct _,e,e',h=>by simp [tgD] at h
 | .tup ts,.dtt _,e,e',h=>by simp [tgD] at h
 | .tup ts,.own _,e,e',h=>by simp [tgD] at h
theorem zZFN : ∀ {t : Tgs} {d : List D} {e e' : Env},tgsD t d e = some e' → ∀ (i : Nat) (z : Slot),e'[i]? = some z → z.owned = true → e[i]? = some z ∧ i ∉ tgsN t
 | .nil,[],e,e',h=>by
  simp [tgsD] at h
  subst h
  intro i z h1 h2
  exact ⟨h1,by simp [tgsN]⟩
 | .nil,_ :: _,e,e',h=>by simp [tgsD] at h
 | .cons t ts,[],e,e',h=>by simp [tgsD] at h
 | .cons t ts,x :: xs,e,e',h=>by
  simp only [tgsD,Option.bind_eq_some_iff] at h
  obtain ⟨e1,h1,h2⟩:=h
  intro i z g1 g2
  obtain ⟨q1,q2⟩:=zZFN h2 i z g1 g2
  obtain ⟨q3,q4⟩:=zZEu h1 i z q1 g2
  exact ⟨q3,by simp [tgsN,q2,q4]⟩
end
theorem zZKl {t : Tg} (hn : swappedStores [tg] pa X.env = pure none) (hs : swapsWithSole [tg] pa pos.line X.env = pure false) (h1 : (assignEach [tg] X.env).map (·.2) = [assign tg X.env]) (ha : EOk B X pa fa) (hg : GOk B X tg (tgD t) (tgN t)) :
  POk B X (.Assign [tg] pa pos) (fun e W=>(fa e W).bind fun d W=>(opt (tgD t d e) W).bind fun e W=>.ok (.nx e) W):=by
 obtain ⟨ta,ha,ka⟩:=ha
 obtain ⟨_,tg',hg,kg⟩:=hg
 refine ⟨_,ps_asg ha hg hs hn h1,fun xo F0 eta0 H0 W0 e W sg H F eta D o y k => ?_⟩
 refine ka e W sg H F eta _ y.st ?_
 rw [R.wp_bind] at k
 refine R.wp_mono k fun d W1 k v H1 F1 eta1 o1 x1 r1 => ?_
 rw [R.wp_bind] at k
 obtain ⟨e2,q,k⟩:=zZD k
 have y1:=y.ext2 o x1 o1
 exact kg d v e e2 W1 sg H1 F1 eta1 _ y1.st r1 q fun sg2 st2 w2=>k sg2 H1 F1 eta1 (y1.tgt st2 w2 (zZEu q))
/-- name = a new list,the name's own -/
theorem Fr0.own (y : Fr0 B xo F0 eta0 H0 e W sg H F eta) {i : Nat} {a : Addr} {vs : List V} {xs : List D} (hi : i < e.length) (h1 : H a = some (.lst vs)) (h2 : F a = none) (h3 : a ∉ eta) (r : RepL B F eta xs vs) (h0 : H0 a = none) (hxh : B.xH a = none) (hxk : i ∉ B.xk)
  (hu : ∀ (j : Nat) (z : Slot),e[j]? = some z → z.owned = true → sg[j]? ≠ some (some (V.ref a))) : Fr0 B xo F0 eta0 H0 (e.set i (.ol xs)) W (sg.set i (some (.ref a))) H F eta:=by
 have hi' : i < sg.length:=by rw [← y.st.len]; exact hi
 refine ⟨⟨y.st.ok,by simp [y.st.len],fun j z h => ?_,fun j k sj sk b g1 g2 o1 o2 q1 q2 => ?_,fun j hj => ?_,by rw [List.length_set]; exact y.st.xl,y.st.xx⟩,y.ext,fun j z b g1 g2 g3 => ?_⟩
 ·by_cases hj : i = j
  ·subst hj
   rw [List.getElem?_set_self hi] at h
   cases h
   exact ⟨a,vs,List.getElem?_set_self hi',h1,r,h2,h3⟩
  ·rw [List.getElem?_set_ne hj] at h
   have q:=y.st.sl j z h
   cases z with
   | no=>trivial
   | val d=>obtain ⟨u,h1,h2⟩:=q; exact ⟨u,by rw [List.getElem?_set_ne hj]; exact h1,h2⟩
   | ol xs=>obtain ⟨a,vs,h1,h2⟩:=q; exact ⟨a,vs,by rw [List.getElem?_set_ne hj]; exact h1,h2⟩
   | oi c fs=>obtain ⟨a,dx,gs,h1,h2⟩:=q; exact ⟨a,dx,gs,by rw [List.getElem?_set_ne hj]; exact h1,h2⟩
   | od kvs=>obtain ⟨a,xs,ep,h1,h2⟩:=q; exact ⟨a,xs,ep,by rw [List.getElem?_set_ne hj]; exact h1,h2⟩
   | xv c p=>obtain ⟨h1,h2⟩:=q; exact ⟨by rw [List.getElem?_set_ne hj]; exact h1,h2⟩
 ·by_cases hj : i = j
  ·by_cases hk : i = k
   ·rw [← hj,← hk]
   ·subst hj
    rw [List.getElem?_set_self hi'] at q1
    cases q1
    rw [List.getElem?_set_ne hk] at g2 q2
    exact absurd q2 (hu k sk g2 o2)
  ·rw [List.getElem?_set_ne hj] at g1 q1
   by_cases hk : i = k
   ·subst hk
    rw [List.getElem?_set_self hi'] at q2
    cases q2
    exact absurd q1 (hu j sj g1 o1)
   ·rw [List.getElem?_set_ne hk] at g2 q2
    exact y.st.un j k sj sk b g1 g2 o1 o2 q1 q2
 ·rw [List.getElem?_set_ne (fun z=>hxk (by rw [z]; exact hj))]
  exact y.st.xr j hj
 ·by_cases hj : i = j
  ·subst hj
   rw [List.getElem?_set_self hi'] at g3
   cases g3
   rw [List.getElem?_set_self hi] at g1
   cases g1
   exact ⟨h0,(fun q=>by cases q),hxh⟩
  ·rw [List.getElem?_set_ne hj] at g1 g3
   exact y.new j z b g1 g2 g3
/-- a place's own object was there ahead of what is new -/
theorem Stt.ownAt (s : Stt B e W sg H F eta) {j : Nat} {z : Slot} {a : Addr} (h1 : e[j]? = some z) (h2 : z.owned = true) (h3 : sg[j]? = some (some (V.ref a))) : H a ≠ none:=by
 have q:=s.sl j z h1
 cases z with
 | no=>cases h2
 | val _=>cases h2
 | ol xs=>obtain ⟨b,vs,q1,q2,_⟩:=q; rw [h3] at q1; cases q1; rw [q2]; simp
 | oi c fs=>obtain ⟨b,dx,gs,q1,q2,_⟩:=q; rw [h3] at q1; cases q1; rw [q2]; simp
 | od kvs=>obtain ⟨b,xs,ep,q1,q2,_⟩:=q; rw [h3] at q1; cases q1; rw [q2]; simp
 | xv c p=>cases h2
theorem zZBG {i : Nat} (hxk : i ∉ B.xk) {st : Stmt} {t : TE} {ff : Env → Wd → R (List D)} (h : PS X st (tAsg t (gName i)))
  (k : ∀ (e : Env) (W : Wd) (sg : L2.St) (H F : Hp) (eta : List Addr) (Q : VK),Stt B e W sg H F eta →
   (ff e W).wp B.xq (fun ds W' => ∀ (a : Addr) (vs : List V) (H' F' : Hp) (eta' : List Addr),OkH B F' eta' W' H' → Ext F eta H F' eta' H' → H a = none → H' a = some (.lst vs) → F' a = none → a ∉ eta' → RepL B F' eta' ds vs → Q (.ref a) H') → t sg H Q) :
  POk B X st (fun e W=>(ff e W).bind fun xs W=>if i < e.length then .ok (.nx (e.set i (.ol xs))) W else .st):=by
 refine ⟨_,h,fun xo F0 eta0 H0 W0 e W sg H F eta D o y q => ?_⟩
 refine k e W sg H F eta _ y.st ?_
 rw [R.wp_bind] at q
 refine R.wp_mono q fun xs W1 q a vs H1 F1 eta1 o1 x1 g0 g1 g2 g3 r1 => ?_
 split at q
 ·rename_i hl
  have y1:=y.ext2 o x1 o1
  refine q _ H1 F1 eta1 (y1.own hl g1 g2 g3 r1 (y.ext.there' y.st.ok g0) (y.st.xx.there' y.st.ok g0) hxk fun j z h1 h2 h3 => ?_)
  exact y.st.ownAt h1 h2 h3 g0
 ·exact q.elim
theorem zZHC {i : Nat} {x : Str} {p2 : Pos} (hxk : i ∉ B.xk) {ff : Env → Wd → R (List D)} (hN : X.N.Nodup) (hi : X.N[i]? = some x) (hx : L2.Loc X.env.scope x) (hf : X.fn x = true ∨ X.env.scope.names.lookup x = some .local) (hs : swapsWith pa (some (.Name x p2)) pos.line X.env = pure false) (ha : FOk B X pa ff) :
  POk B X (.Assign [.Name x p2] pa pos) (fun e W=>(ff e W).bind fun xs W=>if i < e.length then .ok (.nx (e.set i (.ol xs))) W else .st):=by
 obtain ⟨ta,ha,ka⟩:=ha
 exact zZBG hxk (ps_set hN hi hx ha hs hf) ka
/-- name = a new list,frozen -/
theorem zZCo {i : Nat} (hxk : i ∉ B.xk) {st : Stmt} {t : TE} {ff : Env → Wd → R (List D)} (h : PS X st (tAsg t (gName i)))
  (k : ∀ (e : Env) (W : Wd) (sg : L2.St) (H F : Hp) (eta : List Addr) (Q : VK),Stt B e W sg H F eta →
   (ff e W).wp B.xq (fun ds W' => ∀ (a : Addr) (vs : List V) (H' F' : Hp) (eta' : List Addr),OkH B F' eta' W' H' → Ext F eta H F' eta' H' → H a = none → H' a = some (.lst vs) → F' a = none → a ∉ eta' → RepL B F' eta' ds vs → Q (.ref a) H') → t sg H Q) :
  POk B X st (fun e W=>((ff e W).bind fun xs W=>.ok (D.lst xs) W).bind fun d W=>(opt (if i < e.length then some (e.set i (.val d)) else none) W).bind fun e W=>.ok (.nx e) W):=by
 refine ⟨_,h,fun xo F0 eta0 H0 W0 e W sg H F eta D o y q => ?_⟩
 refine k e W sg H F eta _ y.st ?_
 dsimp only at q
 rw [R.bind_assoc,R.wp_bind] at q
 refine R.wp_mono q fun xs W1 q a vs H1 F1 eta1 o1 x1 g0 g1 g2 g3 r1 => ?_
 rw [R.bind_ok,R.wp_bind] at q
 obtain ⟨e2,q2,q⟩:=zZD q
 split at q2
 ·rename_i hl
  cases q2
  have s1:=zZr (u:=HO.lst vs) g2
  have x2 : Ext F eta H (upd F1 a (.lst vs)) eta1 H1:=⟨x1.sub.trans s1,x1.pre,x1.keep,fun b hb=>by
   by_cases e : b = a
   ·subst e; exact .inr g0
   ·rw [upd_ne e] at hb; exact x1.newF b hb,x1.newE⟩
  exact q _ H1 _ eta1 ((y.ext2 o x2 (o1.frz g1 g2 g3)).set hl hxk (.lst upd_same (r1.mono s1 (List.prefix_refl _))))
 ·cases q2
theorem zZE5 {i : Nat} (hxk : i ∉ B.xk) {st : Stmt} {t : TE} {ff : Env → Wd → R (List D)} (h : PS X st (tAsg t (gName i)))
  (k : ∀ (e : Env) (W : Wd) (sg : L2.St) (H F : Hp) (eta : List Addr) (Q : VK),Stt B e W sg H F eta →
   (ff e W).wp B.xq (fun ds W' => ∀ (a : Addr) (vs : List V) (H' F' : Hp) (eta' : List Addr),OkH B F' eta' W' H' → Ext F eta H F' eta' H' → H a = none → H' a = some (.lst vs) → F' a = none → a ∉ eta' → RepL B F' eta' ds vs → Q (.ref a) H') → t sg H Q) :
  POk B X st (fun e W=>((ff e W).bind fun xs W=>newCell (.lst xs) W).bind fun d W=>(opt (if i < e.length then some (e.set i (.val d)) else none) W).bind fun e W=>.ok (.nx e) W):=by
 refine ⟨_,h,fun xo F0 eta0 H0 W0 e W sg H F eta D o y q => ?_⟩
 refine k e W sg H F eta _ y.st ?_
 dsimp only at q
 rw [R.bind_assoc,R.wp_bind] at q
 refine R.wp_mono q fun xs W1 q a vs H1 F1 eta1 o1 x1 g0 g1 g2 g3 r1 => ?_
 unfold newCell at q
 rw [R.bind_ok,R.wp_bind] at q
 obtain ⟨e2,q2,q⟩:=zZD q
 split at q2
 ·rename_i hl
  cases q2
  have o2 : OkH B F1 (eta1 ++ [a]) (W1 ++ [.lst xs]) H1:=o1.toCell g2 g3 ⟨vs,g1,r1.mono (SubH.refl _) (List.prefix_append _ _)⟩
  have x2 : Ext F eta H F1 (eta1 ++ [a]) H1:=⟨x1.sub,x1.pre.trans (List.prefix_append _ _),x1.keep,x1.newF,fun b hb=>by
   rcases List.mem_append.mp hb with hb | hb
   ·exact x1.newE b hb
   ·rw [List.mem_singleton.mp hb]; exact .inr g0⟩
  exact q _ H1 _ _ ((y.ext2 o x2 o2).set hl hxk (.own (by rw [← o1.len]; simp)))
 ·cases q2
/-- a place's own object is written -/
theorem Fr0.write (y : Fr0 B xo F0 eta0 H0 e W sg H F eta) {i : Nat} {a : Addr} {z z' : Slot} {u : HO} (h1 : e[i]? = some z) (h2 : z.owned = true) (h3 : sg[i]? = some (some (V.ref a))) (hF : F a = none) (hE : a ∉ eta) (hz : z'.owned = true) (hz2 : z'.isOi = true → z.isOi = true)
  (hr : SlotRep B F eta (upd H a u) sg i z') : Fr0 B xo F0 eta0 H0 (e.set i z') W sg (upd H a u) F eta:=by
 have hi : i < e.length:=(List.getElem?_eq_some_iff.mp h1).1
 have h0:=(y.new i z a h1 h2 h3).1
 have hx0:=(y.new i z a h1 h2 h3).2.2
 refine ⟨⟨y.st.ok.writeO hF hE,by simp [y.st.len],fun j w h => ?_,fun j k sj sk b g1 g2 o1 o2 q1 q2 => ?_,y.st.xr,y.st.xl,⟨y.st.xx.sub,y.st.xx.pre,fun b o hb hn => ?_,y.st.xx.newF,y.st.xx.newE⟩⟩,⟨y.ext.sub,y.ext.pre,fun b o hb hn => ?_,y.ext.newF,y.ext.newE⟩,fun j w b g1 g2 g3 => ?_⟩
 ·by_cases hj : i = j
  ·subst hj
   rw [List.getElem?_set_self hi] at h
   cases h
   exact hr
  ·rw [List.getElem?_set_ne hj] at h
   have q:=y.st.sl j w h
   have hne : ∀ b,w.owned = true → sg[j]? = some (some (V.ref b)) → b ≠ a:=fun b hw hb z=>by
    subst z
    exact hj (y.st.un i j _ _ b h1 h h2 hw h3 hb)
   cases w with
   | no=>trivial
   | val d=>exact q
   | ol xs=>obtain ⟨b,vs,q1,q2,q3⟩:=q; exact ⟨b,vs,q1,by rw [upd_ne (hne b rfl q1)]; exact q2,q3⟩
   | oi c fs=>obtain ⟨b,dx,gs,q1,q2,q3⟩:=q; exact ⟨b,dx,gs,q1,by rw [upd_ne (hne b rfl q1)]; exact q2,q3⟩
   | od kvs=>obtain ⟨b,xs,ep,q1,q2,q3⟩:=q; exact ⟨b,xs,ep,q1,by rw [upd_ne (hne b rfl q1)]; exact q2,q3⟩
   | xv c p =>
    refine ⟨q.1,q.2.1,q.2.2.write fun fs hx => ?_⟩
    have qz:=y.st.sl i z h1
    cases z with
    | ol xs =>
     obtain ⟨b,vs,q1,q2,_⟩:=qz
     rw [h3] at q1
     cases q1
     rw [hx] at q2
     cases q2
    | oi c fs2 =>
     obtain ⟨b,dx,gs,q1,q2,_⟩:=qz
     rw [h3] at q1
     cases q1
     rw [hx] at q2
     cases q2
    | od kvs =>
     obtain ⟨b,xs,ep,q1,q2,_⟩:=qz
     rw [h3] at q1
     cases q1
     rw [hx] at q2
     exact HO.noConfusion (Option.some.inj q2)
    | _=>cases h2
 ·have own : ∀ (j : Nat) (s : Slot),(e.set i z')[j]? = some s → s.owned = true → ∃ s',e[j]? = some s' ∧ s'.owned = true:=fun j s g o=>by
   by_cases hj : i = j
   ·subst hj; exact ⟨z,h1,h2⟩
   ·rw [List.getElem?_set_ne hj] at g; exact ⟨s,g,o⟩
  obtain ⟨s1,a1,b1⟩:=own j sj g1 o1
  obtain ⟨s2,a2,b2⟩:=own k sk g2 o2
  exact y.st.un j k s1 s2 b a1 a2 b1 b2 q1 q2
 ·have hne : b ≠ a:=fun z=>by rw [z,hx0] at hb; cases hb
  rw [upd_ne hne]
  exact y.st.xx.keep b o hb hn
 ·have hne : b ≠ a:=fun z=>by rw [z,h0] at hb; cases hb
  rw [upd_ne hne]
  exact y.ext.keep b o hb hn
 ·by_cases hj : i = j
  ·subst hj
   rw [List.getElem?_set_self hi] at g1
   cases g1
   exact ⟨(y.new i z b h1 h2 g3).1,(fun q=>(y.new i z b h1 h2 g3).2.1 (hz2 q)),(y.new i z b h1 h2 g3).2.2⟩
  ·rw [List.getElem?_set_ne hj] at g1; exact y.new j w b g1 g2 g3
/-- a cell is written -/
theorem Fr0.cell (y : Fr0 B xo F0 eta0 H0 e W sg H F eta) {n : Nat} {a : Addr} {c : Cell} {u : HO} (hn : eta[n]? = some a) (hc : CellRep B F eta (upd H a u) a c) : Fr0 B xo F0 eta0 H0 e (W.set n c) sg (upd H a u) F eta:=by
 have hm : a ∈ eta:=List.mem_of_getElem? hn
 refine ⟨y.st.ext (Ext.setCell hm) (y.st.ok.setCell hn hc),⟨y.ext.sub,y.ext.pre,fun b o hb hno => ?_,y.ext.newF,y.ext.newE⟩,y.new⟩
 have hne : b ≠ a:=fun z=>by
  subst z
  rcases y.ext.newE b hm with q | q
  ·exact hno q
  ·rw [q] at hb; cases hb
 rw [upd_ne hne]
 exact y.ext.keep b o hb hno
def fldS (g : Cfg) (fb : Env → Wd → R D) (f i : Nat) : Env → Wd → R Fl:=fun e W=>(fb e W).bind fun d W =>
    match e[i]? with
    | some (.oi c fs)=>if g.fld c f && decide (fs.length < 100) then .ok (.nx (e.set i (.oi c (putFd f d fs)))) W else .st
    | some (.val (.own n))=>(match W[n]? with | some (.ins c fs)=>if g.fld c f && decide (fs.length < 100) then .ok (.nx e) (W.set n (.ins c (putFd f d fs))) else .st | _=>.st)
    | _=>.st
theorem zZLp {g : Cfg} {i f : Nat} {x nm : Str} {p2 p3 : Pos} (hf : FldOk B X.K g) (hN : X.N[i]? = some x) (hv : Vis X.env.scope x) (hd : (x == ("__debug__" : Str)) = false) (hc : (x == ("__classdict__" : Str)) = false) (hn : B.fn f = nm) (hb : EOk B X pb fb) :
  POk B X (.Assign [.Attribute (.Name x p2) nm p3] pb pos) (fldS g fb f i):=by
 subst hn
 obtain ⟨tb,hb,kb⟩:=hb
 refine ⟨_,ps_fld (pe_var hN hv hd hc) hb (zZE6 (fun _ _ h=>by cases h) _ _),fun xo F0 eta0 H0 W0 e W sg H F eta De o y k => ?_⟩
 refine kb e W sg H F eta _ y.st ?_
 unfold fldS at k
 rw [R.wp_bind] at k
 refine R.wp_mono k fun d W1 k v H1 F1 eta1 o1 x1 r1 => ?_
 have y1:=y.ext2 o x1 o1
 split at k
 ·rename_i c fs hs
  split at k
  ·rename_i hg
   simp only [Bool.and_eq_true,decide_eq_true_eq] at hg
   obtain ⟨f1,f2,f3⟩:=hf _ _ hg.1
   obtain ⟨a,dx,gs,q1,q2,q3,q4,q5⟩:=y1.st.sl i _ hs
   refine ⟨_,q1,a,_,dx,gs,rfl,q2,f2,f3,by rw [← q3.length]; omega, ?_⟩
   exact k _ _ F1 eta1 (y1.write (z':=.oi c (putFd f d fs)) hs rfl q1 q4 q5 rfl (fun _=>rfl) ⟨a,dx,_,q1,upd_same,q3.put f1 r1,q4,q5⟩)
  ·exact k.elim
 ·rename_i n hs
  obtain ⟨u,q1,q2⟩:=y1.st.sl i _ hs
  cases q2 with
  | own hh =>
   split at k
   ·rename_i c fs hw
    split at k
    ·rename_i hg
     simp only [Bool.and_eq_true,decide_eq_true_eq] at hg
     obtain ⟨f1,f2,f3⟩:=hf _ _ hg.1
     obtain ⟨dx,gs,z1,z2⟩:=o1.cell n _ _ hh hw
     refine ⟨_,q1,_,_,dx,gs,rfl,z1,f2,f3,by rw [← z2.length]; omega, ?_⟩
     exact k _ _ F1 eta1 (y1.cell hh ⟨dx,_,upd_same,z2.put f1 r1⟩)
    ·exact k.elim
   ·exact k.elim
 ·exact k.elim
/-- the list that a source names is put -/
theorem zZHv (y : Fr0 B xo F0 eta0 H0 e W sg H F eta) {s : Src} {v : V} {xs ys : List D} {D' : Ends} (r : SrcRep B e sg F eta s v) (hi : items W s = some xs) (hs : s.isStr = false) (ht : s.isTup = false) (k : (putList s ys e W).wp B.xq (FlowP B xo F0 eta0 H0 D')) :
  ∃ a vs,v = .ref a ∧ H a = some (.lst vs) ∧ RepL B F eta xs vs ∧ ∀ us,RepL B F eta ys us → D'.nx sg (upd H a (.lst us)):=by
 obtain ⟨a,vs,rfl,rl,hh⟩:=r.lst y.st hi hs ht
 refine ⟨a,vs,rfl,hh,rl,fun us ru => ?_⟩
 cases s with
 | frz _ _=>exact k.elim
 | str _=>exact k.elim
 | slot i zs =>
  obtain ⟨h1,h2⟩:=r
  obtain ⟨b,ws,q1,q2,q3,q4,q5⟩:=y.st.sl i _ h1
  rw [h2] at q1
  cases q1
  exact k _ _ F eta (y.write (z':=.ol ys) h1 rfl h2 q4 q5 rfl (fun q=>by cases q) ⟨a,us,h2,upd_same,ru,q4,q5⟩)
 | cell n =>
  obtain ⟨b,h1,h2⟩:=r
  cases h2
  exact k _ _ F eta (y.cell h1 ⟨us,upd_same,ru⟩)
def idxS (fx : Env → Wd → R D) (fs : Env → Wd → R Src) (fb : Env → Wd → R D) : Env → Wd → R Fl:=fun e W=>(fx e W).bind fun d W=>(fs e W).bind fun s W=>(fb e W).bind fun i W =>
  if s.isStr || s.isTup then .st else (opt ((items W s).bind fun xs=>setAt xs i d) W).bind fun ys W=>putList s ys e W
theorem zZMm {px : Expr} {p2 : Pos} {fx : Env → Wd → R D} (ha' : ∀ v,assign (.Subscript pa pb p2) X.env v = (do
   let ov ← holding [v] (eval pa X.env)
   let iv ← holding [v,ov] (eval pb X.env)
   standAt p2
   holding [v,ov,iv] (setItem ov iv v)
   release [v,ov,iv] [])) (hx : EOk B X px fx) (ha : SOk B X pa fs) (hb : EOk B X pb fb) :
  POk B X (.Assign [.Subscript pa pb p2] px pos) (idxS fx fs fb):=by
 obtain ⟨tx,hx,kx⟩:=hx
 obtain ⟨ta,ha,ka⟩:=ha
 obtain ⟨tb,hb,kb⟩:=hb
 refine ⟨_,ps_asg hx (pg_sub ha hb set_list ha') (zZFq (fun _ _ h=>by cases h) _ _) (zZH9 _) rfl,fun xo F0 eta0 H0 W0 e W sg H F eta De o y k => ?_⟩
 refine kx e W sg H F eta _ y.st ?_
 unfold idxS at k
 rw [R.wp_bind] at k
 refine R.wp_mono k fun d W1 k v H1 F1 eta1 o1 x1 r1 => ?_
 rw [R.wp_bind] at k
 have y1:=y.ext2 o x1 o1
 refine ka e W1 sg H1 F1 eta1 _ y1.st (R.wp_mono k fun s W2 k u H2 F2 eta2 o2 x2 r2 => ?_)
 rw [R.wp_bind] at k
 have y2:=y1.ext2 o x2 o2
 refine kb e W2 sg H2 F2 eta2 _ y2.st (R.wp_mono k fun i W3 k w H3 F3 eta3 o3 x3 r3 => ?_)
 have y3:=y2.ext2 o x3 o3
 split at k
 ·exact k.elim
 ·rename_i hs
  simp only [Bool.or_eq_true,not_or,Bool.not_eq_true] at hs
  rw [R.wp_bind] at k
  obtain ⟨ys,q,k⟩:=zZD k
  simp only [Option.bind_eq_some_iff] at q
  obtain ⟨xs,hi,q⟩:=q
  obtain ⟨a,vs,rfl,hh,rl,kk⟩:=zZHv y3 (r2.ext x3) hi hs.1 hs.2 k
  cases r3 with
  | int j =>
   simp only [setAt,Option.map_eq_some_iff] at q
   obtain ⟨m,q1,rfl⟩:=q
   exact ⟨a,vs,j,m,rfl,rfl,hh,by rw [← rl.length]; exact q1,kk _ (rl.set (r1.mono (x2.sub.trans x3.sub) (x2.pre.trans x3.pre)) m)⟩
  | _=>cases q
def appS (fs : Env → Wd → R Src) (fx : Env → Wd → R D) : Env → Wd → R Fl:=fun e W=>(fs e W).bind fun s W=>if !lstSrc W s then .st else (fx e W).bind fun d W=>(opt (items W s) W).bind fun xs W=>if xs.length < cap then putList s (xs ++ [d]) e W else .st
theorem zZIv {apos p2 : Pos} (hba : attributeBase pa "append" X.env (eval pa X.env) = eval pa X.env) (hl : (apos.endLine == p2.line) = true) (hn : notStar pb = true) (ha : SOk B X pa fs) (hb : EOk B X pb fb) :
  POk B X (.Expr (.Call (.Attribute pa "append" apos) [pb] [] p2) pos) (appS fs fb):=by
 obtain ⟨ta,ha,ka⟩:=ha
 obtain ⟨tb,hb,kb⟩:=hb
 refine ⟨_,ps_expr (pe_bm PySem.F.plainAttrs_list PySem.F.slot_list_append PySem.F.type_list_append mt_append ha (pa_cons hb pa_nil (star1 hn _ _)) hba (by rw [star1 hn]; rfl) hl (star1 hn _ _) rfl) (zZAE rfl _ _ _),fun xo F0 eta0 H0 W0 e W sg H F eta De o y k => ?_⟩
 refine ka e W sg H F eta _ y.st ?_
 unfold appS at k
 rw [R.wp_bind] at k
 refine R.wp_mono k fun s W1 k v H1 F1 eta1 o1 x1 r1 => ?_
 have y1:=y.ext2 o x1 o1
 split at k
 ·exact k.elim
 ·rename_i hs
  simp only [Bool.not_eq_true',Bool.not_eq_false] at hs
  obtain ⟨ty,z1,z2⟩:=zZGg y1.st r1 hs X.K
  refine ⟨ty, ?_⟩
  rw [R.wp_bind] at k
  refine kb e W1 sg H1 F1 eta1 _ y1.st (R.wp_mono k fun d W2 k u H2 F2 eta2 o2 x2 r2 => ?_)
  have y2:=y1.ext2 o x2 o2
  rw [R.wp_bind] at k
  obtain ⟨xs,hi,k⟩:=zZD k
  split at k
  ·rename_i hlt
   obtain ⟨a,vs,rfl,hh,rl,kk⟩:=zZHv y2 (r1.ext x2) hi z1 z2 k
   exact ⟨a,vs,u,rfl,rfl,hh,by rw [← rl.length]; exact Nat.lt_of_lt_of_le hlt zZb,kk _ (rl.append (.cons r2 .nil))⟩
  ·exact k.elim
/-- list.extend with a tuple of any make -/
theorem zZNL (l b : Addr) (xs ys : Array Value) (n n2 : Nat) (d0 : Option Addr) (sl : Array (Option Value)) (h1 : ¬(!xs.isEmpty && Builtin.List.listTooLong (xs.size + ys.size)) = true) (h2 : xs.size ≤ sizeLine) (h3 : (xs ++ ys).size ≤ sizeLine + 1) :
  Meets (Builtin.«list.extend» ⟨[.ref l,.ref b],[]⟩) (fun _ R s=>s.heap.get? l = some ⟨.type "list",none,.seq xs n,#[]⟩ ∧ s.heap.get? b = some ⟨.type "tuple",d0,.seq ys n2,sl⟩ ∧ R (.ok (.ret .none)) { s with heap:=s.heap.update l (Obj.mapSeq fun x=>x ++ ys),toks:=s.toks }):=by
 refine .of_wp fun prog w A R s h => ?_
 obtain ⟨hp,gs,dr,tk,oss⟩:=s
 obtain ⟨hl,hb,h⟩:=h
 have i1:=AutoSeq1.idx_int
 have i2:=AutoSeq1.sub_tuple_tuple
 have i3:=AutoSeq1.sub_list_list
 have i4:=AutoSeq1.sub_tuple_list
 have i5:=AutoSeq1.sub_list_tuple
 wp_walk using (wpAny_updateSeq hl rfl (hz:=h2) (_hz':=h3)),AutoSeq1.wpAny_loadPart' hl,AutoSeq1.wpAny_loadPart' hb
 exact ⟨_,rfl,h⟩
def rExtB (K : PySem.W.Frag) : V → List V → Hp → VK → Prop:=fun x vs H Q => ∃ l b xs zs,x = .ref l ∧ vs = [.ref b] ∧ H l = some (.lst xs) ∧ (H b = some (.lst zs) ∨ SqT K H b zs) ∧ xs.length + zs.length ≤ sizeLine ∧ Q .non (upd H l (.lst (xs ++ zs)))
theorem zZMN : MtM X "list.extend" (rExtB X.K):=by
 intro pins s σ H x vs v us Q I rx rv h
 obtain ⟨l,b,xs,zs,rfl,rfl,hH,hB,hz,q⟩:=h
 rcases hB with hB | hB
 ·exact mt_extend pins s σ H _ _ v us Q I rx rv ⟨l,b,xs,zs,rfl,rfl,hH,hB,hz,q⟩
 cases rx
 obtain ⟨u,rfl,ru⟩:=rv.one
 cases ru
 obtain ⟨z,its,n,r,hl,e⟩:=I.lstM hH
 obtain ⟨its2,r2,⟨⟨oc,od,oa,os⟩,e2,ec,n2,ed⟩,_⟩:=I.tuple hB
 dsimp only at ec ed
 subst ec ed
 have hl2:=r2.length
 have hsz : its.toArray.size + its2.toArray.size ≤ sizeLine:=by rw [List.size_toArray,List.size_toArray]; omega
 have hlong : ¬ (!its.toArray.isEmpty && Builtin.List.listTooLong (its.toArray.size + its2.toArray.size)) = true:=by
  unfold Builtin.List.listTooLong
  rw [decide_eq_false (by omega),Bool.and_false]
  simp
 refine call_meets F.slot_list_extend ⟨_,e,rfl⟩ F.entry_list_extend (F.args_list_extend_2 _ _)
  (zZNL l b its.toArray its2.toArray n n2 od os hlong (by rw [List.size_toArray]; omega) (by rw [Array.size_append]; omega)) ⟨e,e2, ?_⟩
 refine ⟨.non,_,I.lset (its':=its ++ its2) hH e (by simp) (r.append r2) ?_,rfl,q⟩
 rw [List.length_append]
 omega
def extS (fs fs2 : Env → Wd → R Src) : Env → Wd → R Fl:=fun e W=>(fs e W).bind fun s W=>if !lstSrc W s then .st else (fs2 e W).bind fun s2 W=>(opt (items W s) W).bind fun xs W =>
  match s2 with
  | .frz ys _=>if xs.length + ys.length ≤ cap then putList s (xs ++ ys) e W else .st
  | _=>.st
theorem zZIp {apos p2 : Pos} (hba : attributeBase pa "extend" X.env (eval pa X.env) = eval pa X.env) (hl : (apos.endLine == p2.line) = true) (hn : notStar pb = true) (ha : SOk B X pa fs) (hb : SOk B X pb fs2) :
  POk B X (.Expr (.Call (.Attribute pa "extend" apos) [pb] [] p2) pos) (extS fs fs2):=by
 obtain ⟨ta,ha,ka⟩:=ha
 obtain ⟨tb,hb,kb⟩:=hb
 refine ⟨_,ps_expr (pe_bm PySem.F.plainAttrs_list PySem.F.slot_list_extend PySem.F.type_list_extend zZMN ha (pa_cons hb pa_nil (star1 hn _ _)) hba (by rw [star1 hn]; rfl) hl (star1 hn _ _) rfl) (zZAE rfl _ _ _),fun xo F0 eta0 H0 W0 e W sg H F eta De o y k => ?_⟩
 refine ka e W sg H F eta _ y.st ?_
 unfold extS at k
 rw [R.wp_bind] at k
 refine R.wp_mono k fun s W1 k v H1 F1 eta1 o1 x1 r1 => ?_
 have y1:=y.ext2 o x1 o1
 split at k
 ·exact k.elim
 ·rename_i hs
  simp only [Bool.not_eq_true',Bool.not_eq_false] at hs
  obtain ⟨ty,z1,z2⟩:=zZGg y1.st r1 hs X.K
  refine ⟨ty, ?_⟩
  rw [R.wp_bind] at k
  refine kb e W1 sg H1 F1 eta1 _ y1.st (R.wp_mono k fun s2 W2 k u H2 F2 eta2 o2 x2 r2 => ?_)
  have y2:=y1.ext2 o x2 o2
  rw [R.wp_bind] at k
  obtain ⟨xs,hi,k⟩:=zZD k
  cases s2 with
  | frz ys d =>
   simp only [] at k
   split at k
   ·rename_i hlt
    obtain ⟨a,vs,rfl,hh,rl,kk⟩:=zZHv y2 (r1.ext x2) hi z1 z2 k
    obtain ⟨rr,hd⟩:=r2
    rcases hd with rfl | rfl
    ·cases rr with
     | lst h r=>exact ⟨a,_,vs,_,rfl,rfl,hh,.inl (o2.sub _ _ h),by rw [← rl.length,← r.length]; exact Nat.le_trans hlt zZb,kk _ (rl.append r)⟩
    ·cases rr with
     | tup h r=>exact ⟨a,_,vs,_,rfl,rfl,hh,.inr (h.mono o2.sub).sq,by rw [← rl.length,← r.length]; exact Nat.le_trans hlt zZb,kk _ (rl.append r)⟩
   ·exact k.elim
  | _=>exact k.elim
end
end DL
set_option maxRecDepth 100000
set_option maxHeartbeats 4000000
namespace DL
open PySem PySem.Spec PyProof.Rows
open L2 hiding St
section
variable {B : Tb} {X : Cx} {xo : Addr} {tg py pa pb pc : Expr} {pos p : Pos} {fa fb fc : Env → Wd → R D} {fs fs2 fs3 : Env → Wd → R Src}
variable {e e' : Env} {sg sg' : L2.St} {F F' H H' F0 H0 : Hp} {eta eta' eta0 : List Addr} {W W' W0 : Wd} {st : Stmt} {sts sts2 : List Stmt} {f g : Env → Wd → R Fl}
theorem zZLz (hc : TOk B X pc (tv fc)) (ha : BOk B X sts f) (hb : BOk B X sts2 g) : POk B X (.If pc sts sts2 pos) (fun e W=>(fc e W).bind fun x W=>(opt (truD x) W).bind fun k W=>if k then f e W else g e W):=by
 obtain ⟨tc,hc,kc⟩:=hc
 obtain ⟨ta,ha,ka⟩:=ha
 obtain ⟨tb,hb,kb⟩:=hb
 refine ⟨_,ps_if hc ha hb,fun xo F0 eta0 H0 W0 e W sg H F eta De o y k => ?_⟩
 refine kc e W sg H F eta _ y.st ?_
 unfold tv
 dsimp only at k
 rw [R.wp_bind] at k ⊢
 refine R.wp_mono k fun x W1 k => ?_
 rw [R.wp_bind] at k
 refine R.wp_mono k fun b W2 k H1 F1 eta1 o1 x1 => ?_
 have y1:=y.ext2 o x1 o1
 cases b with
 | true=>exact iteT (ka xo F0 eta0 H0 W0 e W2 sg H1 F1 eta1 De o y1 k)
 | false=>exact iteF (kb xo F0 eta0 H0 W0 e W2 sg H1 F1 eta1 De o y1 k)
theorem unbaseExt {F0 F1 F H0 H1 H : Hp} {eta0 eta1 eta : List Addr} (x : Ext F0 eta0 H0 F1 eta1 H1) (y : Ext F1 eta1 H0 F eta H) : Ext F0 eta0 H0 F eta H:=by
 refine ⟨x.sub.trans y.sub,x.pre.trans y.pre,fun a o h hn=>y.keep a o h fun z => ?_,fun a h => ?_,fun a h => ?_⟩
 ·rcases x.newE a z with q | q
  ·exact hn q
  ·rw [h] at q; cases q
 ·rcases y.newF a h with q | q
  ·exact x.newF a q
  ·exact .inr q
 ·rcases y.newE a h with q | q
  ·exact x.newE a q
  ·exact .inr q
theorem Fr0.rebase {F1 H1 : Hp} {eta1 : List Addr} (x : Ext F0 eta0 H0 F1 eta1 H1) (y : Fr0 B xo F0 eta0 H0 e W sg H F eta) (s : SubH F1 F) (p : eta1 <+: eta) : Fr0 B xo F1 eta1 H0 e W sg H F eta:=by
 refine ⟨y.st,⟨s,p,fun a o h hn=>y.ext.keep a o h fun z=>hn (x.pre.subset z),fun a h => ?_,fun a h => ?_⟩,y.new⟩
 ·rcases y.ext.newF a h with q | q
  ·refine .inl fun z=>q ?_
   cases w : F0 a with
   | none=>rfl
   | some u=>rw [x.sub a u w] at z; cases z
  ·exact .inr q
 ·rcases y.ext.newE a h with q | q
  ·exact .inl (x.pre.subset q)
  ·exact .inr q
theorem Fr0.unbase {F1 H1 : Hp} {eta1 : List Addr} (x : Ext F0 eta0 H0 F1 eta1 H1) (y : Fr0 B xo F1 eta1 H0 e W sg H F eta) : Fr0 B xo F0 eta0 H0 e W sg H F eta ∧ SubH F1 F ∧ eta1 <+: eta:=by
 refine ⟨⟨y.st,unbaseExt x y.ext,y.new⟩,y.ext.sub,y.ext.pre⟩
theorem zZJV {n : Nat} (hp : PassesOwn (model X.prog X.w) X.A X.env X.xe) (hc : TOk B X pc (tv fc)) (ha : BOk B X sts f) : POk B X (.While pc sts [] pos) (fun e W=>whileL fc f n e W):=by
 obtain ⟨tc,hc,kc⟩:=hc
 obtain ⟨ta,ha,ka⟩:=ha
 refine ⟨_,ps_while hp hc ha,fun xo F0 eta0 H0 W0 e W sg H F eta De o y k => ?_⟩
 refine ⟨fun m sg H => ∃ (e : Env) (W : Wd) (F : Hp) (eta : List Addr),Fr0 B xo F0 eta0 H0 e W sg H F eta ∧ (whileL fc f m e W).wp B.xq (FlowP B xo F0 eta0 H0 De),⟨n,e,W,F,eta,y,k⟩, ?_⟩
 rintro m sg H ⟨e,W,F,eta,y,k⟩
 cases m with
 | zero=>exact k.elim
 | succ m =>
  unfold whileL at k
  refine kc e W sg H F eta _ y.st ?_
  unfold tv
  rw [R.wp_bind] at k ⊢
  refine R.wp_mono k fun x W1 k => ?_
  rw [R.wp_bind] at k
  refine R.wp_mono k fun b W2 k H1 F1 eta1 o1 x1 => ?_
  have y1:=y.ext2 o x1 o1
  cases b with
  | false=>exact iteF (k sg H1 F1 eta1 y1)
  | true =>
   refine iteT ⟨fun sg' H' => ∃ (e : Env) (W : Wd) (F : Hp) (eta : List Addr),Fr0 B xo F0 eta0 H0 e W sg' H' F eta ∧ (whileL fc f m e W).wp B.xq (FlowP B xo F0 eta0 H0 De),fun sg' H' h=>⟨m,Nat.lt_succ_self m,h⟩, ?_⟩
   rw [if_pos rfl,R.wp_bind] at k
   refine ka xo F0 eta0 H0 W0 e W2 sg H1 F1 eta1 _ o y1 (R.wp_mono k fun fl W3 k => ?_)
   cases fl with
   | nx e3=>exact fun sg3 H3 F3 eta3 y3=>⟨e3,W3,F3,eta3,y3,k⟩
   | ct e3=>exact fun sg3 H3 F3 eta3 y3=>⟨e3,W3,F3,eta3,y3,k⟩
   | bk e3=>exact fun sg3 H3 F3 eta3 y3=>k sg3 H3 F3 eta3 y3
   | rt d=>exact k
theorem zZMD {t : Tg} {iter : Expr} {fi : Env → Wd → R (List D × Bool)} (hp : PassesOwn (model X.prog X.w) X.A X.env X.xe) (hc : X.calm = true) (hs : ∀ x,foldedSetIterable iter X.env x = pure x) (hi : ItOk B X tg iter fi) (hg : GOk B X tg (tgD t) (tgN t)) (ha : BOk B X sts f) :
  POk B X (.For tg iter sts [] pos) (fun e W=>(fi e W).bind fun ds W=>if ds.2 then .st else forL (tgD t) f ds.1 e W):=by
 obtain ⟨ti,hi,ki⟩:=hi
 obtain ⟨_,tg',hg,kg⟩:=hg
 obtain ⟨ta,ha,ka⟩:=ha
 refine ⟨_,ps_for hp hc hi hg ha hs,fun xo F0 eta0 H0 W0 e W sg H F eta De o y k => ?_⟩
 refine ki e W sg H F eta _ y.st ?_
 dsimp only at k
 rw [R.wp_bind] at k
 refine R.wp_mono k fun ds W1 k J H1 F1 eta1 o1 x1 it => ?_
 obtain ⟨ds,sl⟩:=ds
 dsimp only at k it
 cases sl with
 | true=>exact k.elim
 | false =>
  rw [if_neg (by decide)] at k
  have y1:=y.ext2 o x1 o1
  let Good : Nat → L2.St → Hp → Prop:=fun i sg H => ∃ (e : Env) (W : Wd) (F : Hp) (eta : List Addr),Fr0 B xo F0 eta0 H0 e W sg H F eta ∧ SubH F1 F ∧ eta1 <+: eta ∧ (forL (tgD t) f (ds.drop i) e W).wp B.xq (FlowP B xo F0 eta0 H0 De)
  refine ⟨fun i m sg H=>m = ds.length - i ∧ i ≤ ds.length ∧ Good i sg H,⟨ds.length,by simp,Nat.zero_le _,e,W1,F1,eta1,y1,SubH.refl _,List.prefix_refl _,by simpa using k⟩, ?_⟩
  rintro i m sg2 H2 ⟨rfl,hi,e2,W2,F2,eta2,y2,s2,p2,k2⟩
  have per : Per B e sg F1 eta1 false F2 eta2 H2:=⟨s2,p2,fun q=>by cases q⟩
  by_cases hlt : i < ds.length
  ·obtain ⟨go,yl⟩:=it.step i ds[i] F2 eta2 W2 H2 (by simp [hlt]) y2.st.ok per
   refine .inr ⟨go,Good (i + 1),fun sg' H' p'=>⟨ds.length - (i + 1),by omega,rfl,hlt,p'⟩,fun v H3 yy => ?_⟩
   obtain ⟨F3,o3,x3,r3⟩:=yl v H3 yy
   have y3:=y2.ext2 o x3 o3
   rw [List.drop_eq_getElem_cons hlt] at k2
   unfold forL at k2
   rw [R.wp_bind] at k2
   obtain ⟨e4,q4,k2⟩:=zZD k2
   refine kg ds[i] v e2 e4 W2 sg2 H3 F3 eta2 _ y3.st r3 q4 fun sg4 st4 w4 => ?_
   have y4:=y3.tgt st4 w4 (zZEu q4)
   rw [R.wp_bind] at k2
   refine ka xo F1 eta1 H0 W1 e4 W2 sg4 H3 F3 eta2 _ trivial (y4.rebase y1.ext (s2.trans x3.sub) (p2.trans x3.pre)) (R.wp_mono k2 fun fl W5 k2 => ?_)
   cases fl with
   | nx e5=>exact fun sg5 H5 F5 eta5 y5=>let z:=y5.unbase y1.ext; ⟨e5,W5,F5,eta5,z.1,z.2.1,z.2.2,k2⟩
   | ct e5=>exact fun sg5 H5 F5 eta5 y5=>let z:=y5.unbase y1.ext; ⟨e5,W5,F5,eta5,z.1,z.2.1,z.2.2,k2⟩
   | bk e5=>exact fun sg5 H5 F5 eta5 y5=>k2 sg5 H5 F5 eta5 (y5.unbase y1.ext).1
   | rt d=>exact fun v H5 F5 eta5 o5 x5 r5=>k2 v H5 F5 eta5 o5 (unbaseExt y1.ext x5) r5
  ·have ei : i = ds.length:=by omega
   subst ei
   rw [List.drop_length] at k2
   unfold forL at k2
   exact .inl ⟨it.stop F2 eta2 W2 H2 y2.st.ok per,k2 sg2 H2 F2 eta2 y2⟩
/-- an own list or dict is frozen -/
def frzS (i : Nat) : Env → Wd → R Fl:=fun e W=>match e[i]? with | some (.ol xs)=>.ok (.nx (e.set i (.val (.lst xs)))) W | some (.od kvs)=>.ok (.nx (e.set i (.val (.dtt kvs)))) W | some (.val _)=>.ok (.nx e) W | _=>.st
theorem Fr0.freezeG (y : Fr0 B xo F0 eta0 H0 e W sg H F eta) {i : Nat} {z : Slot} {a : Addr} {u : HO} {d : D} (h : e[i]? = some z) (hz : z.owned = true) (q1 : sg[i]? = some (some (V.ref a))) (q2 : H a = some u) (q4 : F a = none) (q5 : a ∉ eta) (q6 : Rep B (upd F a u) eta d (.ref a)) : Fr0 B xo F0 eta0 H0 (e.set i (.val d)) W sg H (upd F a u) eta:=by
 have hi : i < e.length:=(List.getElem?_eq_some_iff.mp h).1
 have h0:=(y.new i _ a h hz q1).1
 have hx0:=(y.new i _ a h hz q1).2.2
 have s1 : SubH F (upd F a u):=zZr q4
 refine ⟨⟨y.st.ok.frz q2 q4 q5,by simp [y.st.len],fun j w hj => ?_,fun j k sj sk b g1 g2 o1 o2 r1 r2 => ?_,y.st.xr,y.st.xl,⟨y.st.xx.sub.trans s1,y.st.xx.pre,y.st.xx.keep,fun b hb => ?_,y.st.xx.newE⟩⟩,⟨y.ext.sub.trans s1,y.ext.pre,y.ext.keep,fun b hb => ?_,y.ext.newE⟩,fun j w b g1 g2 g3 => ?_⟩
 ·by_cases hij : i = j
  ·subst hij
   rw [List.getElem?_set_self hi] at hj
   cases hj
   exact ⟨_,q1,q6⟩
  ·rw [List.getElem?_set_ne hij] at hj
   have q:=y.st.sl j w hj
   have hne : ∀ b,w.owned = true → sg[j]? = some (some (V.ref b)) → b ≠ a:=fun b hw hb z=>by
    subst z
    exact hij (y.st.un i j _ _ b h hj hz hw q1 hb)
   cases w with
   | no=>trivial
   | val d=>obtain ⟨v,z1,z2⟩:=q; exact ⟨v,z1,z2.mono s1 (List.prefix_refl _)⟩
   | ol ys=>obtain ⟨b,ws,z1,z2,z3,z4,z5⟩:=q; exact ⟨b,ws,z1,z2,z3.mono s1 (List.prefix_refl _),by rw [upd_ne (hne b rfl z1)]; exact z4,z5⟩
   | oi c fs=>obtain ⟨b,dx,gs,z1,z2,z3,z4,z5⟩:=q; exact ⟨b,dx,gs,z1,z2,z3.mono s1 (List.prefix_refl _),by rw [upd_ne (hne b rfl z1)]; exact z4,z5⟩
   | od kvs=>obtain ⟨b,xs,ep,z1,z2,z3,z4,z5⟩:=q; exact ⟨b,xs,ep,z1,z2,z3.mono s1 (List.prefix_refl _),by rw [upd_ne (hne b rfl z1)]; exact z4,z5⟩
   | xv c p =>
    refine ⟨q.1,q.2.1, ?_⟩
    rcases q.2.2 with hh | ⟨x',v',dd,z1,z2,z3,z4,z5⟩
    ·exact .inl hh
    ·exact .inr ⟨x',v',dd,z1,z2,z3,z4.mono s1 (List.prefix_refl _),z5⟩
 ·have own : ∀ (j : Nat) (s : Slot),(e.set i (.val d))[j]? = some s → s.owned = true → e[j]? = some s:=fun j s g o=>by
   by_cases hj : i = j
   ·subst hj
    rw [List.getElem?_set_self hi] at g
    cases g
    cases o
   ·rw [List.getElem?_set_ne hj] at g; exact g
  exact y.st.un j k sj sk b (own j sj g1 o1) (own k sk g2 o2) o1 o2 r1 r2
 ·by_cases z : b = a
  ·subst z; exact .inr hx0
  ·rw [upd_ne z] at hb; exact y.st.xx.newF b hb
 ·by_cases z : b = a
  ·subst z; exact .inr h0
  ·rw [upd_ne z] at hb; exact y.ext.newF b hb
 ·by_cases hj : i = j
  ·subst hj
   rw [List.getElem?_set_self hi] at g1
   cases g1
   cases g2
  ·rw [List.getElem?_set_ne hj] at g1; exact y.new j w b g1 g2 g3
theorem Fr0.freeze (y : Fr0 B xo F0 eta0 H0 e W sg H F eta) {i : Nat} {xs : List D} (h : e[i]? = some (.ol xs)) : ∃ F',Fr0 B xo F0 eta0 H0 (e.set i (.val (.lst xs))) W sg H F' eta:=by
 obtain ⟨a,vs,q1,q2,q3,q4,q5⟩:=y.st.sl i _ h
 exact ⟨_,y.freezeG h rfl q1 q2 q4 q5 (.lst upd_same (q3.mono (zZr q4) (List.prefix_refl _)))⟩
theorem Fr0.freezeD (y : Fr0 B xo F0 eta0 H0 e W sg H F eta) {i : Nat} {kvs : List (List Int × D)} (h : e[i]? = some (.od kvs)) : ∃ F',Fr0 B xo F0 eta0 H0 (e.set i (.val (.dtt kvs))) W sg H F' eta:=by
 obtain ⟨a,xs,ep,q1,q2,q3,q4,q5⟩:=y.st.sl i _ h
 exact ⟨_,y.freezeG h rfl q1 q2 q4 q5 (.dtt upd_same (q3.mono (zZr q4) (List.prefix_refl _)))⟩
theorem zZI1 (i : Nat) (k : BOk B X sts f) : BOk B X sts (fun e W=>(frzS i e W).bind fun fl W=>match fl with | .nx e=>f e W | fl=>.ok fl W):=by
 obtain ⟨t,h,k⟩:=k
 refine ⟨t,h,fun xo F0 eta0 H0 W0 e W sg H F eta De o y q => ?_⟩
 rw [R.wp_bind] at q
 unfold frzS at q
 split at q
 ·rename_i xs hs
  obtain ⟨F',y'⟩:=y.freeze hs
  exact k xo F0 eta0 H0 W0 _ W sg H F' eta De o y' q
 ·rename_i xs hs
  obtain ⟨F',y'⟩:=y.freezeD hs
  exact k xo F0 eta0 H0 W0 _ W sg H F' eta De o y' q
 ·exact k xo F0 eta0 H0 W0 _ W sg H F eta De o y q
 ·exact q.elim
end
end DL
set_option maxRecDepth 100000
set_option maxHeartbeats 4000000
namespace DL
open PySem PySem.Spec PyProof.Rows
open L2 hiding St
/-- a class whose instances are raised -/
structure RaiAt (K : PySem.W.Frag) (mg : Str → Option Value) (C : Addr) (x : Str) : Prop where
 nm : mg x = some (.ref C)
 kp : PySem.W.keepIn K (.ref C) = true
 ex : ∃ (Bs newId initId : String) (bmB : List Value),ExcBaseFacts Bs newId initId bmB ∧ PySem.W.excIn K C bmB newId = true
 s1 : PySem.W.subIn K (.ref C) (.type "BaseException") = some true
 s2 : PySem.W.typeIn K (.ref C) = some (.type "type")
/-- what the classes of exceptions say to each other -/
def XmOk (B : Tb0) (K : PySem.W.Frag) (g : Cfg) : Prop := ∀ k c b,g.xm k c = some b → PySem.W.exmOne K (.ref (B.ca k)) (.ref (B.ca c)) = some b
def XisOk (B : Tb0) (K : PySem.W.Frag) (g : Cfg) : Prop := ∀ k c b,g.xis k c = some b → L2.ExcC K (B.ca k) ∧ PySem.W.kitOne K (.ref (B.ca k)) (.ref (B.ca c)) = some b
/-- an except suite's context -/
def XHot (B : Tb) (X : Cx) : Prop := ∃ (X0 : Cx) (oe : Obj) (pn : List (Addr × Obj)),X = X0.suite B.xa ((B.xa,oe) :: pn) ∧ Zc (.ref (B.ca B.xc)) B.xd oe ∧ (∃ vs,oe.data = .fields vs) ∧ PySem.PXN.CtxN oe
section
variable {B : Tb} {X : Cx} {xo : Addr} {pa pb : Expr} {pos p p2 p3 : Pos} {e e' : Env} {sg sg' : L2.St} {F F' H H' F0 H0 : Hp} {eta eta' eta0 : List Addr} {W W' W0 : Wd} {st : Stmt} {sts : List Stmt} {f g : Env → Wd → R Fl}
/-- isinstance(e,ValueError) -/
def XivOk (B : Tb0) (K : PySem.W.Frag) (g : Cfg) : Prop := ∀ k b,g.xiv k = some b → L2.ExcC K (B.ca k) ∧ PySem.W.kitOne K (.ref (B.ca k)) (.type "ValueError") = some b
theorem zZLl {X : Cx} {pins : List (Addr × Obj)} {σ : L2.St} {H1 H2 : Hp} {Q : XK} {hp hp2 h2 : Heap} {g1 g2 : Array GenState} {d1 d2 : Drawn} {t1 t2 : Nat} {os1 os2 : OsState} {a C d : Addr} {fs : List (Str × V)} (T : Raises X (.ref C)) (I1 : L2.Inv X pins σ H1 ⟨hp,g1,d1,t1,os1⟩)
  (ha : hp.objs.size ≤ a) (k : ∀ b o,hp.get? b = some o → hp2.get? b = some o) (un : Un (frs X.stack) [] (upd H1 a (exo a C none)) H2 hp2 h2) (hok : HOk X.prog X.w H2 h2) (ho : os2 = os1) (hb : AllBare g2)
  (ea : H2 a = some (exo a C (some d))) (ed : H2 d = some (exd d fs)) (hd1 : H1 d = none) (q : Q (.ref C) (some d) (upd (del H2 a) d (.xd fs))) : L2N.MkP X pins σ Q (.ref a) ⟨h2,g2,d2,t2,os2⟩:=by
 obtain ⟨t0,G,J,kG,ge,hoe,na⟩:=mk_end0 (d2:=d2) (t2:=t2) I1 ha k un hok ho hb ea ed hd1
 exact ⟨a,_,_,⟨G,g2,d2,t2,os2⟩,_,.ref C,some d,rfl,J,kG,ge,hoe,⟨rfl,rfl,fun vs h=>by cases h; rfl⟩,rfl,rfl,na,rfl,hb,T,q⟩
theorem zZK5 {X : Cx} {e : Expr} {es : List Expr} {ta : TA} {p pos : Pos} {CX : CXT} {x : Str} {C fI : Addr} {k : Nat} {fd : FuncData} {ps : List Str} {sp : Sp} {ds : List Value} {dvs : List V} (T : OexC X.K C) (iC : PySem.W.findIn X.K (.ref C) "__init__" = some (some (.ref fI))) (tI : PySem.W.typeIn X.K (.ref fI) = some (.type "function"))
  (F1 : FnOk X.prog X.w X.K X.mg X.base CX k fI fd ps sp) (hr : Room (k + 1) X.A) (hb : Binds X.K fd ps ds) (hd : Vals dvs ds) (hx : Passes CX X (fun _ _ _=>False)) (hg : Gl X x) (hm : X.mg x = some (.ref C)) (ha : PA X (e :: es) ta)
  (hdb : (x == ("__debug__" : Str)) = false) (he : starEach (e :: es) X.env = (false,eval e X.env) :: starEach es X.env) (hpl : (backTo pos (starEach es X.env)).any (·.1) = false) :
  L2N.PMk X (.Call (.Name x p) (e :: es) [] pos) (tMkO C sp dvs ta):=by
 intro pins s σ H Q I h
 obtain ⟨nm,q,N,bs,bm,sn,sub,ab,col,dd,k0,k1,k2,k3,k5,hC,hbm⟩:=T.cls
 refine wpAny_Call_Name_kw (ld_glob I hg hm ?_ hdb)
 refine PySem.W.callWith_K (h₀:=X.base) I.ok.mod.kin T.kC (thn (ha.run pos pins s σ H _ I h) fun us s1 ⟨vs,H1,I1,r1,hz,q1⟩=>⟨I1.kIn, ?_⟩) he hpl
 show wpAny _ _ (call (.ref C) us) _ _ _
 obtain ⟨hp,g,dr,tk,os⟩:=s1
 have hsz : hp.objs.size ≤ hp.objs.size + 1:=Nat.le_succ _
 have hn : H1 (hp.objs.size + 1) = none:=I1.hok.fresh hsz
 have hq:=q1 (hp.objs.size + 1) hn
 have kk : ∀ b o,hp.get? b = some o → ((hp.push (PySem.W.kdv_tup us)).push (PySem.HandSPX.excO C hp.objs.size)).get? b = some o:=fun b o e=>Heap.get?_push_of_some _ (Heap.get?_push_of_some _ e)
 have hget : ((hp.push (PySem.W.kdv_tup us)).push (PySem.HandSPX.excO C hp.objs.size)).get? (hp.objs.size + 1) = some (PySem.HandSPX.excO C hp.objs.size):=by heap_get
 have I2 : L2.Inv X pins σ (upd H1 (hp.objs.size + 1) (exo (hp.objs.size + 1) C none)) ⟨(hp.push (PySem.W.kdv_tup us)).push (PySem.HandSPX.excO C hp.objs.size),g,dr,tk,os⟩ :=
  I1.laid (t':=tk) (a:=hp.objs.size + 1) (o:=exo (hp.objs.size + 1) C none) (h':=(hp.push (PySem.W.kdv_tup us)).push (PySem.HandSPX.excO C hp.objs.size)) kk hsz (exo_ok hget)
 have r2 : Vals (V.ref (hp.objs.size + 1) :: (vs ++ dvs)) (Value.ref (hp.objs.size + 1) :: (us ++ ds)):=.cons rfl (r1.append hd)
 have hl : (Value.ref (hp.objs.size + 1) :: us ++ ds).length = ps.length:=by
  have e:=r2.length
  rw [F1.len _ _ _ _ hq] at e
  exact e.symm
 have hus : us.length ≤ sizeLine:=by
  rw [← Paired.length r1,sizeLine_eq]
  omega
 refine wpAny_call (PySem.HandSPX.call_own F.excBase_ValueError (fun Y=>PySem.HandSPX.refsVE_contains Y bm hbm) (I1.kIn _ _ hC) (PySem.W.looks_findIn I1.kIn iC) (fun self=>PySem.W.bind_fn I1.kIn self tI) hus
  (codeAny_mono (F1.run _ X.stack _ _ ⟨Value.ref (hp.objs.size + 1) :: us,[]⟩ (Value.ref (hp.objs.size + 1) :: (us ++ ds)) _ _ (fun _ _ _=>False) (hr.make C us []) (I2.env0.make C us []) (hb _ (Value.ref (hp.objs.size + 1) :: us) I2.kIn hl) r2 hq) fun r s' hq' => ?_))
 cases r with
 | error er=>exact hx pins σ _ _ er s' I2 hq'
 | ok fl =>
  cases fl with
  | ret u =>
   obtain ⟨v,H2,os2,bare2,un2,hok2,rv,ev,d,fs,ea,ed,hd1,q2⟩:=hq'
   subst ev
   obtain ⟨h2,g2,d2,t2,os'⟩:=s'
   exact ⟨rv,zZLl (raises_own T.exC T.tyC) I1 hsz kk un2 hok2 os2 bare2 ea ed hd1 q2⟩
  | next=>exact False.elim hq'
  | brk=>exact False.elim hq'
  | cont=>exact False.elim hq'
structure RaeAt (B : Tb0) (P : Program) (w : World) (K : PySem.W.Frag) (mg : Str → Option Value) (base : Heap) (c : Nat) (x : Str) : Prop where
 nm : mg x = some (.ref (B.ca c))
 T : OexC K (B.ca c)
 ex : ∃ (fI : Addr) (fd : FuncData) (ps : List Str),PySem.W.findIn K (.ref (B.ca c)) "__init__" = some (some (.ref fI)) ∧ PySem.W.typeIn K (.ref fI) = some (.type "function") ∧ FnOk P w K mg base (L2N.CX P w) 0 fI fd ps (spX (B.ca c) (B.fn (B.xf c))) ∧ Binds K fd ps []
theorem zZJb {c : Nat} {x : Str} {fa : Env → Wd → R D} (ha : EOk B X pa fa) (hl : XLk B X) (hc : X.calm = true) (hr : Room 1 X.A) (hg : Gl X x) (hd : (x == ("__debug__" : Str)) = false) (hn : notStar pa = true) (r : RaeAt B.toTb0 X.prog X.w X.K X.mg X.base c x) :
  POk B X (.Raise (some (.Call (.Name x p) [pa] [] p3)) none pos) (fun e W=>(fa e W).bind fun d W=>.ex c (.tup [d]) W):=by
 obtain ⟨fI,fd,ps,i1,i2,Fn,hb⟩:=r.ex
 obtain ⟨ta,ha,ka⟩:=ha
 refine ⟨_,L2N.ps_raise hc hl.tk (zZK5 r.T i1 i2 Fn hr hb .nil passLN hg r.nm (pa_cons ha pa_nil (star1 hn _ _)) hd (star1 hn _ _) rfl),fun xo F0 eta0 H0 W0 e W sg H F eta D o y k => ?_⟩
 refine ka e W sg H F eta _ y.st ?_
 rw [R.wp_bind] at k
 refine R.wp_mono k fun d W1 k v H1 F1 eta1 o1 x1 r1 => ?_
 refine ⟨by show 1 ≤ 1000; decide,fun a hH=>⟨a,v,H1,rfl,rfl,hH,fun dd hdd hne=>⟨rfl,dd,[(B.fn (B.xf c),v)],upd_same, ?_,hdd, ?_⟩⟩⟩
 ·rw [upd_ne hne,upd_same]
 ·have e1 : upd (del (upd (upd (upd H1 a (exo a (B.ca c) none)) dd (exd dd [(B.fn (B.xf c),v)])) a (exo a (B.ca c) (some dd))) a) dd (.xd [(B.fn (B.xf c),v)]) = upd H1 dd (.xd [(B.fn (B.xf c),v)]):=by
   funext b
   by_cases hb2 : b = dd
   ·subst hb2; rw [upd_same,upd_same]
   ·rw [upd_ne hb2,upd_ne hb2]
    by_cases hb3 : b = a
    ·subst hb3; rw [del_same,hH]
    ·rw [del_ne hb3,upd_ne hb3,upd_ne hb2,upd_ne hb3]
  rw [e1]
  refine hl.lk c (.tup [d]) W1 sg _ F1 eta1 _ _ k (o1.new hdd) (Ext.trans' (B:=B) trivial o1 (Ext.trans' (B:=B) trivial y.st.ok y.st.xx x1) (Ext.new hdd)) y.st.xr y.st.xl ⟨rfl,.inr ⟨d,v,dd,rfl,rfl,upd_same,r1,o1.notE hdd⟩⟩
/-- what the fields of exceptions are -/
def XfOk (B : Tb0) (K : PySem.W.Frag) (g : Cfg) : Prop := ∀ k f,g.xf k = some f → B.xf k = f ∧ XfC K (B.ca k) ∧ PySem.W.findIn K (.ref (B.ca k)) (B.fn f) = some none
end
end DL
set_option maxRecDepth 100000
set_option maxHeartbeats 4000000
namespace DL
open PySem PySem.Spec PyProof.Rows
open L2 hiding St
def kept (n : Nat) (w : List Nat) : List Nat:=(List.range n).filter fun i => !w.contains i
section
variable {B : Tb} {X : Cx} {xo : Addr} {pos np pos' : Pos} {e e' : Env} {sg sg' : L2.St} {F F' H H' F0 H0 : Hp} {eta eta' eta0 : List Addr} {W W' W0 : Wd} {body suite : List Stmt} {b0 : Stmt}
/-- slots that hold plain data stand for it at another base,too -/
theorem Fr0.plain {B2 : Tb} (y : Fr0 B xo F0 eta0 H0 e W sg H F eta) (hB : B2.toTb0 = B.toTb0) {e2 : Env} {sg2 : L2.St} {W2 : Wd} {H2 F2 : Hp} {eta2 : List Addr} (o2 : OkH B F2 eta2 W2 H2) (x2 : Ext F eta H F2 eta2 H2) (hl : e2.length = sg2.length)
  (hs : ∀ (j : Nat) (s : Slot),e2[j]? = some s → s = .no ∨ (∃ d,s = .val d ∧ e[j]? = some (.val d) ∧ sg2[j]? = sg[j]?) ∨ (∃ k p,s = .xv k p ∧ sg2[j]? = some (some (.ref B2.xa)) ∧ k = B2.xc ∧ XPay B2.toTb0 F2 eta2 H2 k p B2.xd)) (hr : ∀ i ∈ B2.xk,sg2[i]? = B2.xs[i]?) (hn : sg2.length = B2.xn) (hx : Ext B2.xF B2.xeta B2.xH F2 eta2 H2) : Fr0 B2 xo F0 eta0 H0 e2 W2 sg2 H2 F2 eta2:=by
 obtain ⟨T0,a1,a2,ad,a3,a4,a5,an,a6,a7,a8,a9⟩:=B2
 dsimp only at hB
 subst hB
 refine ⟨⟨o2,hl,fun j s h => ?_,fun j k sj sk a h1 h2 q1 q2 => ?_,hr,hn,hx⟩,Ext.trans' (B:=B) trivial y.st.ok y.ext x2,fun j z a h1 h2 h3 => ?_⟩
 ·rcases hs j s h with rfl | ⟨d,rfl,h1,h2⟩ | ⟨k,p,rfl,h1,h2,h3⟩
  ·trivial
  ·obtain ⟨v,g1,g2⟩:=y.st.sl j _ h1
   exact ⟨v,by rw [h2]; exact g1,g2.mono x2.sub x2.pre⟩
  ·exact ⟨h1,h2,h3⟩
 ·rcases hs j sj h1 with rfl | ⟨d,rfl,_⟩ | ⟨k,p,rfl,_⟩ <;> cases q1
 ·rcases hs j z h1 with rfl | ⟨d,rfl,_⟩ | ⟨k,p,rfl,_⟩ <;> cases h2
end
end DL
set_option maxRecDepth 100000
set_option maxHeartbeats 4000000
namespace DL
open PySem PySem.Spec PyProof.Rows
open L2 hiding St
section
variable {B : Tb} {X : Cx} {py pa pb pc : Expr} {pos p : Pos} {fa fb fc : Env → Wd → R D} {fs fs2 : Env → Wd → R Src} {e : Env} {sg : L2.St} {F F' H H' : Hp} {eta eta' : List Addr} {W W' : Wd}
def rInDG (K : PySem.W.Frag) (neg : Bool) : R2:=fun x y H Q => ∃ d ds,Dp K H x d ∧ (Dp K H y (.list ds) ∨ Dp K H y (.tuple ds)) ∧ SeqAt.shaped d = true ∧ SeqAt.shaped (.list ds) = true ∧ Q (.bl (if neg then !(ds.any fun z=>PyData.eqv z d) else (ds.any fun z=>PyData.eqv z d))) H
def inOp (neg : Bool) : CmpOp:=if neg then .NotIn else .In
theorem zZMa (neg : Bool) (hu : X.A.units + 65 < cLine) : OpR X (compareOp (inOp neg)) (rInDG X.K neg):=by
 intro pins s σ H x y v u Q I rx ry h
 obtain ⟨d,ds,hd,he,sd,se,q⟩:=h
 obtain ⟨as,r1⟩:=Dp.reads I d x v hd rx
 rcases he with he | he
 ·obtain ⟨bs,r2⟩:=Dp.reads I (.list ds) y u he ry
  cases neg
  ·exact SeqAt.in_list_reads r2 r1 (SeqAt.canLay_of_shaped se) (SeqAt.canLay_of_shaped sd) (room_in_shaped sd hu) ⟨.bl _,H,I,rfl,q⟩
  ·exact SeqAt.notIn_list_reads r2 r1 (SeqAt.canLay_of_shaped se) (SeqAt.canLay_of_shaped sd) (room_in_shaped sd hu) ⟨.bl _,H,I,rfl,q⟩
 ·obtain ⟨bs,r2⟩:=Dp.reads I (.tuple ds) y u he ry
  cases neg
  ·exact SeqAt.in_tuple_reads r2 r1 (SeqAt.canLay_of_shaped se) (SeqAt.canLay_of_shaped sd) (room_in_shaped sd hu) ⟨.bl _,H,I,rfl,q⟩
  ·exact SeqAt.notIn_tuple_reads r2 r1 (SeqAt.canLay_of_shaped se) (SeqAt.canLay_of_shaped sd) (room_in_shaped sd hu) ⟨.bl _,H,I,rfl,q⟩
/-- {"k": v,..} -/
def DOk (B : Tb) (X : Cx) (pos : Pos) (keys : List (Option Expr)) (vals : List Expr) (ks : List Str) (f : Env → Wd → R (List D)) : Prop := ∃ trs,PPs X pos keys vals trs ∧ ∀ (e : Env) (W : Wd) (sg : L2.St) (H F : Hp) (eta : List Addr) (Q : List (V × V) → Hp → Prop),Stt B e W sg H F eta →
 (f e W).wp B.xq (fun ds W' => ∀ (vs : List V) (H' F' : Hp) (eta' : List Addr),OkH B F' eta' W' H' → Ext F eta H F' eta' H' → RepL B F' eta' ds vs → ds.length = ks.length → Q ((ks.map V.str).zip vs) H') → tPairs trs sg H Q
theorem zZMl : DOk B X pos [] [] [] (fun _ W=>.ok [] W):=⟨_,pps_nil,fun e W sg H F eta Q s k=>k [] H F eta s.ok (Ext.refl _ _ _) .nil rfl⟩
theorem zZKH {keys : List (Option Expr)} {vals : List Expr} {k0 : Str} {j : Nat} {kp : Pos} {ks : List Str} {fr : Env → Wd → R (List D)} (ha : EOk B X pa fa) (hr : DOk B X pos keys vals ks fr) :
  DOk B X pos (some (.Constant (.str k0) j kp) :: keys) (pa :: vals) (k0 :: ks) (fun e W=>(fa e W).bind fun x W=>(fr e W).bind fun xs W=>.ok (x :: xs) W):=by
 obtain ⟨ta,ha,ka⟩:=ha
 obtain ⟨tr,hr,kr⟩:=hr
 refine ⟨_,pps_cons pe_str ha hr,fun e W sg H F eta Q s k => ?_⟩
 show ta sg H _
 refine ka e W sg H F eta _ s ?_
 rw [R.wp_bind] at k
 refine R.wp_mono k fun x W1 k v H1 F1 eta1 o1 x1 r1 => ?_
 rw [R.wp_bind] at k
 refine kr e W1 sg H1 F1 eta1 _ (s.ext x1 o1) (R.wp_mono k fun xs W2 k vs H2 F2 eta2 o2 x2 r2 hl => ?_)
 exact k (v :: vs) H2 F2 eta2 o2 (Ext.trans s.ok o1 x1 x2) (.cons (r1.mono x2.sub x2.pre) r2) (by simp [hl])
theorem zZGU {x : D} {v : V} {n : Nat} {xs : List D} (o : OkH B F eta W H) (r : Rep B F eta x v) (h : cellL x W = some (n,xs)) : ∃ a vs,v = .ref a ∧ eta[n]? = some a ∧ H a = some (.lst vs) ∧ RepL B F eta xs vs ∧ W[n]? = some (.lst xs):=by
 cases r with
 | own h1 =>
  unfold cellL at h
  dsimp only at h
  split at h
  ·rename_i hw
   cases h
   obtain ⟨vs,e,r⟩:=o.cell _ _ _ h1 hw
   exact ⟨_,vs,rfl,h1,e,r,hw⟩
  ·cases h
 | _=>simp [cellL] at h
theorem RepL.dropLast {d : List D} {v : List V} (r : RepL B F eta d v) : RepL B F eta d.dropLast v.dropLast:=by
 rw [List.dropLast_eq_take,List.dropLast_eq_take,r.length]
 exact r.take _
theorem RepL.erase {d : List D} {v : List V} (i : Nat) (r : RepL B F eta d v) : RepL B F eta (d.eraseIdx i) (v.eraseIdx i):=by
 rw [List.eraseIdx_eq_take_drop_succ,List.eraseIdx_eq_take_drop_succ]
 exact (r.take _).append (r.drop _)
end
end DL
set_option maxRecDepth 100000
set_option maxHeartbeats 4000000
namespace DL
open PySem PySem.Spec PyProof.Rows
open L2 hiding St
theorem zZGd {M : Model} {A : Around} {E : Value → Shared → Prop} {s : Shared} {K : PySem.W.Frag} {x C : Addr} {ox : Obj} {od : Option Obj} {name : Str} {id : String} {args : List Value} {Q : Option Value → Shared → Prop} (X : K.In s.heap) (I : PySem.W.InstAt s.heap x ox C od) (hs : PySem.W.findIn K (.ref C) name = some (some (.builtin id)))
  (hb : ∀ self,bindSpecial (.builtin id) self = pure (.builtin id,[self])) (h : wpAny M A (call (.builtin id) (.ref x :: args)) (fun v=>Q (some v)) E s) : wpAny M A (callSpecialIfBound? (.ref x) name args) Q E s:=by
 simp only [callSpecialIfBound?,bindSpecialIfBound?]
 refine wpAny_holding (wpAny_bind (wpAny_bind (wpAny_bind (I.type.here ((PySem.W.looks_findIn X hs).here ?_)))))
 simp only [hb]
 refine wpAny_bind (wpAny_askSetting (wpAny_ite ?_))
 have fin : wpAny M A (call (.builtin id) ([.ref x] ++ args) >>= fun v=>pure (some v)) Q E s:=wpAny_bind (wpAny_mono h (fun v s' h'=>wpAny_pure h') fun _ _ h'=>h')
 split
 ·exact wpAny_bind (wpAny_pure (wpAny_pure (by exact fin)))
 ·exact wpAny_tryCatch (wpAny_bind (wpAny_pure (wpAny_pure (by exact fin))))
def rOwnNe (X : Cx) (k : Nat) : R2:=fun x y H Q => ∃ (a dx C : Addr) (fs : List (Str × V)) (b dy C' : Addr) (gs : List (Str × V)) (q : Addr) (sp : Sp),x = .ref a ∧ y = .ref b ∧ H a = some (.ins C dx fs) ∧ H b = some (.ins C' dy gs) ∧
 (PySem.W.findIn X.K (.ref C) "__ne__" = some (some (.builtin "object.__ne__")) ∧ PySem.W.mroIn X.K C (.type "object") = some true) ∧
 PySem.W.findIn X.K (.ref C) "__eq__" = some (some (.ref q)) ∧ PySem.W.isFn X.K (.ref q) = true ∧ PySem.W.notFirst X.K C (.ref C') = true ∧ FnR X.prog X.w X.K X.mg X.base (L2N.CX X.prog X.w) k q sp ∧ sp [x,y] H (fun z H' => ∃ b,z = .bl b ∧ Q (.bl (!b)) H') E0
theorem zZKc {X : Cx} {k : Nat} (hr : Room (k + 1) X.A) : OpR X (compareOp .NotEq) (rOwnNe X k):=by
 intro pins s σ H x y v u Q I rx ry h
 obtain ⟨a,dx,C,fs,b,dy,C',gs,q,sp,rfl,rfl,ha,hb,⟨hne,hmr⟩,hs,hf,hn,Fn,hq⟩:=h
 cases (show v = Value.ref a from rx)
 cases (show u = Value.ref b from ry)
 obtain ⟨mA,O,_⟩:=ins_get I.hok ha
 obtain ⟨mB,O',_⟩:=ins_get I.hok hb
 obtain ⟨od,J,_⟩:=O.look
 obtain ⟨od',J',_⟩:=O'.look
 obtain ⟨m,hF⟩:=I.fr
 have KX:=(I.ok.mod.kin).keeps hF.keep
 show wpAny (model X.prog X.w) X.A (richCompare .NotEq (.ref a) (.ref b)) (fun w s' => ∃ w' H',Inv X pins σ H' s' ∧ RelV w' w ∧ Q w' H') X.xe s
 have one : wpAny (model X.prog X.w) X.A (tryCompare (.ref a) "__ne__" (.ref b)) (fun r s' => ∃ v,r = some v ∧ ∃ w' H',Inv X pins σ H' s' ∧ RelV w' v ∧ Q w' H') X.xe s:=by
  unfold tryCompare
  refine wpAny_bind (zZGd KX J hne PySem.F.cmp_object.ne.bind (wpAny_call (codeAny_call_builtin PySem.F.cmp_object.ne.plain PySem.F.cmpEntry_ne (PySem.W.check_slot PySem.F.cmpKind_ne PySem.F.cmpSplit_ne (J.type.andThen (PySem.W.looks_mroIn KX hmr)) (PySem.F.cmpArgs_ne _ _) ?_))))
  have hu : X.A.in1.units < cLine:=(zZCu (j:=1) hr (by decide)).units0
  have run : ∀ {Q2 : Option Value → Shared → Prop} {E2 : Value → Shared → Prop},(∀ b s' H',Inv X pins σ H' s' → Q (.bl (!b)) H' → Q2 (some (.bool b)) s') → wpAny (model X.prog X.w) X.A.in1 (callSpecialIfBound? (.ref a) "__eq__" [.ref b]) Q2 E2 s:=by
   intro Q2 E2 h2
   refine PySem.W.ifBound_K KX J hs hf ?_
   refine wpAny_mono (wpAny_call (zZJd (j:=1) (us:=[.ref a,.ref b]) (ws:=[.ref a,.ref b]) Fn hr (by decide) I (.cons rfl (.cons rfl .nil)) hq)) (fun w s' z => ?_) fun _ _ x=>x
   obtain ⟨z',H',I',rz,b',e1,q1⟩:=z
   subst e1
   cases (show w = Value.bool b' from rz)
   exact h2 b' s' H' I' q1
  unfold Builtin.«object.__ne__»
  repeat (first | with_reducible refine wpAny_cRoomFor hu ?_ | with_reducible refine run (fun b' s' H' I' q1 => ?_) | wp_step)
  exact ⟨_,rfl,.bl (!b'),H',I',rfl,q1⟩
 unfold richCompare
 simp only [oneThing_ref]
 refine wpAny_holding (wpAny_bind (wpAny_cRoomFor (zZCu (j:=0) hr (by decide)).units0 ?_))
 refine wpAny_bind (J.type.here (wpAny_bind (J'.type.here ?_)))
 split
 ·rename_i qq
  have e : PySem.W.subIn X.K (.ref C') (.ref C) = some false:=by
   rcases Bool.or_eq_true_iff.mp hn with e | e
   ·rw [beq_iff_eq.mp e] at qq; simp at qq
   ·exact beq_iff_eq.mp e
  refine wpAny_bind ((PySem.W.looks_subIn KX e).here ?_)
  simp only [Bool.false_eq_true,if_false]
  refine wpAny_bind (wpAny_mono one (fun r s' z => ?_) fun _ _ e=>e)
  obtain ⟨v,rfl,hq⟩:=z
  exact wpAny_pure hq
 ·refine wpAny_bind (wpAny_pure ?_)
  simp only [Bool.false_eq_true,if_false]
  refine wpAny_bind (wpAny_mono one (fun r s' z => ?_) fun _ _ e=>e)
  obtain ⟨v,rfl,hq⟩:=z
  exact wpAny_pure hq
def rNoneNe (X : Cx) (k : Nat) : R2:=fun x y H Q => ∃ (b dy C : Addr) (gs : List (Str × V)) (q : Addr) (sp : Sp),x = .non ∧ y = .ref b ∧ H b = some (.ins C dy gs) ∧
 (PySem.W.findIn X.K (.ref C) "__ne__" = some (some (.builtin "object.__ne__")) ∧ PySem.W.mroIn X.K C (.type "object") = some true) ∧
 PySem.W.findIn X.K (.ref C) "__eq__" = some (some (.ref q)) ∧ PySem.W.isFn X.K (.ref q) = true ∧ PySem.W.subIn X.K (.ref C) (.type "NoneType") = some false ∧ FnR X.prog X.w X.K X.mg X.base (L2N.CX X.prog X.w) k q sp ∧ sp [y,x] H (fun z H' => ∃ b,z = .bl b ∧ Q (.bl (!b)) H') E0
theorem zZJR {X : Cx} {k : Nat} (hr : Room (k + 1) X.A) : OpR X (compareOp .NotEq) (rNoneNe X k):=by
 intro pins s σ H x y v u Q I rx ry h
 obtain ⟨b,dy,C,gs,q,sp,rfl,rfl,hb,⟨hne,hmr⟩,hs,hf,hn,Fn,hq⟩:=h
 cases (show v = Value.none from rx)
 cases (show u = Value.ref b from ry)
 obtain ⟨mB,O',_⟩:=ins_get I.hok hb
 obtain ⟨od',J',_⟩:=O'.look
 obtain ⟨m,hF⟩:=I.fr
 have KX:=(I.ok.mod.kin).keeps hF.keep
 show wpAny (model X.prog X.w) X.A (richCompare .NotEq .none (.ref b)) (fun w s' => ∃ w' H',Inv X pins σ H' s' ∧ RelV w' w ∧ Q w' H') X.xe s
 have two : wpAny (model X.prog X.w) X.A (tryCompare .none "__ne__" (.ref b)) (fun r s'=>r = none ∧ s' = s) X.xe s :=
  wpAny_tryCompare_declines (show s.TypeIs .none "NoneType" from rfl) PySem.F.slot_NoneType_ne (call_gives PySem.F.slot_NoneType_ne rfl PySem.F.entry_NoneType_ne (PySem.F.args_NoneType_ne_2 _ _) (PySem.SeqAt.NoneType___ne___none_ref_0 b) ⟨rfl,rfl,rfl⟩)
 have one : wpAny (model X.prog X.w) X.A (tryCompare (.ref b) "__ne__" .none) (fun r s' => ∃ v,r = some v ∧ ∃ w' H',Inv X pins σ H' s' ∧ RelV w' v ∧ Q w' H') X.xe s:=by
  unfold tryCompare
  refine wpAny_bind (zZGd KX J' hne PySem.F.cmp_object.ne.bind (wpAny_call (codeAny_call_builtin PySem.F.cmp_object.ne.plain PySem.F.cmpEntry_ne (PySem.W.check_slot PySem.F.cmpKind_ne PySem.F.cmpSplit_ne (J'.type.andThen (PySem.W.looks_mroIn KX hmr)) (PySem.F.cmpArgs_ne _ _) ?_))))
  have hu : X.A.in1.units < cLine:=(zZCu (j:=1) hr (by decide)).units0
  have run : ∀ {Q2 : Option Value → Shared → Prop} {E2 : Value → Shared → Prop},(∀ b s' H',Inv X pins σ H' s' → Q (.bl (!b)) H' → Q2 (some (.bool b)) s') → wpAny (model X.prog X.w) X.A.in1 (callSpecialIfBound? (.ref b) "__eq__" [.none]) Q2 E2 s:=by
   intro Q2 E2 h2
   refine PySem.W.ifBound_K KX J' hs hf ?_
   refine wpAny_mono (wpAny_call (zZJd (j:=1) (us:=[.ref b,.none]) (ws:=[.ref b,.non]) Fn hr (by decide) I (.cons rfl (.cons rfl .nil)) hq)) (fun w s' z => ?_) fun _ _ x=>x
   obtain ⟨z',H',I',rz,b',e1,q1⟩:=z
   subst e1
   cases (show w = Value.bool b' from rz)
   exact h2 b' s' H' I' q1
  unfold Builtin.«object.__ne__»
  repeat (first | with_reducible refine wpAny_cRoomFor hu ?_ | with_reducible refine run (fun b' s' H' I' q1 => ?_) | wp_step)
  exact ⟨_,rfl,.bl (!b'),H',I',rfl,q1⟩
 simp only [richCompare,cmpInfo,(show s.TypeIs .none "NoneType" from rfl).oneThing_none]
 refine wpAny_holding (wpAny_bind (wpAny_cRoomFor (zZCu (j:=0) hr (by decide)).units0 ?_))
 refine wpAny_bind (wpAny_typeOf (show s.TypeIs .none "NoneType" from rfl) (wpAny_bind (J'.type.here ?_)))
 split
 ·refine wpAny_bind ((PySem.W.looks_subIn KX hn).here ?_)
  simp only [Bool.false_eq_true,if_false,Bool.not_false,if_true]
  refine wpAny_bind (m:=tryCompare .none _ (.ref b)) (wpAny_mono two (fun r s1 z => ?_) fun _ _ e=>e)
  obtain ⟨z1,z2⟩:=z
  subst z1
  subst z2
  refine wpAny_bind (m:=tryCompare (.ref b) _ .none) (wpAny_mono one (fun r s2 z => ?_) fun _ _ e=>e)
  obtain ⟨v,rfl,hq⟩:=z
  exact wpAny_pure hq
 ·rename_i q
  exact absurd (by simp) q
def rNe (X : Cx) (k : Nat) : R2:=fun x y H Q=>rOwnNe X k x y H Q ∨ rNoneNe X k x y H Q
theorem op_ne {X : Cx} {k : Nat} (hr : Room (k + 1) X.A) : OpR X (compareOp .NotEq) (rNe X k):=by
 intro pins s σ H x y v u Q I rx ry h
 rcases h with h | h
 ·exact zZKc hr _ _ _ _ _ _ _ _ _ I rx ry h
 ·exact zZJR hr _ _ _ _ _ _ _ _ _ I rx ry h
/-- what is known for != -/
def NemOk (B : Tb0) (P : Program) (w : World) (K : PySem.W.Frag) (mg : Str → Option Value) (base : Heap) (k : Nat) (g : Cfg) : Prop :=
 ∀ c c' f,g.nem c c' = some f → ∃ a,(PySem.W.findIn K (.ref (B.ca c)) "__ne__" = some (some (.builtin "object.__ne__")) ∧ PySem.W.mroIn K (B.ca c) (.type "object") = some true ∧ PySem.W.subIn K (.ref (B.ca c)) (.type "NoneType") = some false) ∧
  PySem.W.findIn K (.ref (B.ca c)) "__eq__" = some (some (.ref a)) ∧ PySem.W.isFn K (.ref a) = true ∧ PySem.W.notFirst K (B.ca c) (.ref (B.ca c')) = true ∧ FnR P w K mg base (L2N.CX P w) k a (spC B (g.call f))
section
variable {B : Tb} {X : Cx} {xo : Addr} {tg py pa pb pc : Expr} {pos p : Pos} {fa fb fc : Env → Wd → R D} {e : Env} {sg : L2.St} {F F' H H' F0 H0 : Hp} {eta eta' eta0 : List Addr} {W W' W0 : Wd} {sts : List Stmt} {f : Env → Wd → R Fl}
def PerC (B : Tb) (n : Nat) (a : Addr) (xs : List D) (F : Hp) (eta : List Addr) (H : Hp) : Prop:=eta[n]? = some a ∧ ∃ W,OkH B F eta W H ∧ W[n]? = some (.lst xs)
theorem srcC {n : Nat} {a : Addr} {xs : List D} (K : PySem.W.Frag) : ∀ (F' : Hp) (eta' : List Addr) (H' : Hp) (W' : Wd),OkH B F' eta' W' H' → PerC B n a xs F' eta' H' → ∃ vs,SqK .l K H' a vs ∧ RepL B F' eta' xs vs:=by
 rintro F' eta' H' W' o ⟨h1,W2,o2,h2⟩
 obtain ⟨vs,q1,q2⟩:=o2.cell n a _ h1 h2
 exact ⟨vs,SqL.of q1,q2⟩
theorem zZIQ {g : Cfg} {n : Nat} {xs : List D} {W : Wd} (h : ckL g n xs W = true) : W[n]? = some (.lst xs):=by
 unfold ckL at h
 simp only [Bool.and_eq_true,decide_eq_true_eq] at h
 obtain ⟨h1,h2⟩:=h
 have h3 : W.set n (.lst xs) = W:=h2
 rw [← h3]
 exact List.getElem?_set_self h1
theorem zZNJ {g : Cfg} {n : Nat} {xs : List D} {W : Wd} (h : W[n]? = some (.lst xs)) : ckL g n xs W = true:=by
 unfold ckL
 obtain ⟨h1,h2⟩:=List.getElem?_eq_some_iff.mp h
 rw [Bool.and_eq_true]
 refine ⟨decide_eq_true h1,@decide_eq_true _ (g.dw _ _) ?_⟩
 rw [← h2]
 exact List.set_getElem_self h1
/-- what is walked -/
def ItcOk (B : Tb) (X : Cx) (tg py : Expr) (en : Bool) (fa : Env → Wd → R D) : Prop := ∃ t : TI,PI X tg py t ∧ ∀ (e : Env) (W : Wd) (sg : L2.St) (H F : Hp) (eta : List Addr) (Q : L2.It → Hp → Prop),Stt B e W sg H F eta →
 ((fa e W).bind fun d W=>opt (cellL d W) W).wp B.xq (fun p W' => ∀ (J : L2.It) (H' F' : Hp) (eta' : List Addr) (a : Addr),OkH B F' eta' W' H' → Ext F eta H F' eta' H' → eta'[p.1]? = some a → W'[p.1]? = some (.lst p.2) → IterOk B J (enC en p.2) (PerC B p.1 a p.2) → Q J H') → t sg H Q
theorem zZLq (ha : EOk B X pa fa) : ItcOk B X tg pa false fa:=by
 obtain ⟨ta,ha,ka⟩:=ha
 refine ⟨_,zZId ha,fun e W sg H F eta Q s k => ?_⟩
 refine ka e W sg H F eta _ s ?_
 rw [R.wp_bind] at k
 refine R.wp_mono k fun x W1 k v H1 F1 eta1 o1 x1 r1 => ?_
 obtain ⟨⟨n,xs⟩,h1,k⟩:=zZD k
 obtain ⟨a,vs,rfl,g1,g2,rl,hw⟩:=zZGU o1 r1 h1
 exact ⟨a,.l,rfl,⟨vs,SqL.of g2⟩,k _ H1 F1 eta1 a o1 x1 g1 hw (zZHf (srcC X.K))⟩
theorem zZK7 {elts : List Expr} {kk : Nat} {tpos : Pos} (hg : Gl X "enumerate") (hm : X.mg "enumerate" = none) (hn : notStar pa = true) (ha : EOk B X pa fa) : ItcOk B X (.Tuple elts kk tpos) (.Call (.Name "enumerate" p) [pa] [] pos) true fa:=by
 obtain ⟨ta,ha,ka⟩:=ha
 refine ⟨_,zZKA hg hm hn (pa_cons ha pa_nil (star1 hn _ _)),fun e W sg H F eta Q s k => ?_⟩
 refine ka e W sg H F eta _ s ?_
 rw [R.wp_bind] at k
 refine R.wp_mono k fun x W1 k v H1 F1 eta1 o1 x1 r1 => ?_
 obtain ⟨⟨n,xs⟩,h1,k⟩:=zZD k
 obtain ⟨a,vs,rfl,g1,g2,rl,hw⟩:=zZGU o1 r1 h1
 exact ⟨a,.l,vs,rfl,SqL.of g2,k _ H1 F1 eta1 a o1 x1 g1 hw (zZJA (srcC X.K))⟩
def forcS (g : Cfg) (t : Tg) (en : Bool) (fa : Env → Wd → R D) (f : Env → Wd → R Fl) : Env → Wd → R Fl:=fun e W=>(fa e W).bind fun d W=>(opt (cellL d W) W).bind fun p W=>forK (ckL g p.1 p.2) (tgD t) f (enC en p.2) e W
theorem zZKU {g : Cfg} {t : Tg} {en : Bool} {iter : Expr} (hp : PassesOwn (model X.prog X.w) X.A X.env X.xe) (hc : X.calm = true) (hs : ∀ x,foldedSetIterable iter X.env x = pure x) (hi : ItcOk B X tg iter en fa) (hg : GOk B X tg (tgD t) (tgN t)) (ha : BOk B X sts f) :
  POk B X (.For tg iter sts [] pos) (forcS g t en fa f):=by
 obtain ⟨ti,hi,ki⟩:=hi
 obtain ⟨_,tg',hg,kg⟩:=hg
 obtain ⟨ta,ha,ka⟩:=ha
 refine ⟨_,ps_for hp hc hi hg ha hs,fun xo F0 eta0 H0 W0 e W sg H F eta De o y k => ?_⟩
 refine ki e W sg H F eta _ y.st ?_
 unfold forcS at k
 rw [← R.bind_assoc,R.wp_bind] at k
 refine R.wp_mono k fun pp W1 k J H1 F1 eta1 a o1 x1 ga gw it => ?_
 obtain ⟨n,xs⟩:=pp
 dsimp only at k it ga gw
 generalize hds : enC en xs = ds at *
 have y1:=y.ext2 o x1 o1
 let Good : Nat → L2.St → Hp → Prop:=fun i sg H => ∃ (e : Env) (W : Wd) (F : Hp) (eta : List Addr),Fr0 B xo F0 eta0 H0 e W sg H F eta ∧ SubH F1 F ∧ eta1 <+: eta ∧ (forK (ckL g n xs) (tgD t) f (ds.drop i) e W).wp B.xq (FlowP B xo F0 eta0 H0 De)
 refine ⟨fun i m sg H=>m = ds.length - i ∧ i ≤ ds.length ∧ Good i sg H,⟨ds.length,by simp,Nat.zero_le _,e,W1,F1,eta1,y1,SubH.refl _,List.prefix_refl _,by simpa using k⟩, ?_⟩
 rintro i m sg2 H2 ⟨rfl,hi,e2,W2,F2,eta2,y2,s2,p2,k2⟩
 have hck : ckL g n xs W2 = true:=by
  unfold forK at k2
  cases hq : ds.drop i with
  | nil=>rw [hq] at k2; dsimp only at k2; split at k2 <;> first | assumption | exact k2.elim
  | cons _ _=>rw [hq] at k2; dsimp only at k2; split at k2 <;> first | assumption | exact k2.elim
 have per : PerC B n a xs F2 eta2 H2:=⟨zZCx p2 ga,W2,y2.st.ok,zZIQ hck⟩
 by_cases hlt : i < ds.length
 ·obtain ⟨go,yl⟩:=it.step i ds[i] F2 eta2 W2 H2 (by simp [hlt]) y2.st.ok per
  refine .inr ⟨go,Good (i + 1),fun sg' H' p'=>⟨ds.length - (i + 1),by omega,rfl,hlt,p'⟩,fun v H3 yy => ?_⟩
  obtain ⟨F3,o3,x3,r3⟩:=yl v H3 yy
  have y3:=y2.ext2 o x3 o3
  rw [List.drop_eq_getElem_cons hlt] at k2
  unfold forK at k2
  rw [if_pos hck,R.wp_bind] at k2
  obtain ⟨e4,q4,k2⟩:=zZD k2
  refine kg ds[i] v e2 e4 W2 sg2 H3 F3 eta2 _ y3.st r3 q4 fun sg4 st4 w4 => ?_
  have y4:=y3.tgt st4 w4 (zZEu q4)
  rw [R.wp_bind] at k2
  refine ka xo F1 eta1 H0 W1 e4 W2 sg4 H3 F3 eta2 _ trivial (y4.rebase y1.ext (s2.trans x3.sub) (p2.trans x3.pre)) (R.wp_mono k2 fun fl W5 k2 => ?_)
  cases fl with
  | nx e5=>exact fun sg5 H5 F5 eta5 y5=>let z:=y5.unbase y1.ext; ⟨e5,W5,F5,eta5,z.1,z.2.1,z.2.2,k2⟩
  | ct e5=>exact fun sg5 H5 F5 eta5 y5=>let z:=y5.unbase y1.ext; ⟨e5,W5,F5,eta5,z.1,z.2.1,z.2.2,k2⟩
  | bk e5=>exact fun sg5 H5 F5 eta5 y5=>k2 sg5 H5 F5 eta5 (y5.unbase y1.ext).1
  | rt d=>exact fun v H5 F5 eta5 o5 x5 r5=>k2 v H5 F5 eta5 o5 (unbaseExt y1.ext x5) r5
 ·have ei : i = ds.length:=by omega
  subst ei
  rw [List.drop_length] at k2
  unfold forK at k2
  rw [if_pos hck] at k2
  exact .inl ⟨it.stop F2 eta2 W2 H2 y2.st.ok per,k2 sg2 H2 F2 eta2 y2⟩
theorem zZH1 {elt : Env → Wd → R D} {tst : Env → Wd → R Bool} {tgf : D → Env → Option Env} {ns : List Nat} {J : L2.It} {ds : List D} {F1 H1 : Hp} {eta1 : List Addr} {W1 : Wd} {Dn : Addr} {Qd : Hp → Prop}
  (hxk : ∀ i ∈ ns,i ∉ B.xk) (st1 : Stt B e W1 sg H1 F1 eta1) {ck : Wd → Bool} {Pq : Hp → List Addr → Hp → Prop} (it : IterOk B J ds Pq) (hP : ∀ (W : Wd) (F : Hp) (eta : List Addr) (H : Hp),OkH B F eta W H → Ext F1 eta1 H1 F eta H → ck W = true → Pq F eta H) (hD : H1 Dn = none) (hz : ds.length ≤ cap)
  (k : (compKT ck (fun d=>tgf d (wipeE e ns)) (fun e W=>(tst e W).bind fun k W=>.ok (.bl k) W) elt ds W1).wp B.xq fun xs W' => ∀ (vs : List V) (H' F' : Hp) (eta' : List Addr),OkH B F' eta' W' H' → Ext F1 eta1 H1 F' eta' H' → H' Dn = some (.lst vs) → F' Dn = none → Dn ∉ eta' → RepL B F' eta' xs vs → Qd H') :
  ∃ W : Nat → Nat → Hp → Prop,(∃ m,W 0 m (upd H1 Dn (.lst []))) ∧ ∀ i m H,W i m H →
 (J.stop i H ∧ Qd H) ∨ (J.go i H ∧ ∃ Nx : Hp → Prop,(∀ H',Nx H' → ∃ m',m' < m ∧ W (i + 1) m' H') ∧ ∀ x H',J.yld i H x H' → canG B.mute tgf ns x (wipe sg ns) H' fun σ2 H2=>wipe σ2 ns = wipe sg ns ∧ canT B.mute tst σ2 H2 fun b H3 =>
  if b = true then canE B.mute elt σ2 H3 fun y H4 => ∃ acc,H4 Dn = some (.lst acc) ∧ acc.length < sizeLine ∧ Nx (upd H4 Dn (.lst (acc ++ [y]))) else Nx H3):=by
 let Good : Nat → Hp → Prop:=fun i H => ∃ (F : Hp) (eta : List Addr) (Wc : Wd) (acc : List V) (accD : List D),OkH B F eta Wc H ∧ Ext F1 eta1 H1 F eta H ∧ H Dn = some (.lst acc) ∧ F Dn = none ∧ Dn ∉ eta ∧ RepL B F eta accD acc ∧ accD.length ≤ i ∧
  (compKT ck (fun d=>tgf d (wipeE e ns)) (fun e W=>(tst e W).bind fun k W=>.ok (.bl k) W) elt (ds.drop i) Wc).wp B.xq fun xs W' => ∀ (vs : List V) (H' F' : Hp) (eta' : List Addr),OkH B F' eta' W' H' → Ext F1 eta1 H1 F' eta' H' → H' Dn = some (.lst vs) → F' Dn = none → Dn ∉ eta' → RepL B F' eta' (accD ++ xs) vs → Qd H'
 refine ⟨fun i m H=>m = ds.length - i ∧ i ≤ ds.length ∧ Good i H,⟨ds.length,by simp,Nat.zero_le _,F1,eta1,W1,[],[],st1.ok.new hD,Ext.new hD,upd_same,st1.ok.notF hD,st1.ok.notE hD,.nil,by simp, ?_⟩, ?_⟩
 ·simpa using k
 rintro i m H ⟨rfl,hi,F,eta,Wc,acc,accD,o,x,hDn,hF,hE,rl,hlen,kk⟩
 have hck : ck Wc = true:=by
  unfold compKT at kk
  cases hq : ds.drop i with
  | nil=>rw [hq] at kk; dsimp only at kk; split at kk <;> first | assumption | exact kk.elim
  | cons _ _=>rw [hq] at kk; dsimp only at kk; split at kk <;> first | assumption | exact kk.elim
 have per : Pq F eta H:=hP Wc F eta H o x hck
 by_cases hlt : i < ds.length
 ·obtain ⟨go,yl⟩:=it.step i ds[i] F eta Wc H (by simp [hlt]) o per
  refine .inr ⟨go,Good (i + 1),fun H' p'=>⟨ds.length - (i + 1),by omega,rfl,hlt,p'⟩,fun v H2 y => ?_⟩
  obtain ⟨F2,o2,x2,r2⟩:=yl v H2 y
  have y2:=Ext.trans st1.ok o x x2
  have st2:=(st1.ext y2 o2).wipe ns hxk
  rw [List.drop_eq_getElem_cons hlt] at kk
  unfold compKT at kk
  rw [if_pos hck,R.wp_bind] at kk
  obtain ⟨e2,q,kk⟩:=zZD kk
  have hD2 : H2 Dn = some (.lst acc):=x2.keep Dn _ hDn hE
  have hF2 : F2 Dn = none:=by
   cases q : F2 Dn with
   | none=>rfl
   | some u =>
    rcases x2.newF Dn (by rw [q]; simp) with z | z
    ·exact absurd hF z
    ·rw [hDn] at z; cases z
  refine ⟨ds[i],_,e2,Wc,F2,eta,st2.mute,r2,q,fun sg3 st3 w3=>⟨?_, ?_⟩⟩
  ·have:=w3 ns fun i h=>h
   rw [this]
   exact zZGk sg ns ns fun i h=>h
  ·rw [R.wp_bind] at kk
   replace kk:=R.wp_calm (y:=B.mute.xq) kk
   rw [R.wp_bind] at kk
   refine ⟨e2,Wc,F2,eta,st3,R.wp_mono kk fun bb W4 kk H4 F4 eta4 o4 x4 => ?_⟩
   have y4:=Ext.trans st1.ok o2 y2 x4
   have hD4 : H4 Dn = some (.lst acc):=x4.keep Dn _ hD2 hE
   have hF4 : F4 Dn = none:=by
    cases q : F4 Dn with
    | none=>rfl
    | some u =>
     rcases x4.newF Dn (by rw [q]; simp) with z | z
     ·exact absurd hF2 z
     ·rw [hD2] at z; cases z
   have hE4 : Dn ∉ eta4:=fun z=>by
    rcases x4.newE Dn z with q | q
    ·exact hE q
    ·rw [hD2] at q; cases q
   simp only [R.wp_ok] at kk
   cases bb with
   | true =>
    refine iteT ?_
    simp only [] at kk
    rw [R.wp_bind] at kk
    replace kk:=R.wp_calm (y:=B.mute.xq) kk
    refine ⟨e2,W4,F4,eta4,st3.ext x4 o4,R.wp_mono kk fun d5 W5 kk w5 H5 F5 eta5 o5 x5 r5 => ?_⟩
    have y5:=Ext.trans st1.ok o4 y4 x5
    have hD5 : H5 Dn = some (.lst acc):=x5.keep Dn _ hD4 hE4
    have hF5 : F5 Dn = none:=by
     cases q : F5 Dn with
     | none=>rfl
     | some u =>
      rcases x5.newF Dn (by rw [q]; simp) with z | z
      ·exact absurd hF4 z
      ·rw [hD4] at z; cases z
    have hE5 : Dn ∉ eta5:=fun z=>by
     rcases x5.newE Dn z with q | q
     ·exact hE4 q
     ·rw [hD4] at q; cases q
    have hl : acc.length < sizeLine:=by rw [← rl.length]; exact Nat.lt_of_lt_of_le (Nat.lt_of_le_of_lt hlen (Nat.lt_of_lt_of_le hlt hz)) zZb
    refine ⟨acc,hD5,hl,F5,eta5,W5,acc ++ [w5],accD ++ [d5],o5.writeO hF5 hE5,⟨y5.sub,y5.pre,fun a u ha hn => ?_,y5.newF,y5.newE⟩,upd_same,hF5,hE5,((rl.mono ((x2.sub.trans x4.sub).trans x5.sub) (x4.pre.trans x5.pre)).append (.cons r5 .nil)),by simp; omega, ?_⟩
    ·have hne : a ≠ Dn:=ne_of_none ha hD
     rw [upd_ne hne]
     exact y5.keep a u ha hn
    ·rw [R.wp_bind] at kk
     refine R.wp_mono kk fun xs W6 kk vs H' F' eta' o' x' h1 h2 h3 h4 => ?_
     refine kk vs H' F' eta' o' x' h1 h2 h3 ?_
     simpa using h4
   | false =>
    refine iteF ?_
    simp only [] at kk
    exact ⟨F4,eta4,W4,acc,accD,o4,y4,hD4,hF4,hE4,rl.mono (x2.sub.trans x4.sub) x4.pre,by omega,kk⟩
 ·have ei : i = ds.length:=by omega
  subst ei
  rw [List.drop_length] at kk
  unfold compKT at kk
  rw [if_pos hck,R.wp_ok,List.append_nil] at kk
  exact .inl ⟨it.stop F eta Wc H o per,kk acc H F eta o x hDn hF hE rl⟩
def compCF (g : Cfg) (en : Bool) (elt : Env → Wd → R D) (tst : Env → Wd → R Bool) (tgf : D → Env → Option Env) (ns : List Nat) (fa : Env → Wd → R D) : Env → Wd → R (List D):=fun e W=>(fa e W).bind fun d W=>(opt (cellL d W) W).bind fun p W =>
 if (enC en p.2).length ≤ cap then compKT (ckL g p.1 p.2) (fun d=>tgf d (wipeE e ns)) (fun e W=>(tst e W).bind fun k W=>.ok (.bl k) W) elt (enC en p.2) W else .st
theorem zZF3 {g : Cfg} {en : Bool} {elt : Env → Wd → R D} {tst : Env → Wd → R Bool} {tgf : D → Env → Option Env} {ns : List Nat} {wi : TI}
  (hxk : ∀ i ∈ ns,i ∉ B.xk) (ki : ∀ (e : Env) (W : Wd) (sg : L2.St) (H F : Hp) (eta : List Addr) (Q : L2.It → Hp → Prop),Stt B e W sg H F eta →
   ((fa e W).bind fun d W=>opt (cellL d W) W).wp B.xq (fun p W' => ∀ (J : L2.It) (H' F' : Hp) (eta' : List Addr) (a : Addr),OkH B F' eta' W' H' → Ext F eta H F' eta' H' → eta'[p.1]? = some a → W'[p.1]? = some (.lst p.2) → IterOk B J (enC en p.2) (PerC B p.1 a p.2) → Q J H') → wi sg H Q)
  (e : Env) (W : Wd) (sg : L2.St) (H F : Hp) (eta : List Addr) (Q : VK) (s : Stt B e W sg H F eta)
  (k : (compCF g en elt tst tgf ns fa e W).wp B.xq (fun ds W' => ∀ (a : Addr) (vs : List V) (H' F' : Hp) (eta' : List Addr),OkH B F' eta' W' H' → Ext F eta H F' eta' H' → H a = none → H' a = some (.lst vs) → F' a = none → a ∉ eta' → RepL B F' eta' ds vs → Q (.ref a) H')) :
  tLc wi (canG B.mute tgf ns) (canT B.mute tst) (canE B.mute elt) ns sg H Q:=by
 refine ki e W sg H F eta _ s ?_
 unfold compCF at k
 rw [← R.bind_assoc,R.wp_bind] at k
 refine R.wp_mono k fun pp W1 k J H1 F1 eta1 a o1 x1 ga gw it Dn hD => ?_
 obtain ⟨n,xs⟩:=pp
 dsimp only at k it ga gw
 split at k
 ·rename_i hz
  refine zZH1 hxk (s.ext x1 o1) it (fun W' F' eta' H' o p hk=>⟨zZCx p.pre ga,W',o,zZIQ hk⟩) hD hz (R.wp_mono k fun xs W2 k vs H' F' eta' o' x' h1 h2 h3 h4 => ?_)
  exact k Dn vs H' F' eta' o' (Ext.trans s.ok o1 x1 x') (x1.there s.ok o1 hD) h1 h2 h3 h4
 ·exact k.elim
theorem zZJn {g : Cfg} {en : Bool} {pelt iter : Expr} {ifs : List Expr} {scope : Scope} {elt : Env → Wd → R D} {tst : Env → Wd → R Bool} {tgf : D → Env → Option Env} {ns : List Nat}
  (hxk : ∀ i ∈ ns,i ∉ B.xk) (hc : X.calm = true) (hN : X.N.Nodup) (hb : blkC X.N X.env.scope scope (ownOf X.N ns) = true) (hs : ∀ x,foldedSetIterable iter X.env x = pure x)
  (hi : ItcOk B X tg iter en fa) (hg : ∀ X',Blk X scope X' → GOk B.mute X' tg tgf ns) (ht : ∀ X',Blk X scope X' → QOk B.mute X' ifs tst) (he : ∀ X',Blk X scope X' → EOk B.mute X' pelt elt) :
  FOk B X (.ListComp pelt [⟨tg,iter,ifs,0⟩] scope pos) (compCF g en elt tst tgf ns fa):=by
 obtain ⟨wi,hi,ki⟩:=hi
 have h:=pe_lc (pos:=pos) (own:=ownOf X.N ns) hc hN hi (blkOk_by hb) (fun s H C cl fp=>(hg _ ⟨s,H,C,cl,fp,rfl⟩).can) (fun s H C cl fp=>ht _ ⟨s,H,C,cl,fp,rfl⟩) (fun s H C cl fp=>(he _ ⟨s,H,C,cl,fp,rfl⟩).can) hs
 rw [zZCh] at h
 exact ⟨_,h,fun e W sg H F eta Q s k=>zZF3 hxk ki e W sg H F eta Q s k⟩
theorem zZEe {g : Cfg} {en : Bool} {pelt iter : Expr} {ifs : List Expr} {scope : Scope} {elt : Env → Wd → R D} {tst : Env → Wd → R Bool} {tgf : D → Env → Option Env} {ns : List Nat} {i : Nat} {y : Str} {py spos : Pos}
  (hxk : ∀ i ∈ ns,i ∉ B.xk) (hc : X.calm = true) (hN : X.N.Nodup) (hy : X.N[i]? = some y) (hyl : X.env.scope.names.lookup y = some .local)
  (hsw : swapsWith (.ListComp pelt [⟨tg,iter,ifs,0⟩] scope pos) (some (.Name y py)) spos.line X.env = pure true) (hb : blkC X.N X.env.scope scope (ownOf X.N ns) = true) (hs : ∀ x,foldedSetIterable iter X.env x = pure x)
  (hi : ItcOk B X tg iter en fa) (hg : ∀ X',Blk X scope X' → GOk B.mute X' tg tgf ns) (ht : ∀ X',Blk X scope X' → QOk B.mute X' ifs tst) (he : ∀ X',Blk X scope X' → EOk B.mute X' pelt elt) :
  ∃ t : TE,PS X (.Assign [.Name y py] (.ListComp pelt [⟨tg,iter,ifs,0⟩] scope pos) spos) (tAsg t (gName i)) ∧ ∀ (e : Env) (W : Wd) (sg : L2.St) (H F : Hp) (eta : List Addr) (Q : VK),Stt B e W sg H F eta →
   (compCF g en elt tst tgf ns fa e W).wp B.xq (fun ds W' => ∀ (a : Addr) (vs : List V) (H' F' : Hp) (eta' : List Addr),OkH B F' eta' W' H' → Ext F eta H F' eta' H' → H a = none → H' a = some (.lst vs) → F' a = none → a ∉ eta' → RepL B F' eta' ds vs → Q (.ref a) H') → t sg H Q:=by
 obtain ⟨wi,hi,ki⟩:=hi
 have h:=ps_setLc (own:=ownOf X.N ns) hc hN hy hyl hsw hi (blkOk_by hb) (fun s H C cl fp=>(hg _ ⟨s,H,C,cl,fp,rfl⟩).can) (fun s H C cl fp=>ht _ ⟨s,H,C,cl,fp,rfl⟩) (fun s H C cl fp=>(he _ ⟨s,H,C,cl,fp,rfl⟩).can) hs
 rw [zZCh] at h
 exact ⟨_,h,fun e W sg H F eta Q s k=>zZF3 hxk ki e W sg H F eta Q s k⟩
end
end DL
set_option maxRecDepth 100000
set_option maxHeartbeats 4000000
namespace DL
open PySem PySem.Spec PyProof.Rows
open L2 hiding St
end DL
set_option maxRecDepth 100000
set_option maxHeartbeats 4000000
namespace DL
open PySem PySem.Spec PyProof.Rows
open L2 hiding St
end DL
set_option maxRecDepth 100000
set_option maxHeartbeats 4000000
namespace DL
open PySem PySem.Spec PyProof.Rows
open L2 hiding St
section
variable {B : Tb} {X : Cx} {xo : Addr} {py pa pb pc : Expr} {pos p : Pos} {fa fb fc : Env → Wd → R D} {fs fs2 : Env → Wd → R Src} {e : Env} {sg : L2.St} {F F' H H' F0 H0 : Hp} {eta eta' eta0 : List Addr} {W W' W0 : Wd} {sts : List Stmt} {f : Env → Wd → R Fl}
inductive FpOk (B : Tb) (X : Cx) : List Expr → (Env → Wd → R (List D)) → Prop where
 | nil : FpOk B X [] (fun _ W=>.ok [] W)
 | lit {x : Str} {j : Nat} {q : Pos} {es : List Expr} {fr : Env → Wd → R (List D)} (r : FpOk B X es fr) : FpOk B X (.Constant (.str x) j q :: es) (fun e W=>(R.ok (D.str x) W).bind fun y W=>(fr e W).bind fun ys W=>.ok (y :: ys) W)
 | fld {q : Pos} {es : List Expr} {fr : Env → Wd → R (List D)} {pa : Expr} {fa : Env → Wd → R D} (ha : EOk B X pa fa) (r : FpOk B X es fr) : FpOk B X (.FormattedValue pa (-1) none q :: es) (fun e W=>(fa e W).bind fun y W=>(fr e W).bind fun ys W=>.ok (y :: ys) W)
end
end DL
set_option maxRecDepth 100000
set_option maxHeartbeats 4000000
namespace DL
open PySem PySem.Spec PyProof.Rows
open L2 hiding St
end DL
set_option maxRecDepth 100000
set_option maxHeartbeats 4000000
namespace DL
open PySem PySem.Spec PyProof.Rows
open L2 hiding St
end DL
set_option maxRecDepth 100000
set_option maxHeartbeats 4000000
namespace DL
open PySem PySem.Spec PyProof.Rows
open L2 hiding St
end DL
set_option maxRecDepth 100000
set_option maxHeartbeats 4000000
namespace DL
open PySem PySem.Spec PyProof.Rows
open L2 hiding St
section
variable {B : Tb} {X : Cx} {tg py pa pb pc : Expr} {pos p : Pos}
variable {e e' e2 : Env} {sg sg' sg2 : L2.St} {F F' F2 H H' H2 : Hp} {eta eta' eta2 : List Addr} {W W' : Wd}
/-- what a place that was new is not -/
theorem Stt.fresh (st : Stt B e W sg H F eta) {p : Addr} (hp : H p = none) : B.xH p = none:=by
 cases h : B.xH p with
 | none=>rfl
 | some u =>
  by_cases hm : p ∈ B.xeta
  ·exact absurd hp (st.ok.there (st.xx.pre.subset hm))
  ·rw [st.xx.keep p u h hm] at hp
   cases hp
def canI (B : Tb) (f : Env → Wd → R (List D × Bool)) : TI:=fun sg H Q => ∃ (e : Env) (W : Wd) (F : Hp) (eta : List Addr),Stt B e W sg H F eta ∧
 (f e W).wp B.xq (fun ds W' => ∀ (J : L2.It) (H' F' : Hp) (eta' : List Addr),OkH B F' eta' W' H' → Ext F eta H F' eta' H' → IterOk B J ds.1 (Per B e sg F' eta' ds.2) → Q J H')
theorem ItOk.can {f : Env → Wd → R (List D × Bool)} (h : ItOk B X tg py f) : PI X tg py (canI B f):=by
 obtain ⟨t,h,k⟩:=h
 exact ⟨fun pins s σ H Q I ⟨e,W,F,eta,st,q⟩=>h.run pins s σ H Q I (k e W σ H F eta Q st q)⟩
end
end DL
set_option maxRecDepth 100000
set_option maxHeartbeats 4000000
namespace DL
open PySem PySem.Spec PyProof.Rows
open L2 hiding St
section
variable {B : Tb} {X : Cx} {tg py pa pb pc : Expr} {pos p apos : Pos} {fa fb : Env → Wd → R D} {fs : Env → Wd → R Src}
variable {e : Env} {sg : L2.St} {F F' H H' : Hp} {eta eta' : List Addr} {W W' : Wd}
theorem zZIN {x : D} {v : V} (h : isS x = true) (r : Rep B F eta x v) : ∃ a,x = .str a ∧ v = .str a:=by
 cases r <;> simp [isS] at h
 exact ⟨_,rfl,rfl⟩
theorem zZEd : ∀ {xs : List D} {vs : List V} {ys : List Str},RepL B F eta xs vs → strsD xs = some ys → vs = ys.map V.str
 | _,_,ys,.nil,h=>by simp [strsD] at h; subst h; rfl
 | _,_,ys,.cons (d:=d) (v:=v) r t,h=>by
  cases r <;> simp [strsD] at h
  obtain ⟨zs,h1,rfl⟩:=h
  rw [zZEd t h1]
  rfl
def joinF (fa : Env → Wd → R D) (fs : Env → Wd → R Src) : Env → Wd → R D:=fun e W=>(fa e W).bind fun x W=>if isS x then (fs e W).bind fun s W=>if s.isStr then .st else opt (joinD W x s) W else .st
theorem zZKx (hn : notStar pb = true) (hb : attributeBase pa "join" X.env (eval pa X.env) = eval pa X.env) (hl : (apos.endLine == pos.line) = true) (ha : EOk B X pa fa) (hs : SOk B X pb fs) :
  EOk B X (.Call (.Attribute pa "join" apos) [pb] [] pos) (joinF fa fs):=by
 obtain ⟨ta,ha,ka⟩:=ha
 obtain ⟨tb,hs,kb⟩:=hs
 refine ⟨_,pe_join ha hs (by rw [star1 hn]; rfl) hb hl,fun e W sg H F eta Q s k => ?_⟩
 refine ka e W sg H F eta _ s ?_
 unfold joinF at k
 rw [R.wp_bind] at k
 refine R.wp_mono k fun x W1 k v H1 F1 eta1 o1 x1 r1 => ?_
 split at k
 ·rename_i hx
  obtain ⟨a,rfl,rfl⟩:=zZIN hx r1
  refine ⟨⟨a,rfl⟩, ?_⟩
  have st1:=s.ext x1 o1
  rw [R.wp_bind] at k
  refine kb e W1 sg H1 F1 eta1 _ st1 (R.wp_mono k fun y W2 k u H2 F2 eta2 o2 x2 r2 => ?_)
  split at k
  ·exact k.elim
  ·rename_i hy
   simp only [Bool.not_eq_true] at hy
   obtain ⟨z,q,k2⟩:=zZD k
   clear k
   simp only [joinD,Option.bind_eq_some_iff] at q
   obtain ⟨xs,hi,ys,hys,q⟩:=q
   split at q
   ·rename_i hlen
    simp only [Option.some.injEq] at q
    subst q
    have y2:=Ext.trans s.ok o1 x1 x2
    cases ht : y.isTup with
    | false =>
     obtain ⟨ad,vs,rfl,rl,hh⟩:=r2.lst (s.ext y2 o2) hi hy ht
     obtain rfl:=zZEd rl hys
     exact ⟨a,ad,ys,rfl,rfl,.inl (SqL.of hh),hlen,k2 _ H2 F2 eta2 o2 y2 (.str _)⟩
    | true =>
     cases y with
     | frz zs d =>
      obtain ⟨rr,hd⟩:=r2
      rcases hd with rfl | rfl
      ·cases ht
      ·have hxs : zs = xs:=by simpa [items] using hi
       subst hxs
       cases rr with
       | tup hT rl =>
        obtain rfl:=zZEd rl hys
        exact ⟨a,_,ys,rfl,rfl,.inr (hT.mono o2.sub).sq,hlen,k2 _ H2 F2 eta2 o2 y2 (.str _)⟩
     | _=>cases ht
   ·cases q
 ·exact k.elim
theorem zZEq : ∀ ys : List Str,RepL B F eta (ys.map D.str) (ys.map V.str)
 | []=>.nil
 | y :: ys=>.cons (.str y) (zZEq ys)
theorem zZG0 {n : Nat} (h : n ≤ cap) : n ≤ sizeLine:=Nat.le_trans h zZb
theorem zZKW (hn : notStar pb = true) (hb : attributeBase pa "split" X.env (eval pa X.env) = eval pa X.env) (hl : (apos.endLine == pos.line) = true) (ha : EOk B X pa fa) (hbb : EOk B X pb fb) :
  FOk B X (.Call (.Attribute pa "split" apos) [pb] [] pos) (fun e W=>(fa e W).bind fun x W=>if isS x then (fb e W).bind fun y W=>opt (splitD x y) W else .st):=by
 obtain ⟨ta,ha,ka⟩:=ha
 obtain ⟨tb,hbb,kb⟩:=hbb
 refine ⟨_,pe_split ha hbb (by rw [star1 hn]; rfl) hb hl,fun e W sg H F eta Q s k => ?_⟩
 refine ka e W sg H F eta _ s ?_
 rw [R.wp_bind] at k
 refine R.wp_mono k fun x W1 k v H1 F1 eta1 o1 x1 r1 => ?_
 split at k
 ·rename_i hx
  obtain ⟨a,rfl,rfl⟩:=zZIN hx r1
  refine ⟨⟨a,rfl⟩, ?_⟩
  have st1:=s.ext x1 o1
  rw [R.wp_bind] at k
  refine kb e W1 sg H1 F1 eta1 _ st1 (R.wp_mono k fun y W2 k u H2 F2 eta2 o2 x2 r2 => ?_)
  obtain ⟨z,q,k⟩:=zZD k
  cases r2 <;> simp only [splitD] at q <;> try cases q
  split at q
  ·rename_i hq
   simp only [Option.some.injEq] at q
   subst q
   have y2:=Ext.trans s.ok o1 x1 x2
   refine ⟨a,_,rfl,rfl,hq.1,zZG0 hq.2,fun q hp => ?_⟩
   exact k q _ _ F2 eta2 (o2.new hp) (Ext.trans s.ok o2 y2 (Ext.new hp)) (y2.there s.ok o2 hp) upd_same (o2.notF hp) (o2.notE hp) (zZEq _)
  ·cases q
 ·exact k.elim
theorem zZIW (neg : Bool) : CRule B X (inOp neg) (signD neg):=by
 cases neg with
 | false =>
  refine ⟨_,op_in_sign,fun x y v u H F eta W Q z o r1 r2 q k => ?_⟩
  cases r1 <;> simp only [signD] at q <;> try cases q
  rename_i a
  cases r2 <;> simp only [] at q <;> try cases q
  rename_i b
  split at q
  ·rename_i c hc
   simp only [Bool.false_eq_true,if_false,Option.some.injEq] at q
   subst q
   have ha : a = ⟨#[c]⟩:=by
    obtain ⟨cps⟩:=a
    congr
    exact Array.toList_inj.mp hc
   exact ⟨c,b,by rw [ha],rfl,k _ H F eta o (Ext.refl _ _ _) (.bl _)⟩
  ·cases q
 | true =>
  refine ⟨_,op_notIn_sign,fun x y v u H F eta W Q z o r1 r2 q k => ?_⟩
  cases r1 <;> simp only [signD] at q <;> try cases q
  rename_i a
  cases r2 <;> simp only [] at q <;> try cases q
  rename_i b
  split at q
  ·rename_i c hc
   simp only [if_true,Option.some.injEq] at q
   subst q
   have ha : a = ⟨#[c]⟩:=by
    obtain ⟨cps⟩:=a
    congr
    exact Array.toList_inj.mp hc
   exact ⟨c,b,by rw [ha],rfl,k _ H F eta o (Ext.refl _ _ _) (.bl _)⟩
  ·cases q
theorem zZMp (neg : Bool) : ∀ x y z,signD neg x y = some z → ∃ b,z = .bl b:=by
 intro x y z h
 unfold signD at h
 split at h
 ·split at h
  ·exact ⟨_,(Option.some.inj h).symm⟩
  ·cases h
 ·cases h
/-- the module's own tuples of texts -/
def KtOk (B : Tb0) (K : PySem.W.Frag) : Prop := ∀ a ws H,B.kt a ws → SqT K H a (ws.map V.str)
theorem zZI8 (neg : Bool) (hu : X.A.units + 65 < cLine) (hk : KtOk B.toTb0 X.K) : CRule B X (inOp neg) (kinD neg):=by
 refine ⟨_,zZMa neg hu,fun x y v u H F eta W Q z o r1 r2 q k => ?_⟩
 simp only [kinD,Option.bind_eq_some_iff,Option.map_eq_some_iff] at q
 obtain ⟨xs,hi,b,q,rfl⟩:=q
 unfold indD at q
 simp only [Option.bind_eq_some_iff,Option.map_eq_some_iff] at q
 obtain ⟨d,hd,ds,hds,rfl⟩:=q
 have p1:=r1.dp (K:=X.K) o.sub 60 d hd
 have hl : pd 60 (.lst xs) = some (.list ds):=by simp [pd,hds]
 have s1:=xZ6 hd
 have s2:=xZ6 hl
 cases r2 with
 | kt h =>
  simp only [kinL,Option.some.injEq] at hi
  subst hi
  rename_i ws
  have rl : RepL B.toTb0 F eta (ws.map D.str) (ws.map V.str):=zZEq ws
  have p2:=rl.dp (K:=X.K) o.sub 59 ds hds
  exact ⟨d,ds,p1,.inr (.tup (hk _ _ _ h) p2),s1,s2,k _ H F eta o (Ext.refl _ _ _) (.bl _)⟩
 | tup hT rl =>
  simp only [kinL,Option.some.injEq] at hi
  subst hi
  have p2:=rl.dp (K:=X.K) o.sub 59 ds hds
  exact ⟨d,ds,p1,.inr (.tup (hT.mono o.sub).sq p2),s1,s2,k _ H F eta o (Ext.refl _ _ _) (.bl _)⟩
 | lst hT rl =>
  simp only [kinL,Option.some.injEq] at hi
  subst hi
  have p2:=rl.dp (K:=X.K) o.sub 59 ds hds
  exact ⟨d,ds,p1,.inl (.lst (SqL.of (o.sub _ _ hT)) p2),s1,s2,k _ H F eta o (Ext.refl _ _ _) (.bl _)⟩
 | _=>simp [kinL] at hi
theorem zZNK (neg : Bool) : ∀ x y z,kinD neg x y = some z → ∃ b,z = .bl b:=by
 intro x y z h
 simp only [kinD,Option.bind_eq_some_iff,Option.map_eq_some_iff] at h
 obtain ⟨_,_,b,_,rfl⟩:=h
 exact ⟨_,rfl⟩
theorem zZKD (ha : EOk B X pa fa) : ItOk B X tg pa (fun e W=>(fa e W).bind fun x W=>opt ((charsD x).map fun ds=>(ds,false)) W):=by
 obtain ⟨ta,ha,ka⟩:=ha
 refine ⟨_,pi_str ha,fun e W sg H F eta Q s k => ?_⟩
 refine ka e W sg H F eta _ s ?_
 rw [R.wp_bind] at k
 refine R.wp_mono k fun x W1 k v H1 F1 eta1 o1 x1 r1 => ?_
 obtain ⟨z,q,k⟩:=zZD k
 simp only [Option.map_eq_some_iff] at q
 obtain ⟨ds,q,rfl⟩:=q
 cases r1 <;> simp only [charsD] at q <;> try cases q
 rename_i a
 split at q
 ·simp only [Option.some.injEq] at q
  subst q
  refine ⟨a,rfl,k (Its a) H1 F1 eta1 o1 x1 ⟨fun i d F2 eta2 W2 H2 hd o2 p2 => ?_,fun F2 eta2 W2 H2 o2 p2 => ?_⟩⟩
  ·rw [List.getElem?_map,Array.getElem?_toList] at hd
   cases hc : a.cps[i]? with
   | none=>rw [hc] at hd; cases hd
   | some c =>
    rw [hc] at hd
    simp only [Option.map_some,Option.some.injEq] at hd
    subst hd
    refine ⟨(Array.getElem?_eq_some_iff.mp hc).1,fun y H3 hy => ?_⟩
    obtain ⟨rfl,c',hc',rfl⟩:=hy
    rw [hc] at hc'
    simp only [Option.some.injEq] at hc'
    subst hc'
    exact ⟨F2,o2,Ext.refl _ _ _,.str _⟩
  ·show a.cps.size ≤ _
   simp
 ·cases q
theorem zZE9 {α β : Type} (P : Nat → α → β → Prop) : ∀ (l : List α),(∀ j q,l[j]? = some q → ∃ u,P j q u) → ∃ m : List β,m.length = l.length ∧ ∀ j q u,l[j]? = some q → m[j]? = some u → P j q u
 | [],_=>⟨[],rfl,fun j q u h=>by simp at h⟩
 | a :: l,h=>by
  obtain ⟨u,hu⟩:=h 0 a rfl
  obtain ⟨m,h1,h2⟩:=zZE9 (fun j=>P (j + 1)) l fun j q hq=>h (j + 1) q (by simpa using hq)
  refine ⟨u :: m,by simp [h1],fun j q v hq hv => ?_⟩
  cases j with
  | zero=>simp at hq hv; subst hq; subst hv; exact hu
  | succ j=>exact h2 j q v (by simpa using hq) (by simpa using hv)
theorem zZIa : ∀ {kvs : List (Key × V)} {prs : List (Key × Value)},KV kvs prs → prs.map (·.1) = kvs.map (·.1)
 | _,_,.nil=>rfl
 | _,_,.cons h t=>by
  rw [List.map_cons,List.map_cons,h.1,zZIa t]
theorem zZGX : ∀ {ps : List (D × D)} {kvs : List (Key × V)},RepK B.toTb0 F eta ps kvs → kvs.length = ps.length
 | _,_,.nil=>rfl
 | _,_,.cons _ _ t=>by rw [List.length_cons,List.length_cons,zZGX t]
theorem zZIk (hcalm : X.calm = true) : CallR X (.type "dict") (fun xs H Q => ∃ (a : Addr) (ps : List Addr) (kvs : List (Key × V)),xs = [.ref a] ∧ TupF H a (ps.map V.ref) ∧ Paired (fun p kv=>SqT X.K H p [kV kv.1,kv.2]) ps kvs ∧ (kvs.map (·.1)).Nodup ∧ kvs.length ≤ cap ∧
  ∀ p,H p = none → Q (.ref p) (upd H p (.dK kvs))):=by
 intro pins s σ H xs us Q I r q
 obtain ⟨a,ps,kvs,ex,hq,hp,hnd,hcap,q⟩:=q
 subst ex
 obtain ⟨u,eu,rx⟩:=vals1 r
 subst eu
 cases rx
 obtain ⟨ob,hd,hf⟩:=hq
 have hob:=I.hok a _ hf
 obtain ⟨g1,g2,its,g3,o2,g4,g5,n,g6⟩:=hob
 have ei:=refs_at g3
 subst ei
 have e2 : o2 = ob:=by
  rw [g1] at g4
  exact (Option.some.inj g4).symm
 subst e2
 obtain ⟨prs,rel,hl,hpr⟩:=pairs_of I hp
 obtain ⟨us,h1,h2⟩:=zZE9 (fun j (q : Key × Value) (u : Value) => ∃ b,ps[j]? = some b ∧ IsTup s.heap b #[u,q.2] ∧ keyIs q.1 u = true) prs fun j q' e=>by
  obtain ⟨b,u,e1,e2,e3⟩:=hpr j q' e
  exact ⟨u,b,e1,e2,e3⟩
 have hzip : ∀ (j : Nat) (k v : Value),(us.zip (prs.map (·.2)))[j]? = some (k,v) → ∃ q',prs[j]? = some q' ∧ us[j]? = some k ∧ v = q'.2:=fun j k v h=>by
  rw [List.getElem?_zip_eq_some] at h
  obtain ⟨z1,z2⟩:=h
  rw [List.getElem?_map] at z2
  cases hq : prs[j]? with
  | none=>rw [hq] at z2; cases z2
  | some q' =>
   rw [hq] at z2
   simp only [Option.map_some,Option.some.injEq] at z2
   exact ⟨q',rfl,z1,z2.symm⟩
 have hzl : (us.zip (prs.map (·.2))).length = ps.length:=by rw [List.length_zip,List.length_map,h1,Nat.min_self,hl]
 have PP:=PairArg.tuple (prog:=X.prog) (w:=X.w) a (ps.map Value.ref).toArray (fun j=>(ps[j]?).getD 0) (us.zip (prs.map (·.2)))
 have hsz : ps.length ≤ sizeLine:=by
  rw [hp.length]
  exact zZG0 hcap
 refine PySem.call_dict_pairs (knd:=mixKind X.prog X.w) (kvs:=prs) PP (I.ok.hd hcalm) ⟨⟨o2,n,g1,g5,hd,g6⟩,by rw [List.size_toArray,List.length_map,hzl],fun j k v hj => ?_⟩ ⟨by rw [hzl,hl],fun i key v hi => ?_⟩ (by rw [hzl]; exact hsz) fun h' tk hdd kk => ?_
 ·obtain ⟨q',e1,e2,rfl⟩:=hzip j k v hj
  obtain ⟨b,e3,e4,e5⟩:=h2 j q' k e1 e2
  refine ⟨by simp [e3],.inl ?_⟩
  show IsTup s.heap ((ps[j]?).getD 0) #[k,q'.2]
  rw [e3]
  exact e4
 ·obtain ⟨q',e1,e2,rfl⟩:=hzip i key v hi
  obtain ⟨b,e3,e4,e5⟩:=h2 i q' key e1 e2
  exact ⟨q'.1,e1,e5⟩
 ·have hm : (s.heap.objs.size == sysModules) = false:=beq_eq_false_iff_ne.mpr (Nat.ne_of_gt I.big)
  have hkn:=zZIa rel
  rw [zZGW _ _ (by rw [List.nil_append,hkn]; exact hnd),List.nil_append] at hdd
  have hlen : kvs.length ≤ sizeLine:=zZG0 hcap
  exact ⟨.ref s.heap.objs.size,upd H s.heap.objs.size (.dK kvs),I.laid (t':=tk) (fun b o e=>kk b o (by simp) e) (Nat.le_refl _) (show ObjOk X.prog X.w _ _ _ (.dK kvs) from ⟨hlen,hm,prs,rel,hdd⟩),rfl,q _ (I.hok.fresh (Nat.le_refl _))⟩
theorem zZGa : ∀ {xs : List D} {vs : List V} {ps : List (D × D)} {ks : List Key},OkH B.toTb0 F eta W H → RepL B.toTb0 F eta xs vs → xs.mapM pairOf = some ps → keysD (ps.map (·.1)) = some ks → ∃ (as : List Addr) (kvs : List (Key × V)),vs = as.map V.ref ∧ Paired (fun p kv=>SqT X.K H p [kV kv.1,kv.2]) as kvs ∧ kvs.map (·.1) = ks ∧ RepK B.toTb0 F eta ps kvs
 | _,_,ps,ks,o,.nil,h,hk=>by
  simp at h
  subst h
  simp [keysD] at hk
  subst hk
  exact ⟨[],[],rfl,.nil,rfl,.nil⟩
 | _,_,ps,ks,o,.cons (d:=d) (v:=v) r t,h,hk=>by
  simp only [List.mapM_cons,Option.bind_eq_bind,Option.bind_eq_some_iff,Option.pure_def,Option.some.injEq] at h
  obtain ⟨pr,h1,qs,h2,rfl⟩:=h
  simp only [List.map_cons,keysD,Option.bind_eq_some_iff,Option.map_eq_some_iff] at hk
  obtain ⟨k,k1,ks2,k2,rfl⟩:=hk
  obtain ⟨as,kvs,rfl,e2,rfl,e4⟩:=zZGa o t h2 k2
  cases r <;> simp only [pairOf] at h1 <;> try cases h1
  rename_i a xs vs hT rl
  split at h1
  ·rename_i x y hxy
   cases hxy
   simp only [Option.some.injEq] at h1
   subst h1
   cases rl with
   | cons r1 rl =>
    cases rl with
    | cons r2 rl =>
     cases rl
     rename_i v1 v2
     have hv : v1 = kV k:=by cases r1 <;> simp [keyD] at k1 <;> subst k1 <;> rfl
     subst hv
     exact ⟨a :: as,(k,v2) :: kvs,rfl,.cons (hT.mono o.sub).sq e2,rfl,.cons k1 r2 e4⟩
  ·cases h1
theorem zZL1 (hc : X.calm = true) (hg : Gl X "dict") (hm : X.mg "dict" = none) (hn : notStar pa = true) (ha : EOk B X pa fa) :
  EOk B X (.Call (.Name "dict" p) [pa] [] pos) (fun e W=>(fa e W).bind fun x W=>opt (dofD x) W):=by
 obtain ⟨ta,ha,ka⟩:=ha
 refine ⟨_,pTy (zZIk hc) hg hm PyProof.Rows.boot_dict (by decide) (by decide) hn _ (pa_cons ha pa_nil (star1 hn _ _)),fun e W sg H F eta Q s k => ?_⟩
 refine ka e W sg H F eta _ s ?_
 rw [R.wp_bind] at k
 refine R.wp_mono k fun x W1 k v H1 F1 eta1 o1 x1 r1 => ?_
 obtain ⟨z,q,k⟩:=zZD k
 cases r1 <;> simp only [dofD] at q <;> try cases q
 rename_i a xs vs hT rl
 simp only [Option.bind_eq_some_iff] at q
 obtain ⟨ps,q1,ks,q2,q3⟩:=q
 split at q3
 ·rename_i hq
  simp only [Option.some.injEq] at q3
  subst q3
  obtain ⟨as,kvs,rfl,e2,rfl,e4⟩:=zZGa (X:=X) o1 rl q1 q2
  have hlen:=zZGX e4
  refine ⟨a,as,kvs,rfl,hT.mono o1.sub,e2,hq.1,by rw [hlen]; exact hq.2,fun p hp => ?_⟩
  exact k (.ref p) (upd H1 p (.dK kvs)) (upd F1 p (.dK kvs)) eta1 (o1.newF hp) (Ext.trans s.ok o1 x1 (Ext.newFz o1 hp)) (.dct upd_same (e4.mono (zZr (o1.notF hp)) (List.prefix_refl _)))
 ·cases q3
def augFS (g : Cfg) (fa : Env → Wd → R D) (f i : Nat) (op : Op) : Env → Wd → R Fl:=fun e W=>match e[i]? with
  | some (.val (.own n))=>(match W[n]? with
   | some (.ins c fs)=>if g.fld c f then (opt (fs.lookup f) W).bind fun x W=>(fa e W).bind fun y W=>(opt (match x,y with | .int _,.int _=>binD op x y | _,_=>none) W).bind fun z W =>
    (match W[n]? with
     | some (.ins c' fs')=>if c' = c ∧ fs'.length < 100 then .ok (.nx e) (W.set n (.ins c (putFd f z fs'))) else .st
     | _=>.st) else .st
   | _=>.st)
  | _=>.st
theorem zZKE {g : Cfg} {op : Op} {i f : Nat} {x nm : Str} {p2 p3 : Pos} (hop : op = .add ∨ op = .sub) (hf : FldOk B X.K g) (hN : X.N[i]? = some x) (hv : Vis X.env.scope x) (hd : (x == ("__debug__" : Str)) = false) (hc : (x == ("__classdict__" : Str)) = false) (hn : B.fn f = nm) (ha : EOk B X pa fa) :
  POk B X (.AugAssign (.Attribute (.Name x p2) nm p3) (pyOp op) pa pos) (augFS g fa f i op):=by
 subst hn
 obtain ⟨ta,ha,ka⟩:=ha
 have go : ∀ (h : Int → Int → Int) (hb : ∀ a b,binD op (.int a) (.int b) = some (.int (h a b))) (ho : OpR X (inplaceOp (pyOp op)) (rI0 fun i j=>.int (h i j))),
   POk B X (.AugAssign (.Attribute (.Name x p2) (B.fn f) p3) (pyOp op) pa pos) (augFS g fa f i op):=by
  intro h hb ho
  refine ⟨_,ps_fldaug (pe_var hN hv hd hc) ha (fun pins s σ H x y v u Q I rx ry q=>ho pins s σ H x y v u Q I rx ry q),fun xo F0 eta0 H0 W0 e W sg H F eta De o y k => ?_⟩
  unfold augFS at k
  split at k
  ·rename_i n hs
   split at k
   ·rename_i c fs hw
    split at k
    ·rename_i hg
     obtain ⟨f1,f2,f3⟩:=hf _ _ hg
     obtain ⟨u,q1,q2⟩:=y.st.sl i _ hs
     cases q2 with
     | own hh =>
      obtain ⟨dx,gs,z1,z2⟩:=y.st.ok.cell n _ _ hh hw
      rw [R.wp_bind] at k
      obtain ⟨d,q,k⟩:=zZD k
      obtain ⟨v,l1,l2⟩:=z2.lookup f1 q
      refine ⟨_,q1,_,_,dx,gs,v,rfl,z1,f2,f3,l1, ?_⟩
      rw [R.wp_bind] at k
      refine ka e W sg H F eta _ y.st (R.wp_mono k fun d2 W1 k u2 H1 F1 eta1 o1 x1 r1 => ?_)
      have y1:=y.ext2 o x1 o1
      rw [R.wp_bind] at k
      obtain ⟨z,q3,k⟩:=zZD k
      cases l2 with
      | int a =>
       cases r1 with
       | int b =>
        simp only [hb] at q3
        cases q3
        refine ⟨a,b,rfl,rfl, ?_⟩
        split at k
        ·rename_i c' fs' hw1
         split at k
         ·rename_i hl
          obtain ⟨rfl,hl⟩:=hl
          have hh1:=zZCx x1.pre hh
          obtain ⟨dx',gs',z1',z2'⟩:=o1.cell n _ _ hh1 hw1
          exact ⟨dx',gs',z1',by rw [← z2'.length]; omega,k _ _ F1 eta1 (y1.cell hh1 ⟨dx',_,upd_same,z2'.put f1 (.int _)⟩)⟩
         ·exact k.elim
        ·exact k.elim
       | _=>cases q3
      | _=>cases q3
    ·exact k.elim
   ·exact k.elim
  ·exact k.elim
 rcases hop with rfl | rfl
 ·exact go (fun a b=>a + b) (fun _ _=>rfl) iop_add
 ·exact go (fun a b=>a - b) (fun _ _=>rfl) iop_sub
end
end DL
set_option maxRecDepth 100000
set_option maxHeartbeats 4000000
namespace DL
open PySem PySem.Spec PyProof.Rows
open L2 hiding St
structure Zs where
 anm : Nat → Str
 fnm : Nat → Option Str
 cnm : Nat → Option Str
 blt : List Str
 gi : List (Str × Int)
 xnm : Nat → Option Str
 rnm : Nat → Option Str
 enm : Nat → Option Str
 hnm : Nat → Option Str
 gs : List (Str × Str)
 gk : List (Str × List Str)
structure Sx where
 N : List Str
 nms : List (Str × NameKind)
 top : Bool:=true
 kept : List Nat:=[]
 hot : Bool:=false
def visB : Option NameKind → Bool
 | some .local=>true | some .cell=>true | some .free=>true | _=>false
def nmOk (x : Str) : Bool := !(x == ("__debug__" : Str)) && !(x == ("__classdict__" : Str))
def chkV (S : Sx) (i : Nat) (x : Str) : Bool:=decide (S.N[i]? = some x) && (visB (S.nms.lookup x) && nmOk x)
def chkL (S : Sx) (i : Nat) (x : Str) : Bool:=(decide (S.N[i]? = some x) && !S.kept.contains i) && (decide (S.nms.lookup x = some .local) || (S.top && decide (S.nms.lookup x = some .cell)))
def chkG (S : Sx) (x : Str) : Bool:=decide (S.nms.lookup x = some .globalImplicit) && nmOk x
def chkB (Z : Zs) (S : Sx) (x : Str) : Bool:=chkG S x && Z.blt.contains x
def relab (nms : List (Str × NameKind)) (l : List (Str × NameKind)) : List (Str × NameKind):=l.map fun (n,k)=>if (k == .free && nms.lookup n == some .cell) then (n,.cell) else (n,k)
def Sx.inner (S : Sx) (sc : Scope) : Sx:=⟨S.N,relab S.nms sc.names,false,S.kept,S.hot⟩
def abOk : Expr → Bool
 | .Call _ [] _ _=>false | _=>true
def ixOk : Expr → Bool
 | .Slice _ _ _ _=>false | _=>true
def isTup : Expr → Bool
 | .Tuple _ _ _=>true | _=>false
def isNm : Expr → Bool
 | .Name _ _=>true | _=>false
def notSet : Expr → Bool
 | .Set _ _ _=>false | _=>true
def blkB (S : Sx) (scope : Scope) (ns : List Nat) : Bool:=blkC S.N { scope with names:=S.nms } scope (ownOf S.N ns)
def E.isIfe : E → Bool
 | .ife _ _ _=>true
 | _=>false
def E.isVar : E → Bool
 | .var _=>true | _=>false
def Es.isNil : Es → Bool
 | .nil=>true | _=>false
def noKw : List Keyword → Bool
 | []=>true | _=>false
def coldK (S : Sx) (ks : List Keyword) : Bool := !S.hot && noKw ks
theorem ck1 {S : Sx} {ks : List Keyword} (h : coldK S ks = true) : S.hot = false:=by
 unfold coldK at h
 simp only [Bool.and_eq_true,Bool.not_eq_true'] at h
 exact h.1
theorem ck2 {S : Sx} {ks : List Keyword} (h : coldK S ks = true) : noKw ks = true:=by
 unfold coldK at h
 simp only [Bool.and_eq_true] at h
 exact h.2
def chkT (t : E) (b : Bool) : Bool := !t.isIfe && b
mutual
def chkTg : Tg → Sx → Expr → Bool
 | .nm i,S,py=>match py with | .Name x _=>chkL S i x | _=>false
 | .tup ts,S,py=>match py with | .Tuple es _ _=>(!S.hot && es.all notStar) && chkTgs ts S es | _=>false
def chkTgs : Tgs → Sx → List Expr → Bool
 | .nil,_,py=>match py with | []=>true | _=>false
 | .cons t ts,S,py=>match py with | p :: ps=>chkTg t S p && chkTgs ts S ps | _=>false
end
/-- a mutable list,walked -/
def chkIcF (Z : Zs) (f : Expr → Bool) (en : Bool) (S : Sx) (tg py : Expr) : Bool :=
 if en then (match py with | .Call (.Name x _) [p] ks _=>(noKw ks && (decide (("enumerate" : Str) = x) && chkB Z S x)) && ((isTup tg && notStar p) && f p) | _=>false) else f py
mutual
def chkE (Z : Zs) : E → Sx → Expr → Bool
 | .non,_,py=>match py with | .Constant .none _ _=>true | _=>false
 | .bl b,_,py=>match py with | .Constant (.bool c) _ _=>decide (b = c) | _=>false
 | .int i,S,py=>match py with | .Constant (.int j) _ _=>decide (i = j) | .Name x _=>chkG S x && decide (Z.gi.lookup x = some i) | _=>false
 | .str s,_,py=>match py with | .Constant (.str t) _ _=>decide (s = t) | _=>false
 | .var i,S,py=>match py with | .Name x _=>chkV S i x | _=>false
 | .bin op a b,S,py=>match py with | .BinOp l o r _=>decide (o = pyOp op) && (chkE Z a S l && chkE Z b S r) | _=>false
 | .neg a,S,py=>match py with | .UnaryOp .USub l _=>chkE Z a S l | _=>false
 | .cmp op a b,S,py=>match py with | .Compare l [o] [r] _=>(decide (o = pyCm op) && !(behindInMarks o r)) && (chkE Z a S l && chkE Z b S r) | _=>false
 | .chain o1 o2 a b c,S,py=>match py with
  | .Compare l [p1,p2] [m,r] _=>(decide (p1 = pyCm o1) && decide (p2 = pyCm o2)) && ((decide (p1 ≠ .In ∧ p1 ≠ .NotIn ∧ p2 ≠ .In ∧ p2 ≠ .NotIn)) && (chkE Z a S l && (chkE Z b S m && chkE Z c S r)))
  | _=>false
 | .and es,S,py=>match py with | .BoolOp .And ps _ => !es.isNil && chkA Z es S ps | _=>false
 | .or es,S,py=>match py with | .BoolOp .Or ps _ => !es.isNil && chkA Z es S ps | _=>false
 | .not a,S,py=>match py with | .UnaryOp .Not l _=>chkT a (chkE Z a S l) | _=>false
 | .ife c a b,S,py=>match py with | .IfExp t l r _=>chkT c (chkE Z c S t) && (chkE Z a S l && chkE Z b S r) | _=>false
 | .fld f a,S,py=>match py with | .Attribute o nm _=>(decide (Z.anm f = nm) && abOk o) && chkE Z a S o | _=>false
 | .idx a b,S,py=>match py with | .Subscript l r _=>ixOk r && (chkE Z a S l && chkE Z b S r) | _=>false
 | .sl a lo hi,S,py=>match py with | .Subscript l (.Slice x y none _) _=>chkE Z a S l && (chkO Z lo S x && chkO Z hi S y) | _=>false
 | .tup es,S,py=>match py with | .Tuple ps _ _=>chkEs Z es S ps | _=>false
 | .frz f,S,py=>chkF Z f S py
 | .cell f,S,py=>chkF Z f S py
 | .call f es,S,py=>match py with
  | .Call (.Name x _) ps ks _=>((noKw ks && chkG S x) && (if S.hot then decide (Z.hnm f = some x) && (ps.all notStar && !ps.isEmpty) else decide (Z.fnm f = some x))) && (headOk ps && chkEs Z es S ps)
  | _=>false
 | .make c es,S,py=>match py with
  | .Call (.Name x _) (p :: ps) ks _=>(coldK S ks && (decide (Z.cnm c = some x) && chkG S x)) && ((p :: ps).all notStar && chkEs Z es S (p :: ps))
  | _=>false
 | .meth m a es,S,py=>match py with
  | .Call (.Attribute o nm apos) ps ks pos=>(coldK S ks && (decide (Z.anm m = nm) && abOk o)) && (((apos.endLine == pos.line) && (ps.all notStar && decide (ps.length < 30))) && (chkE Z a S o && chkEs Z es S ps))
  | _=>false
 | .b1 b a,S,py=>match py with | .Call (.Name x _) [p] ks _=>((if isConv b then noKw ks else coldK S ks) && (decide (b1nm b = x) && chkB Z S x)) && (notStar p && chkE Z a S p) | _=>false
 | .isi a t,S,py=>match py with
  | .Call (.Name x _) [p,.Name y _] ks _=>(noKw ks && (decide (("isinstance" : Str) = x) && chkB Z S x)) && ((decide ((tyNm t : Str) = y) && chkB Z S y) && (notStar p && chkE Z a S p))
  | _=>false
 | .isc a c,S,py=>match py with
  | .Call (.Name x _) [p,.Name y _] ks _=>(noKw ks && (decide (("isinstance" : Str) = x) && chkB Z S x)) && ((decide (Z.cnm c = some y) && chkG S y) && (notStar p && chkE Z a S p))
  | _=>false
 | .eqo a b,S,py=>match py with | .Compare l [o] [r] _=>(decide (o = .Eq) && (!S.hot && !(behindInMarks o r))) && (chkE Z a S l && chkE Z b S r) | _=>false
 | .dget a b,S,py=>match py with | .Subscript l r _=>ixOk r && (chkE Z a S l && chkE Z b S r) | _=>false
 | .join a b,S,py=>match py with
  | .Call (.Attribute o nm apos) [p] ks pos=>(noKw ks && (decide (("join" : Str) = nm) && abOk o)) && (((apos.endLine == pos.line) && notStar p) && (chkE Z a S o && chkE Z b S p))
  | _=>false
 | .gs x s,S,py=>match py with | .Name y _=>chkG S y && (decide (x = y) && decide (Z.gs.lookup x = some s)) | _=>false
 | .gk x ws,S,py=>match py with | .Name y _=>chkG S y && (decide (x = y) && decide (Z.gk.lookup x = some ws)) | _=>false
 | .kin neg a b,S,py=>match py with | .Compare l [o] [r] _=>(decide (o = inOp neg) && !(behindInMarks o r)) && (chkE Z a S l && chkE Z b S r) | _=>false
 | .inS neg a b,S,py=>match py with | .Compare l [o] [r] _=>(decide (o = inOp neg) && !(behindInMarks o r)) && (chkE Z a S l && chkE Z b S r) | _=>false
 | .dof a,S,py=>match py with
  | .Call (.Name x _) [p] ks _=>(coldK S ks && (decide (("dict" : Str) = x) && chkB Z S x)) && (notStar p && chkE Z a S p)
  | _=>false
/-- the parts of an f-string -/
def chkFs (Z : Zs) : Es → Sx → List Expr → Bool
 | .nil,_,py=>match py with | []=>true | _=>false
 | .cons a es,S,py=>match py with
  | .Constant (.str x) _ _ :: ps=>(match a with | .str y=>decide (x = y) | _=>false) && chkFs Z es S ps
  | .FormattedValue p n none _ :: ps=>decide (n = -1) && (chkE Z a S p && chkFs Z es S ps)
  | _=>false
 | .star _ _,_,_=>false
/-- the argument of pop -/
def chkP1 (Z : Zs) : Oe → Sx → List Expr → Bool
 | .none,_,py=>match py with | []=>true | _=>false
 | .some a,S,py=>match py with | [p]=>notStar p && chkE Z a S p | _=>false
/-- the entries of a dict -/
def chkD (Z : Zs) : Es → List Str → Sx → List (Option Expr) → List Expr → Bool
 | .nil,ks,_,keys,vals=>match ks,keys,vals with | [],[],[]=>true | _,_,_=>false
 | .cons a es,ks,S,keys,vals=>match ks,keys,vals with | k :: ks,some (.Constant (.str k') _ _) :: keys,v :: vals=>decide (k = k') && (chkE Z a S v && chkD Z es ks S keys vals) | _,_,_=>false
 | .star _ _,_,_,_,_=>false
def chkO (Z : Zs) : Oe → Sx → Option Expr → Bool
 | .none,_,py=>match py with | none=>true | _=>false
 | .some a,S,py=>match py with | some p=>chkE Z a S p | _=>false
def chkEs (Z : Zs) : Es → Sx → List Expr → Bool
 | .nil,_,py=>match py with | []=>true | _=>false
 | .cons a es,S,py=>match py with | p :: ps=>notStar p && (chkE Z a S p && chkEs Z es S ps) | _=>false
 | .star a es,S,py=>match py with | .Starred p _ :: ps=>chkE Z a S p && chkEs Z es S ps | _=>false
/-- the parts of and,or; the tests of a clause -/
def chkA (Z : Zs) : Es → Sx → List Expr → Bool
 | .nil,_,py=>match py with | []=>true | _=>false
 | .cons a es,S,py=>match py with | p :: ps=>chkT a (chkE Z a S p) && chkA Z es S ps | _=>false
 | .star _ _,_,_=>false
def chkF (Z : Zs) : Fe → Sx → Expr → Bool
 | .disp es,S,py=>match py with | .List ps _=>chkEs Z es S ps | _=>false
 | .of a,S,py=>match py with | .Call (.Name x _) [p] ks _=>(noKw ks && (decide (("list" : Str) = x) && chkB Z S x)) && (notStar p && chkE Z a S p) | _=>false
 | .sl a lo hi,S,py=>match py with | .Subscript l (.Slice x y none _) _=>chkE Z a S l && (chkO Z lo S x && chkO Z hi S y) | _=>false
 | .comp elt t it ifs,S,py=>match py with
  | .ListComp pe [⟨tg,iter,qs,k⟩] scope _=>(((!S.hot && decide (k = 0)) && notSet iter) && blkB S scope (tgN t)) && (chkIt Z it S tg iter && (chkTg t (S.inner scope) tg && ((decide (qs.length ≤ 1) && chkA Z ifs (S.inner scope) qs) && chkE Z elt (S.inner scope) pe)))
  | _=>false
 | .cat a b,S,py=>match py with | .BinOp l .Add r _=>chkF Z a S l && chkF Z b S r | _=>false
 | .range _,_,_=>false
 | .add a b,S,py=>match py with | .BinOp l .Add r _=>chkE Z a S l && chkE Z b S r | _=>false
 | .rep a b,S,py=>match py with | .BinOp l .Mult r _=>chkE Z a S l && chkE Z b S r | _=>false
 | .compC elt t en a ifs,S,py=>match py with
  | .ListComp pe [⟨tg,iter,qs,k⟩] scope _=>(((!S.hot && decide (k = 0)) && notSet iter) && blkB S scope (tgN t)) && (chkIcF Z (fun p=>chkE Z a S p) en S tg iter && (chkTg t (S.inner scope) tg && ((decide (qs.length ≤ 1) && chkA Z ifs (S.inner scope) qs) && chkE Z elt (S.inner scope) pe)))
  | _=>false
 | .splt a b,S,py=>match py with
  | .Call (.Attribute o nm apos) [p] ks pos=>(noKw ks && (decide (("split" : Str) = nm) && abOk o)) && (((apos.endLine == pos.line) && notStar p) && (chkE Z a S o && chkE Z b S p))
  | _=>false
 | .scr i,S,py=>match py with | .Call (.Name x _) [.Name y _] ks _=>noKw ks && (decide (("list" : Str) = x) && (chkB Z S x && chkV S i y)) | _=>false
def chkIt (Z : Zs) : It → Sx → Expr → Expr → Bool
 | .chs a,S,_,py=>chkE Z a S py
 | .seq a,S,_,py=>chkE Z a S py
 | .range1 a,S,_,py=>match py with | .Call (.Name x _) [p] ks _=>(noKw ks && (decide (("range" : Str) = x) && chkB Z S x)) && (notStar p && chkE Z a S p) | _=>false
end
def chkIc (Z : Zs) (en : Bool) (a : E) (S : Sx) (tg py : Expr) : Bool:=chkIcF Z (fun p=>chkE Z a S p) en S tg py
/-- the callees,at a depth -/
structure Lv (Z : Zs) (T : Nat → Cfg) (B : Tb0) (P : Program) (w : World) (K : PySem.W.Frag) (mg : Str → Option Value) (base : Heap) (n : Nat) : Prop where
 fn : ∀ f x,Z.fnm f = some x → ∃ a,mg x = some (.ref a) ∧ DefOk B P w K mg base (2 * n) ((T n).call f) a
 me : MethOk B P w K mg base (2 * n) (T n)
 made : ∀ c x,Z.cnm c = some x → MakeOk B P w K mg base (2 * n) (T n) c x
 fl : FldOk B K (T n)
 bl : ∀ x,x ∈ Z.blt → mg x = none
 gi : ∀ x i,Z.gi.lookup x = some i → ∃ t,mg x = some (.int i t)
 gs : ∀ x s,Z.gs.lookup x = some s → ∃ t,mg x = some (.str s t)
 gk : ∀ x ws,Z.gk.lookup x = some ws → ∃ a,mg x = some (.ref a) ∧ B.kt a ws
 kto : KtOk B K
 an : B.fn = Z.anm
 kl : ScrOk B K
 isc : IscOk B K (T n)
 eqm : EqmOk B P w K mg base (2 * n) (T n)
 nem : NemOk B P w K mg base (2 * n) (T n)
 xm : XmOk B K (T n)
 xis : XisOk B K (T n)
 xn : ∀ c x,Z.xnm c = some x → mg x = some (.ref (B.ca c))
 rn : ∀ c x,Z.rnm c = some x → RaiAt K mg (B.ca c) x
 en : ∀ c x,Z.enm c = some x → RaeAt B P w K mg base c x
 xfo : XfOk B K (T n)
 xvo : XivOk B K (T n)
 hn : ∀ f x,Z.hnm f = some x → ∃ a,mg x = some (.ref a) ∧ DefH B P w K mg base (2 * n) ((T n).call f) a
structure XOk (Z : Zs) (T : Nat → Cfg) (B : Tb) (n : Nat) (S : Sx) (X : Cx) : Prop where
 N : X.N = S.N
 nd : S.N.Nodup
 nms : X.env.scope.names = S.nms
 kd : X.env.scope.kind = .function
 fn : S.top = true → ∀ x,X.fn x = true
 calm : S.hot = false → X.calm = true
 room : S.hot = false → Room (2 * n + 1) X.A
 hu1 : X.A.units + 65 < cLine
 kp : B.xk = S.kept
 lk : XLk B X
 hotx : S.hot = true → S.top = true → XHot B X
 hotc : S.hot = true → L2H.HotC X ∧ L2H.RoomH (2 * n + 1) X.A
 stk : S.top = true → X.stack = X.env :: X.outer ∧ X.env.frame = some X.env.locals
 pas : PassesOwn (model X.prog X.w) X.A X.env X.xe
 lv : Lv Z T B X.prog X.w X.K X.mg X.base n
section
variable {Z : Zs} {T : Nat → Cfg} {B : Tb} {n : Nat} {S : Sx} {X : Cx} {py pa pb pc : Expr}
theorem zZJr {x : Str} (h : nmOk x = true) : (x == ("__debug__" : Str)) = false ∧ (x == ("__classdict__" : Str)) = false:=by
 unfold nmOk at h
 simp only [Bool.and_eq_true,Bool.not_eq_true'] at h
 exact h
theorem zZM8 {sc : Scope} {x : Str} (h : visB (sc.names.lookup x) = true) : Vis sc x:=by
 unfold Vis
 revert h
 cases sc.names.lookup x with
 | none=>intro h; cases h
 | some k=>cases k <;> intro h <;> first | exact .inl rfl | exact .inr (.inl rfl) | exact .inr (.inr rfl) | cases h
theorem XOk.hu (o : XOk Z T B n S X) : X.A.units + 64 < cLine:=by have:=o.hu1; omega
theorem XOk.var (o : XOk Z T B n S X) {i : Nat} {x : Str} (h : chkV S i x = true) : X.N[i]? = some x ∧ Vis X.env.scope x ∧ (x == ("__debug__" : Str)) = false ∧ (x == ("__classdict__" : Str)) = false:=by
 unfold chkV at h
 simp only [Bool.and_eq_true,decide_eq_true_eq] at h
 exact ⟨by rw [o.N]; exact h.1,zZM8 (by rw [o.nms]; exact h.2.1),zZJr h.2.2⟩
theorem XOk.gl (o : XOk Z T B n S X) {x : Str} (h : chkG S x = true) : Gl X x ∧ (x == ("__debug__" : Str)) = false:=by
 unfold chkG at h
 simp only [Bool.and_eq_true,decide_eq_true_eq] at h
 refine ⟨?_,(zZJr h.2).1⟩
 show X.env.scope.names.lookup x = _
 rw [o.nms]
 exact h.1
theorem XOk.bl (o : XOk Z T B n S X) {x : Str} (h : chkB Z S x = true) : Gl X x ∧ X.mg x = none:=by
 unfold chkB at h
 simp only [Bool.and_eq_true] at h
 exact ⟨(o.gl h.1).1,o.lv.bl x (by simpa using h.2)⟩
theorem XOk.free (o : XOk Z T B n S X) {i : Nat} {x : Str} (h : chkL S i x = true) : i ∉ B.xk:=by
 unfold chkL at h
 simp only [Bool.and_eq_true] at h
 rw [o.kp]
 simpa using h.1.2
theorem XOk.loc (o : XOk Z T B n S X) {i : Nat} {x : Str} (h : chkL S i x = true) : X.N[i]? = some x ∧ (X.fn x = true ∨ X.env.scope.names.lookup x = some .local) ∧ L2.Loc X.env.scope x:=by
 unfold chkL at h
 simp only [Bool.and_eq_true,Bool.or_eq_true,decide_eq_true_eq] at h
 refine ⟨by rw [o.N]; exact h.1.1, ?_⟩
 rcases h.2 with e | ⟨e1,e2⟩
 ·have e : X.env.scope.names.lookup x = some .local:=by rw [o.nms]; exact e
  exact ⟨.inr e,.inl e⟩
 ·have e : X.env.scope.names.lookup x = some .cell:=by rw [o.nms]; exact e2
  exact ⟨.inl (o.fn e1 x),.inr e⟩
theorem XOk.rm1 (o : XOk Z T B n S X) (h : S.hot = false) : Room (2 * n + 1) X.A:=o.room h
theorem XOk.rm (o : XOk Z T B n S X) (h : S.hot = false) : Room (2 * n) X.A:=(o.room h).mono (Nat.le_succ _)
theorem zZDk {o : Expr} {m : Str} {env : PySem.Env} {wh : Sem Value} (h : abOk o = true) : attributeBase o m env wh = wh:=by
 cases o with
 | Call f args ks pos =>
  cases args with
  | nil=>cases h
  | cons a as=>cases f <;> rfl
 | _=>rfl
theorem zZLa {b : Expr} (h : ixOk b = true) : PlainIx b:=by
 intro o i
 cases b <;> first | rfl | cases h
theorem xZD {e : Expr} {env : PySem.Env} (h : notSet e = true) : ∀ x,foldedSetIterable e env x = pure x:=by
 intro x
 cases e <;> first | rfl | cases h
theorem zZKu {scope : Scope} {env : PySem.Env} {nms : List (Str × NameKind)} (h : env.scope.names = nms) (hk : env.scope.kind = .function) : (relabel scope env).names = relab nms scope.names:=by
 unfold relabel relab PySem.Env.kindOf
 rw [h,hk]
 have : (ScopeKind.function == ScopeKind.function) = true:=rfl
 simp only [this,Bool.and_true]
theorem XLk.mute : XLk B.mute X:=⟨takes0N,fun _ _ _ _ _ _ _ _ _ q=>q.elim⟩
theorem XOk.inner (o : XOk Z T B n S X) (hc : S.hot = false) {scope : Scope} {X' : Cx} (hk : scope.kind = .function) (h : Blk X scope X') : XOk Z T B.mute n (S.inner scope) X':=by
 obtain ⟨s,H,C,cl,fp,rfl⟩:=h
 exact ⟨o.N,o.nd,zZKu o.nms o.kd,hk,(fun z=>Bool.noConfusion z),o.calm,o.room,o.hu1,o.kp,XLk.mute,(fun z=>by rw [show (S.inner scope).hot = S.hot from rfl,hc] at z; cases z),(fun z=>by rw [show (S.inner scope).hot = S.hot from rfl,hc] at z; cases z),(fun z=>Bool.noConfusion z),PassesOwn.never,o.lv⟩
theorem zZBM (o : XOk Z T B n S X) {scope : Scope} {ns : List Nat} (h : blkB S scope ns = true) : blkC X.N X.env.scope scope (ownOf X.N ns) = true ∧ scope.kind = .function:=by
 unfold blkB at h
 rw [o.N]
 refine ⟨?_, ?_⟩
 ·unfold blkC at h ⊢
  rw [o.nms]
  exact h
 ·unfold blkC at h
  simp only [Bool.and_eq_true] at h
  have:=h.1.1.1
  revert this
  cases scope.kind <;> intro h <;> first | rfl | cases h
def plainB (e : Expr) : Bool:=match e with | .UnaryOp .Not _ _=>false | .BoolOp _ _ _=>false | .IfExp _ _ _ _=>false | .Compare _ _ _ _=>false | _=>true
theorem plainT {e : Expr} (h : plainB e = true) (env : PySem.Env) (wh : Sem Value) :
  isTrue e env wh = (do let v ← wh; standAt e.pos; holding [v] (truthy v)):=by
 cases e with
 | UnaryOp op a p=>cases op <;> first | rfl | cases h
 | BoolOp _ _ _=>cases h
 | IfExp _ _ _ _=>cases h
 | Compare _ _ _ _=>cases h
 | _=>rfl
/-- as a value and as a test -/
def Both (B : Tb) (X : Cx) (e : E) (py : Expr) (f : Env → Wd → R D) : Prop:=EOk B X py f ∧ (e.isIfe = false → TOk B X py (tv f))
theorem Both.of {e : E} {f : Env → Wd → R D} (h : EOk B X py f) (hp : plainB py = true) : Both B X e py f :=
 ⟨h,fun _=>zZJj h fun wh=>plainT hp X.env wh⟩
theorem yZM {a : E} {g : Cfg} (o : XOk Z T B n S X) (hc : chkE Z a S py = true) (h : EOk B X py (evE g a)) : SOk B X py (srcOf a (evE g a)):=by
 cases a with
 | var i =>
  unfold chkE at hc
  split at hc
  ·obtain ⟨h1,h2,h3,h4⟩:=o.var hc
   exact zZMg h1 h2 h3 h4 g
  ·cases hc
 | _=>exact zZNa h
theorem zZIc {a : E} {g : Cfg} (o : XOk Z T B n S X) (hc : chkE Z a S py = true) (h : EOk B X py (evE g a)) : ObOk B X py (objOf a (evE g a)):=by
 cases a with
 | var i =>
  unfold chkE at hc
  split at hc
  ·obtain ⟨h1,h2,h3,h4⟩:=o.var hc
   exact zZKP h1 h2 h3 h4 g
  ·cases hc
 | _=>exact zZMP h
theorem zZLU {t : Tg} (h : chkTg t S py = true) : notStar py = true:=by
 cases t <;> unfold chkTg at h <;> split at h <;> first | rfl | cases h
theorem zZIE : ∀ (ts : Tgs) (S : Sx) (ps : List Expr) (ds : List D) (e e' : Env),chkTgs ts S ps = true → tgsD ts ds e = some e' → ds.length = ps.length
 | .nil,S,[],[],_,_,_,_=>rfl
 | .nil,S,[],d :: ds,_,_,_,h=>by simp [tgsD] at h
 | .nil,S,p :: ps,_,_,_,h,_=>by simp [chkTgs] at h
 | .cons t ts,S,[],_,_,_,h,_=>by simp [chkTgs] at h
 | .cons t ts,S,p :: ps,[],_,_,_,h=>by simp [tgsD] at h
 | .cons t ts,S,p :: ps,d :: ds,e,e',h,q=>by
  simp only [chkTgs,Bool.and_eq_true] at h
  simp only [tgsD,Option.bind_eq_some_iff] at q
  obtain ⟨e1,_,q⟩:=q
  simp [zZIE ts S ps ds e1 e' h.2 q]
mutual
theorem zZLS : ∀ (t : Tg) (S : Sx) (py : Expr),chkTg t S py = true → ∀ i ∈ tgN t,i ∉ S.kept
 | .nm i,S,py,h=>by
  unfold chkTg at h
  split at h
  ·unfold chkL at h
   simp only [Bool.and_eq_true] at h
   intro j hj
   simp only [tgN,List.mem_singleton] at hj
   subst hj
   simpa using h.1.2
  ·cases h
 | .tup ts,S,py,h=>by
  unfold chkTg at h
  split at h
  ·simp only [Bool.and_eq_true] at h
   exact zZJM ts S _ h.2
  ·cases h
theorem zZJM : ∀ (t : Tgs) (S : Sx) (py : List Expr),chkTgs t S py = true → ∀ i ∈ tgsN t,i ∉ S.kept
 | .nil,S,py,h=>fun i hi=>by simp [tgsN] at hi
 | .cons t ts,S,py,h=>by
  unfold chkTgs at h
  split at h
  ·simp only [Bool.and_eq_true] at h
   intro i hi
   simp only [tgsN,List.mem_append] at hi
   rcases hi with hi | hi
   ·exact zZLS t S _ h.1 i hi
   ·exact zZJM ts S _ h.2 i hi
  ·cases h
end
theorem xZ7 (o : XOk Z T B n S X) {t : Tg} {S' : Sx} {py : Expr} (e : S'.kept = S.kept) (h : chkTg t S' py = true) : ∀ i ∈ tgN t,i ∉ B.xk:=by
 rw [o.kp,← e]
 exact zZLS t S' py h
mutual
theorem xZG : ∀ (t : Tg) (S : Sx) (X : Cx) (py : Expr),XOk Z T B n S X → chkTg t S py = true → GOk B X py (tgD t) (tgN t)
 | .nm i,S,X,py,o,h=>by
  unfold chkTg at h
  split at h
  ·obtain ⟨h1,h2,h3⟩:=o.loc h
   exact zZNT (o.free h) (by rw [o.N]; exact o.nd) h1 h3 h2
  ·cases h
 | .tup ts,S,X,py,o,h=>by
  unfold chkTg at h
  split at h
  ·rename_i es k pos
   simp only [Bool.and_eq_true,Bool.not_eq_true'] at h
   have q:=zZMG (k:=k) (pos:=pos) (o.calm h.1.1) (fun ds e e' z=>zZIE ts S es ds e e' h.2 z) h.1.2 (zZJP ts S X es o h.2)
   have e1 : tgD (.tup ts) = fun d e=>match d with | .tup xs=>tgsD ts xs e | .tupz xs=>tgsD ts xs e | _=>none:=by
    funext d e
    cases d <;> rfl
   rw [e1]
   exact q
  ·cases h
theorem zZJP : ∀ (t : Tgs) (S : Sx) (X : Cx) (py : List Expr),XOk Z T B n S X → chkTgs t S py = true → GsOk B X py (tgsD t) (tgsN t)
 | .nil,S,X,py,o,h=>by
  unfold chkTgs at h
  split at h
  ·have e1 : tgsD .nil = fun ds e=>match ds with | []=>some e | _=>none:=by
    funext ds e
    cases ds <;> rfl
   rw [e1]
   exact zZLC
  ·cases h
 | .cons t ts,S,X,py,o,h=>by
  unfold chkTgs at h
  split at h
  ·rename_i p ps
   simp only [Bool.and_eq_true] at h
   have e1 : tgsD (.cons t ts) = fun ds e=>match ds with | x :: xs=>(tgD t x e).bind fun e=>tgsD ts xs e | []=>none:=by
    funext ds e
    cases ds <;> rfl
   rw [e1]
   exact zZJs (zZLU h.1) (xZG t S X p o h.1) (zZJP ts S X ps o h.2)
  ·cases h
end
end
end DL
set_option maxRecDepth 100000
set_option maxHeartbeats 8000000
namespace DL
open PySem PySem.Spec PyProof.Rows
open L2 hiding St
section
variable {Z : Zs} {T : Nat → Cfg} {n : Nat}
theorem zZ2 {ks : List Keyword} (h : noKw ks = true) : ks = []:=by
 cases ks <;> first | rfl | cases h
theorem zZJx {es : Es} {S : Sx} (h : chkEs Z es S [] = true) : es = .nil:=by
 cases es <;> simp [chkEs] at h
 rfl
theorem zZLv {g : Cfg} {a : E} : evTs g (.cons a .nil) = fun e W=>(tv (evE g a) e W).bind fun k W=>.ok (.bl k) W:=by
 funext e W
 show ((evE g a e W).bind fun x W=>(opt (truD x) W).bind fun k W=>R.ok (D.bl k) W) = _
 unfold tv
 rw [R.bind_assoc]
theorem zZNp {B : Tb} {X : Cx} {x s : Str} (h : ∃ t,X.mg x = some (.str s t)) (hg : Gl X x) (hd : (x == ("__debug__" : Str)) = false) {pos : Pos} : EOk B X (.Name x pos) (fun _ W=>.ok (.str s) W):=by
 obtain ⟨t,h⟩:=h
 exact zZC9 (v:=.str s) (pe_glob (v:=.str s) hg h ⟨t,rfl⟩ hd) fun _ _=>.str s
theorem zZNo {B : Tb} {X : Cx} {x : Str} {ws : List Str} (h : ∃ a,X.mg x = some (.ref a) ∧ B.kt a ws) (hg : Gl X x) (hd : (x == ("__debug__" : Str)) = false) {pos : Pos} : EOk B X (.Name x pos) (fun _ W=>.ok (.kt ws) W):=by
 obtain ⟨a,h,h2⟩:=h
 exact zZC9 (v:=.ref a) (pe_glob (v:=.ref a) hg h rfl hd) fun _ _=>.kt h2
theorem zZNs {B : Tb} {X : Cx} {x : Str} {i : Int} (h : ∃ t,X.mg x = some (.int i t)) (hg : Gl X x) (hd : (x == ("__debug__" : Str)) = false) {pos : Pos} : EOk B X (.Name x pos) (fun _ W=>.ok (.int i) W):=by
 obtain ⟨t,h⟩:=h
 exact zZC9 (v:=.int i) (pe_glob (v:=.int i) hg h ⟨t,rfl⟩ hd) fun _ _=>.int i
theorem zZFx {en : Bool} {a : E} {B : Tb} {S : Sx} {X : Cx} {tg py : Expr} (o : XOk Z T B n S X) (k : ∀ py,chkE Z a S py = true → EOk B X py (evE (T n) a)) (h : chkIc Z en a S tg py = true) : ItcOk B X tg py en (evE (T n) a):=by
 unfold chkIc chkIcF at h
 split at h
 ·rename_i he
  subst he
  split at h
  ·simp only [Bool.and_eq_true,decide_eq_true_eq] at h
   obtain ⟨⟨h1,h2,h3⟩,⟨h4,h5⟩,h6⟩:=h
   cases zZ2 h1
   subst h2
   obtain ⟨g1,g2⟩:=o.bl h3
   cases tg <;> first | cases h4 | skip
   exact zZK7 g1 g2 h5 (k _ h6)
  ·cases h
 ·rename_i he
  have : en = false:=by simpa using he
  subst this
  exact zZLq (k _ h)
theorem zZKV {a b : E} {B : Tb} {S : Sx} {X : Cx} {py : Expr} (o : XOk Z T B n S X) (h : chkE Z (.join a b) S py = true) (ka : ∀ py,chkE Z a S py = true → EOk B X py (evE (T n) a)) (kb : ∀ py,chkE Z b S py = true → EOk B X py (evE (T n) b)) : Both B X (.join a b) py (evE (T n) (.join a b)):=by
  unfold chkE at h
  split at h
  ·simp only [Bool.and_eq_true,decide_eq_true_eq] at h
   obtain ⟨⟨h1,h2,h3⟩,⟨h4,h5⟩,h6,h7⟩:=h
   cases zZ2 h1
   subst h2
   exact .of (zZKx h5 (zZDk h3) h4 (ka _ h6) (yZM o h7 (kb _ h7))) rfl
  ·cases h
theorem zZNZ {x s : Str} {B : Tb} {S : Sx} {X : Cx} {py : Expr} (o : XOk Z T B n S X) (h : chkE Z (.gs x s) S py = true)  : Both B X (.gs x s) py (evE (T n) (.gs x s)):=by
  unfold chkE at h
  split at h
  ·simp only [Bool.and_eq_true,decide_eq_true_eq] at h
   obtain ⟨h0,rfl,h3⟩:=h
   obtain ⟨h1,h2⟩:=o.gl h0
   exact .of (zZNp (o.lv.gs _ _ h3) h1 h2) rfl
  ·cases h
theorem zZNW {x : Str} {ws : List Str} {B : Tb} {S : Sx} {X : Cx} {py : Expr} (o : XOk Z T B n S X) (h : chkE Z (.gk x ws) S py = true)  : Both B X (.gk x ws) py (evE (T n) (.gk x ws)):=by
  unfold chkE at h
  split at h
  ·simp only [Bool.and_eq_true,decide_eq_true_eq] at h
   obtain ⟨h0,rfl,h3⟩:=h
   obtain ⟨h1,h2⟩:=o.gl h0
   exact .of (zZNo (o.lv.gk _ _ h3) h1 h2) rfl
  ·cases h
theorem zZL3 {neg : Bool} {a b : E} {B : Tb} {S : Sx} {X : Cx} {py : Expr} (o : XOk Z T B n S X) (h : chkE Z (.kin neg a b) S py = true) (ka : ∀ py,chkE Z a S py = true → EOk B X py (evE (T n) a)) (kb : ∀ py,chkE Z b S py = true → EOk B X py (evE (T n) b)) : Both B X (.kin neg a b) py (evE (T n) (.kin neg a b)):=by
  unfold chkE at h
  split at h
  ·simp only [Bool.and_eq_true,decide_eq_true_eq,Bool.not_eq_true'] at h
   obtain ⟨⟨rfl,hm⟩,h1,h2⟩:=h
   have ka:=(ka _ h1)
   have kb:=(kb _ h2)
   exact ⟨zZFM (zZI8 neg o.hu1 o.lv.kto) hm ka kb,fun _=>zZFP (zZI8 neg o.hu1 o.lv.kto) (zZNK neg) hm ka kb⟩
  ·cases h
theorem zZMF {neg : Bool} {a b : E} {B : Tb} {S : Sx} {X : Cx} {py : Expr} (o : XOk Z T B n S X) (h : chkE Z (.inS neg a b) S py = true) (ka : ∀ py,chkE Z a S py = true → EOk B X py (evE (T n) a)) (kb : ∀ py,chkE Z b S py = true → EOk B X py (evE (T n) b)) : Both B X (.inS neg a b) py (evE (T n) (.inS neg a b)):=by
  unfold chkE at h
  split at h
  ·simp only [Bool.and_eq_true,decide_eq_true_eq,Bool.not_eq_true'] at h
   obtain ⟨⟨rfl,hm⟩,h1,h2⟩:=h
   have ka:=(ka _ h1)
   have kb:=(kb _ h2)
   exact ⟨zZFM (zZIW neg) hm ka kb,fun _=>zZFP (zZIW neg) (zZMp neg) hm ka kb⟩
  ·cases h
theorem zZLt {a : E} {B : Tb} {S : Sx} {X : Cx} {py : Expr} (o : XOk Z T B n S X) (h : chkE Z (.dof a) S py = true) (ka : ∀ py,chkE Z a S py = true → EOk B X py (evE (T n) a)) : Both B X (.dof a) py (evE (T n) (.dof a)):=by
  unfold chkE at h
  split at h
  ·simp only [Bool.and_eq_true,decide_eq_true_eq] at h
   obtain ⟨⟨h1,h2,h3⟩,h4,h6⟩:=h
   cases zZ2 (ck2 h1)
   subst h2
   obtain ⟨g1,g2⟩:=o.bl h3
   exact .of (zZL1 (o.calm (ck1 h1)) g1 g2 h4 (ka _ h6)) rfl
  ·cases h
mutual
theorem zZA : ∀ (a : E) (B : Tb) (S : Sx) (X : Cx) (py : Expr),XOk Z T B n S X → chkE Z a S py = true → Both B X a py (evE (T n) a)
 | .non,B,S,X,py,o,h=>by
  unfold chkE at h
  split at h
  ·exact .of zZMM rfl
  ·cases h
 | .bl b,B,S,X,py,o,h=>by
  unfold chkE at h
  split at h
  ·have:=of_decide_eq_true h
   subst this
   exact .of zZNf rfl
  ·cases h
 | .int i,B,S,X,py,o,h=>by
  unfold chkE at h
  split at h
  ·have:=of_decide_eq_true h
   subst this
   exact .of zZMQ rfl
  ·simp only [Bool.and_eq_true,decide_eq_true_eq] at h
   obtain ⟨h1,h2⟩:=o.gl h.1
   exact .of (zZNs (o.lv.gi _ _ h.2) h1 h2) rfl
  ·cases h
 | .str s,B,S,X,py,o,h=>by
  unfold chkE at h
  split at h
  ·have:=of_decide_eq_true h
   subst this
   exact .of zZMw rfl
  ·cases h
 | .var i,B,S,X,py,o,h=>by
  unfold chkE at h
  split at h
  ·obtain ⟨h1,h2,h3,h4⟩:=o.var h
   exact .of (zZLk h1 h2 h3 h4) rfl
  ·cases h
 | .bin op a b,B,S,X,py,o,h=>by
  unfold chkE at h
  split at h
  ·simp only [Bool.and_eq_true,decide_eq_true_eq] at h
   obtain ⟨rfl,h1,h2⟩:=h
   exact .of (zZMC op (zZA a _ S X _ o h1).1 (zZA b _ S X _ o h2).1) rfl
  ·cases h
 | .neg a,B,S,X,py,o,h=>by
  unfold chkE at h
  split at h
  ·exact .of (zZL6 (zZA a _ S X _ o h).1) rfl
  ·cases h
 | .cmp op a b,B,S,X,py,o,h=>by
  unfold chkE at h
  split at h
  ·simp only [Bool.and_eq_true,decide_eq_true_eq,Bool.not_eq_true'] at h
   obtain ⟨⟨rfl,hm⟩,h1,h2⟩:=h
   have ka:=(zZA a _ S X _ o h1).1
   have kb:=(zZA b _ S X _ o h2).1
   have sb:=yZM o h2 kb
   cases op with
   | inn=>exact ⟨zZNU hm ka sb,fun _=>zZIL op_in_seq hm ka sb⟩
   | notin=>exact ⟨zZJe hm ka sb,fun _=>zZIL op_notIn_seq hm ka sb⟩
   | eq=>exact ⟨yZ6 .eq (by simp) (by simp) o.hu ka kb,fun _=>yZ7 .eq (by simp) (by simp) o.hu ka kb⟩
   | ne=>exact ⟨yZ6 .ne (by simp) (by simp) o.hu ka kb,fun _=>yZ7 .ne (by simp) (by simp) o.hu ka kb⟩
   | lt=>exact ⟨yZ6 .lt (by simp) (by simp) o.hu ka kb,fun _=>yZ7 .lt (by simp) (by simp) o.hu ka kb⟩
   | le=>exact ⟨yZ6 .le (by simp) (by simp) o.hu ka kb,fun _=>yZ7 .le (by simp) (by simp) o.hu ka kb⟩
   | gt=>exact ⟨yZ6 .gt (by simp) (by simp) o.hu ka kb,fun _=>yZ7 .gt (by simp) (by simp) o.hu ka kb⟩
   | ge=>exact ⟨yZ6 .ge (by simp) (by simp) o.hu ka kb,fun _=>yZ7 .ge (by simp) (by simp) o.hu ka kb⟩
   | isN=>exact ⟨yZ6 .isN (by simp) (by simp) o.hu ka kb,fun _=>yZ7 .isN (by simp) (by simp) o.hu ka kb⟩
   | leS=>exact ⟨yZ6 .leS (by simp) (by simp) o.hu ka kb,fun _=>yZ7 .leS (by simp) (by simp) o.hu ka kb⟩
   | notN=>exact ⟨yZ6 .notN (by simp) (by simp) o.hu ka kb,fun _=>yZ7 .notN (by simp) (by simp) o.hu ka kb⟩
  ·cases h
 | .chain o1 o2 a b c,B,S,X,py,o,h=>by
  unfold chkE at h
  split at h
  ·simp only [Bool.and_eq_true,decide_eq_true_eq] at h
   obtain ⟨⟨rfl,rfl⟩,⟨g1,g2,g3,g4⟩,h1,h2,h3⟩:=h
   have ka:=(zZA a _ S X _ o h1).1
   have kb:=(zZA b _ S X _ o h2).1
   have kc:=(zZA c _ S X _ o h3).1
   have n1 : o1 ≠ .inn:=by rintro rfl; exact g1 rfl
   have n2 : o1 ≠ .notin:=by rintro rfl; exact g2 rfl
   have n3 : o2 ≠ .inn:=by rintro rfl; exact g3 rfl
   have n4 : o2 ≠ .notin:=by rintro rfl; exact g4 rfl
   exact ⟨zZJ4 n1 n2 n3 n4 o.hu ka kb kc,fun _=>zZJz n1 n2 n3 n4 o.hu ka kb kc⟩
  ·cases h
 | .and es,B,S,X,py,o,h=>by
  unfold chkE at h
  split at h
  ·simp only [Bool.and_eq_true,Bool.not_eq_true'] at h
   obtain ⟨k1,k2⟩:=a_ok es _ S X _ _ o h.1 h.2
   exact ⟨k1.1,fun _=>TOk.ofW k1.2⟩
  ·cases h
 | .or es,B,S,X,py,o,h=>by
  unfold chkE at h
  split at h
  ·simp only [Bool.and_eq_true,Bool.not_eq_true'] at h
   obtain ⟨k1,k2⟩:=a_ok es _ S X _ _ o h.1 h.2
   exact ⟨k2.1,fun _=>TOk.ofW k2.2⟩
  ·cases h
 | .not a,B,S,X,py,o,h=>by
  unfold chkE at h
  split at h
  ·simp only [chkT,Bool.and_eq_true,Bool.not_eq_true'] at h
   obtain ⟨k1,k2⟩:=zZA a _ S X _ o h.2
   exact ⟨zZLL k1,fun _=>zZMh (k2 h.1)⟩
  ·cases h
 | .ife c a b,B,S,X,py,o,h=>by
  unfold chkE at h
  split at h
  ·simp only [chkT,Bool.and_eq_true,Bool.not_eq_true'] at h
   obtain ⟨⟨h0,h1⟩,h2,h3⟩:=h
   exact ⟨zZMk ((zZA c _ S X _ o h1).2 h0) (zZA a _ S X _ o h2).1 (zZA b _ S X _ o h3).1,fun z=>by cases z⟩
  ·cases h
 | .fld f a,B,S,X,py,o,h=>by
  unfold chkE at h
  split at h
  ·simp only [Bool.and_eq_true,decide_eq_true_eq] at h
   obtain ⟨⟨h1,h2⟩,h3⟩:=h
   exact .of (zZLe o.lv.fl (by rw [o.lv.an]; exact h1) (zZDk h2) (zZIc o h3 (zZA a _ S X _ o h3).1)) rfl
  ·cases h
 | .idx a b,B,S,X,py,o,h=>by
  unfold chkE at h
  split at h
  ·simp only [Bool.and_eq_true] at h
   exact .of (zZMr (zZLa h.1) (yZM o h.2.1 (zZA a _ S X _ o h.2.1).1) (zZA b _ S X _ o h.2.2).1) rfl
  ·cases h
 | .sl a lo hi,B,S,X,py,o,h=>by
  unfold chkE at h
  split at h
  ·simp only [Bool.and_eq_true] at h
   exact .of (zZNC (zZA a _ S X _ o h.1).1 (o_ok lo _ S X _ o h.2.1) (o_ok hi _ S X _ o h.2.2)) rfl
  ·cases h
 | .tup es,B,S,X,py,o,h=>by
  unfold chkE at h
  split at h
  ·exact .of (zZMs (zZCk es _ S X _ o h)) rfl
  ·cases h
 | .frz f,B,S,X,py,o,h=>by
  unfold chkE at h
  obtain ⟨k,p⟩:=f_ok f _ S X py o h
  exact .of (zZLg k) p
 | .cell f,B,S,X,py,o,h=>by
  unfold chkE at h
  obtain ⟨k,p⟩:=f_ok f _ S X py o h
  exact .of (zZK3 k) p
 | .call f es,B,S,X,py,o,h=>by
  unfold chkE at h
  split at h
  ·rename_i x p1 ps ks pos
   simp only [Bool.and_eq_true,decide_eq_true_eq] at h
   obtain ⟨⟨⟨h1,h3⟩,h2⟩,h4,h5⟩:=h
   cases zZ2 h1
   obtain ⟨g1,g2⟩:=o.gl h3
   split at h2
   ·rename_i hh
    simp only [Bool.and_eq_true,decide_eq_true_eq,Bool.not_eq_true'] at h2
    obtain ⟨h2,h6,h7⟩:=h2
    obtain ⟨a,hm,Fn⟩:=o.lv.hn f x h2
    obtain ⟨c1,c2⟩:=o.hotc hh
    cases ps with
    | nil=>simp at h7
    | cons p ps=>exact .of (zZJX Fn o.lk (c2.mono (Nat.le_succ _)) c1 g1 hm g2 h6 (zZCk es _ S X _ o h5)) rfl
   ·rename_i hh
    have hc : S.hot = false:=by simpa using hh
    have h2:=of_decide_eq_true h2
    obtain ⟨a,hm,Fn⟩:=o.lv.fn f x h2
    cases ps with
    | nil =>
     cases zZJx h5
     exact .of (zZJu Fn o.lk (o.rm hc) g1 hm g2) rfl
    | cons p ps=>exact .of (zZLN Fn o.lk (o.rm hc) g1 hm g2 h4 (zZCk es _ S X _ o h5)) rfl
  ·cases h
 | .make c es,B,S,X,py,o,h=>by
  unfold chkE at h
  split at h
  ·rename_i x p1 p ps ks pos
   simp only [Bool.and_eq_true,decide_eq_true_eq] at h
   obtain ⟨⟨h1,h2,h3⟩,h4,h5⟩:=h
   cases zZ2 (ck2 h1)
   obtain ⟨g1,g2⟩:=o.gl h3
   exact .of (zZKm (o.lv.made c x h2) o.lk (o.room (ck1 h1)) g1 g2 (by simpa using h4) (zZCk es _ S X _ o h5)) rfl
  ·cases h
 | .meth m a es,B,S,X,py,o,h=>by
  unfold chkE at h
  split at h
  ·rename_i ob nm apos ps ks pos
   simp only [Bool.and_eq_true,decide_eq_true_eq] at h
   obtain ⟨⟨h1,h2,h3⟩,⟨h4,h5,h6⟩,h7,h8⟩:=h
   cases zZ2 (ck2 h1)
   cases ps with
   | nil =>
    cases zZJx h8
    exact .of (zZJB o.lk o.lv.me (o.rm (ck1 h1)) (by rw [o.lv.an]; exact h2) (zZDk h3) h4 (zZA a _ S X _ o h7).1) rfl
   | cons p ps=>exact .of (zZKh o.lk o.lv.me (o.rm (ck1 h1)) (by rw [o.lv.an]; exact h2) (zZDk h3) h4 h5 h6 (zZA a _ S X _ o h7).1 (zZCk es _ S X _ o h8)) rfl
  ·cases h
 | .b1 b a,B,S,X,py,o,h=>by
  unfold chkE at h
  split at h
  ·rename_i x p1 p ks pos
   simp only [Bool.and_eq_true,decide_eq_true_eq] at h
   obtain ⟨⟨h1,h2,h3⟩,h4,h5⟩:=h
   have hk : noKw ks = true:=by
    split at h1
    ·exact h1
    ·exact ck2 h1
   cases zZ2 hk
   subst h2
   obtain ⟨g1,g2⟩:=o.bl h3
   have ka:=(zZA a _ S X _ o h5).1
   have sa:=yZM o h5 ka
   cases b with
   | int=>exact .of (zZG2 .int rfl g1 g2 h4 ka) rfl
   | str=>exact .of (zZG2 .str rfl g1 g2 h4 ka) rfl
   | tuple=>exact .of (zZBD .tuple rfl o.hu (o.calm (ck1 h1)) g1 g2 h4 sa) rfl
   | len=>exact .of (zZBD .len rfl o.hu (o.calm (ck1 h1)) g1 g2 h4 sa) rfl
   | sum=>exact .of (zZBD .sum rfl o.hu (o.calm (ck1 h1)) g1 g2 h4 sa) rfl
   | any=>exact .of (zZBD .any rfl o.hu (o.calm (ck1 h1)) g1 g2 h4 sa) rfl
   | all=>exact .of (zZBD .all rfl o.hu (o.calm (ck1 h1)) g1 g2 h4 sa) rfl
   | max=>exact .of (zZBD .max rfl o.hu (o.calm (ck1 h1)) g1 g2 h4 sa) rfl
   | min=>exact .of (zZBD .min rfl o.hu (o.calm (ck1 h1)) g1 g2 h4 sa) rfl
  ·cases h
 | .isi a t,B,S,X,py,o,h=>by
  unfold chkE at h
  split at h
  ·rename_i x p1 p y p2 ks pos
   simp only [Bool.and_eq_true,decide_eq_true_eq] at h
   obtain ⟨⟨h1,h2,h3⟩,⟨h4,h5⟩,h6,h7⟩:=h
   cases zZ2 h1
   subst h2
   subst h4
   obtain ⟨g1,g2⟩:=o.bl h3
   obtain ⟨g3,g4⟩:=o.bl h5
   exact .of (zZLw t g1 g2 g3 g4 h6 (zZA a _ S X _ o h7).1) rfl
  ·cases h
 | .isc a c,B,S,X,py,o,h=>by
  unfold chkE at h
  split at h
  ·rename_i x p1 p y p2 ks pos
   simp only [Bool.and_eq_true,decide_eq_true_eq] at h
   obtain ⟨⟨h1,h2,h3⟩,⟨h4,h5⟩,h6,h7⟩:=h
   cases zZ2 h1
   subst h2
   obtain ⟨g1,g2⟩:=o.bl h3
   obtain ⟨g3,g4⟩:=o.gl h5
   exact .of (zZMb o.lv.isc g1 g2 g3 (o.lv.made c y h4).1 g4 h6 (zZIc o h7 (zZA a _ S X _ o h7).1)) rfl
  ·cases h
 | .eqo a b,B,S,X,py,o,h=>by
  unfold chkE at h
  split at h
  ·simp only [Bool.and_eq_true,decide_eq_true_eq,Bool.not_eq_true'] at h
   obtain ⟨⟨rfl,hc,hm⟩,h1,h2⟩:=h
   have ka:=(zZA a _ S X _ o h1).1
   have kb:=(zZA b _ S X _ o h2).1
   exact ⟨zZL9 o.lv.eqm (o.rm hc) hm ka kb,fun _=>zZLo o.lv.eqm (o.rm hc) hm ka kb⟩
  ·cases h
 | .dget a b,B,S,X,py,o,h=>by
  unfold chkE at h
  split at h
  ·simp only [Bool.and_eq_true] at h
   exact .of (zZKg o.hu (zZLa h.1) (zZA a _ S X _ o h.2.1).1 (zZA b _ S X _ o h.2.2).1) rfl
  ·cases h
 | .join a b,B,S,X,py,o,h=>zZKV o h (fun py h=>(zZA a B S X py o h).1) (fun py h=>(zZA b B S X py o h).1)
 | .gs x s,B,S,X,py,o,h=>zZNZ o h
 | .gk x ws,B,S,X,py,o,h=>zZNW o h
 | .kin neg a b,B,S,X,py,o,h=>zZL3 o h (fun py h=>(zZA a B S X py o h).1) (fun py h=>(zZA b B S X py o h).1)
 | .inS neg a b,B,S,X,py,o,h=>zZMF o h (fun py h=>(zZA a B S X py o h).1) (fun py h=>(zZA b B S X py o h).1)
 | .dof a,B,S,X,py,o,h=>zZLt o h (fun py h=>(zZA a B S X py o h).1)
theorem d_ok : ∀ (es : Es) (ks : List Str) (B : Tb) (S : Sx) (X : Cx) (keys : List (Option Expr)) (vals : List Expr) (pos : Pos),XOk Z T B n S X → chkD Z es ks S keys vals = true →
  keys.all (·.isSome) = true ∧ keys.length = vals.length ∧ DOk B X pos keys vals ks (evEs (T n) es) ∧ (keys = [] → vals = [] ∧ ks = [] ∧ ∀ e W,evEs (T n) es e W = .ok [] W)
 | .nil,ks,B,S,X,keys,vals,pos,o,h=>by
  unfold chkD at h
  split at h
  ·exact ⟨rfl,rfl,zZMl,fun _=>⟨rfl,rfl,fun _ _=>rfl⟩⟩
  ·cases h
 | .cons a es,ks,B,S,X,keys,vals,pos,o,h=>by
  unfold chkD at h
  split at h
  ·simp only [Bool.and_eq_true,decide_eq_true_eq] at h
   obtain ⟨rfl,h1,h2⟩:=h
   obtain ⟨k1,k2,k3,_⟩:=d_ok es _ B S X _ _ pos o h2
   exact ⟨by simpa using k1,by simp [k2],zZKH (zZA a _ S X _ o h1).1 k3,fun z=>by cases z⟩
  ·cases h
 | .star _ _,ks,B,S,X,keys,vals,pos,o,h=>by simp [chkD] at h
theorem o_ok : ∀ (a : Oe) (B : Tb) (S : Sx) (X : Cx) (py : Option Expr),XOk Z T B n S X → chkO Z a S py = true → OOk B X py (evO (T n) a)
 | .none,B,S,X,py,o,h=>by
  unfold chkO at h
  split at h
  ·exact zZLF
  ·cases h
 | .some a,B,S,X,py,o,h=>by
  unfold chkO at h
  split at h
  ·exact zZKo (zZA a _ S X _ o h).1
  ·cases h
theorem zZCk : ∀ (es : Es) (B : Tb) (S : Sx) (X : Cx) (py : List Expr),XOk Z T B n S X → chkEs Z es S py = true → AOk B X py (evEs (T n) es)
 | .nil,B,S,X,py,o,h=>by
  unfold chkEs at h
  split at h
  ·exact zZMV
  ·cases h
 | .cons a es,B,S,X,py,o,h=>by
  unfold chkEs at h
  split at h
  ·simp only [Bool.and_eq_true] at h
   exact zZKM h.1 (zZA a _ S X _ o h.2.1).1 (zZCk es _ S X _ o h.2.2)
  ·cases h
 | .star a es,B,S,X,py,o,h=>by
  unfold chkEs at h
  split at h
  ·simp only [Bool.and_eq_true] at h
   exact zZLR (zZA a _ S X _ o h.1).1 (zZCk es _ S X _ o h.2)
  ·cases h
theorem a_ok : ∀ (es : Es) (B : Tb) (S : Sx) (X : Cx) (ps : List Expr) (pos : Pos),XOk Z T B n S X → es.isNil = false → chkA Z es S ps = true →
  (EOk B X (.BoolOp .And ps pos) (evAnd (T n) es) ∧ WOk B X (.BoolOp .And ps pos) (tv (evAnd (T n) es))) ∧ (EOk B X (.BoolOp .Or ps pos) (evOr (T n) es) ∧ WOk B X (.BoolOp .Or ps pos) (tv (evOr (T n) es)))
 | .nil,B,S,X,ps,pos,o,h,_=>by cases h
 | .star _ _,B,S,X,ps,pos,o,_,h=>by simp [chkA] at h
 | .cons a .nil,B,S,X,ps,pos,o,_,h=>by
  unfold chkA at h
  split at h
  ·rename_i p ps
   simp only [chkT,Bool.and_eq_true,Bool.not_eq_true'] at h
   obtain ⟨⟨h1,h2⟩,h3⟩:=h
   unfold chkA at h3
   split at h3
   ·obtain ⟨k1,k2⟩:=zZA a _ S X p o h2
    exact ⟨⟨zZIZ k1,zZKp (k2 h1)⟩,⟨zZIZ k1,zZME (k2 h1)⟩⟩
   ·cases h3
  ·cases h
 | .cons a (.star b es),B,S,X,ps,pos,o,_,h=>by
  unfold chkA at h
  split at h
  ·simp [chkA] at h
  ·cases h
 | .cons a (.cons b es),B,S,X,ps,pos,o,_,h=>by
  unfold chkA at h
  split at h
  ·rename_i p ps
   simp only [chkT,Bool.and_eq_true,Bool.not_eq_true'] at h
   obtain ⟨⟨h1,h2⟩,h3⟩:=h
   obtain ⟨k1,k2⟩:=zZA a _ S X p o h2
   have hps : ∃ q qs,ps = q :: qs:=by
    cases ps with
    | nil=>simp [chkA] at h3
    | cons q qs=>exact ⟨q,qs,rfl⟩
   obtain ⟨q,qs,rfl⟩:=hps
   obtain ⟨⟨j1,j2⟩,⟨j3,j4⟩⟩:=a_ok (.cons b es) _ S X (q :: qs) pos o rfl h3
   exact ⟨⟨zZMf k1 j1,zZMc (k2 h1) j2⟩,⟨zZNd k1 j3,zZNc (k2 h1) j4⟩⟩
  ·cases h
/-- the tests of a clause -/
theorem q_ok : ∀ (es : Es) (S : Sx) (ps : List Expr),ps.length ≤ 1 → chkA Z es S ps = true →
  ∃ tst,evTs (T n) es = (fun e W=>(tst e W).bind fun k W=>R.ok (D.bl k) W) ∧ ∀ (B : Tb) (X : Cx),XOk Z T B n S X → QOk B X ps tst
 | .nil,S,ps,_,h=>by
  unfold chkA at h
  split at h
  ·exact ⟨fun _ W=>.ok true W,rfl,fun B X o=>zZL5⟩
  ·cases h
 | .star _ _,S,ps,_,h=>by simp [chkA] at h
 | .cons a es,S,ps,hl,h=>by
  unfold chkA at h
  split at h
  ·rename_i p ps
   simp only [chkT,Bool.and_eq_true,Bool.not_eq_true'] at h
   obtain ⟨⟨h1,h2⟩,h3⟩:=h
   cases ps with
   | cons q qs=>simp at hl
   | nil =>
    cases es with
    | nil=>exact ⟨tv (evE (T n) a),zZLv,fun B X o=>zZLm ((zZA a _ S X p o h2).2 h1)⟩
    | cons _ _=>simp [chkA] at h3
    | star _ _=>simp [chkA] at h3
  ·cases h
theorem f_ok : ∀ (f : Fe) (B : Tb) (S : Sx) (X : Cx) (py : Expr),XOk Z T B n S X → chkF Z f S py = true → FOk B X py (evF (T n) f) ∧ plainB py = true
 | .disp es,B,S,X,py,o,h=>by
  unfold chkF at h
  split at h
  ·exact ⟨zZLQ (zZCk es _ S X _ o h),rfl⟩
  ·cases h
 | .of a,B,S,X,py,o,h=>by
  unfold chkF at h
  split at h
  ·simp only [Bool.and_eq_true,decide_eq_true_eq] at h
   obtain ⟨⟨h1,h2,h3⟩,h4,h5⟩:=h
   cases zZ2 h1
   subst h2
   obtain ⟨g1,g2⟩:=o.bl h3
   exact ⟨zZNY g1 g2 h4 (yZM o h5 (zZA a _ S X _ o h5).1),rfl⟩
  ·cases h
 | .sl a lo hi,B,S,X,py,o,h=>by
  unfold chkF at h
  split at h
  ·simp only [Bool.and_eq_true] at h
   exact ⟨zZNN (yZM o h.1 (zZA a _ S X _ o h.1).1) (o_ok lo _ S X _ o h.2.1) (o_ok hi _ S X _ o h.2.2),rfl⟩
  ·cases h
 | .comp elt t it ifs,B,S,X,py,o,h=>by
  unfold chkF at h
  split at h
  ·rename_i pe tg iter qs k scope pos
   simp only [Bool.and_eq_true,decide_eq_true_eq,Bool.not_eq_true'] at h
   obtain ⟨⟨⟨⟨hc,rfl⟩,h1⟩,h2⟩,h3,h4,⟨h5,h6⟩,h7⟩:=h
   obtain ⟨b1,b2⟩:=zZBM o h2
   obtain ⟨tst,e1,hq⟩:=q_ok ifs (S.inner scope) qs h5 h6
   refine ⟨?_,rfl⟩
   have z:=zZLK (pos:=pos) (elt:=evE (T n) elt) (tst:=tst) (tgf:=tgD t) (ns:=tgN t) (xZ7 o (S':=S.inner scope) rfl h4) (o.calm hc) (by rw [o.N]; exact o.nd) b1 (xZD h1) (zZF2 it _ S X tg iter o h3)
    (fun X' b=>xZG t _ X' tg (o.inner hc b2 b) h4) (fun X' b=>hq _ X' (o.inner hc b2 b)) (fun X' b=>(zZA elt _ _ X' pe (o.inner hc b2 b) h7).1)
   have e2 : evF (T n) (.comp elt t it ifs) = compF (evE (T n) elt) tst (tgD t) (tgN t) (evIt (T n) it):=by
    unfold compF
    rw [← e1]
    rfl
   rw [e2]
   exact z
  ·cases h
 | .cat a b,B,S,X,py,o,h=>by
  unfold chkF at h
  split at h
  ·simp only [Bool.and_eq_true] at h
   exact ⟨zZLx (f_ok a _ S X _ o h.1).1 (f_ok b _ S X _ o h.2).1,rfl⟩
  ·cases h
 | .add a b,B,S,X,py,o,h=>by
  unfold chkF at h
  split at h
  ·simp only [Bool.and_eq_true] at h
   exact ⟨zZLf (yZM o h.1 (zZA a _ S X _ o h.1).1) (yZM o h.2 (zZA b _ S X _ o h.2).1),rfl⟩
  ·cases h
 | .range (.chs _),B,S,X,py,o,h=>by unfold chkF at h; cases h
 | .range (.seq _),B,S,X,py,o,h=>by unfold chkF at h; cases h
 | .range (.range1 _),B,S,X,py,o,h=>by unfold chkF at h; cases h
 | .compC elt t en a ifs,B,S,X,py,o,h=>by
  unfold chkF at h
  split at h
  ·rename_i pe tg iter qs k scope pos
   simp only [Bool.and_eq_true,decide_eq_true_eq,Bool.not_eq_true'] at h
   obtain ⟨⟨⟨⟨hc,rfl⟩,h1⟩,h2⟩,h3,h4,⟨h5,h6⟩,h7⟩:=h
   obtain ⟨b1,b2⟩:=zZBM o h2
   obtain ⟨tst,e1,hq⟩:=q_ok ifs (S.inner scope) qs h5 h6
   refine ⟨?_,rfl⟩
   have z:=zZJn (g:=T n) (pos:=pos) (elt:=evE (T n) elt) (tst:=tst) (tgf:=tgD t) (ns:=tgN t) (xZ7 o (S':=S.inner scope) rfl h4) (o.calm hc) (by rw [o.N]; exact o.nd) b1 (xZD h1) (zZFx o (fun py h=>(zZA a _ S X py o h).1) h3)
    (fun X' b=>xZG t _ X' tg (o.inner hc b2 b) h4) (fun X' b=>hq _ X' (o.inner hc b2 b)) (fun X' b=>(zZA elt _ _ X' pe (o.inner hc b2 b) h7).1)
   have e2 : evF (T n) (.compC elt t en a ifs) = compCF (T n) en (evE (T n) elt) tst (tgD t) (tgN t) (evE (T n) a):=by
    unfold compCF
    rw [← e1]
    rfl
   rw [e2]
   exact z
  ·cases h
 | .rep a b,B,S,X,py,o,h=>by
  unfold chkF at h
  split at h
  ·simp only [Bool.and_eq_true] at h
   exact ⟨zZMq (yZM o h.1 (zZA a _ S X _ o h.1).1) (zZA b _ S X _ o h.2).1,rfl⟩
  ·cases h
 | .splt a b,B,S,X,py,o,h=>by
  unfold chkF at h
  split at h
  ·simp only [Bool.and_eq_true,decide_eq_true_eq] at h
   obtain ⟨⟨h1,h2,h3⟩,⟨h4,h5⟩,h6,h7⟩:=h
   cases zZ2 h1
   subst h2
   exact ⟨zZKW h5 (zZDk h3) h4 (zZA a _ S X _ o h6).1 (zZA b _ S X _ o h7).1,rfl⟩
  ·cases h
 | .scr i,B,S,X,py,o,h=>by
  unfold chkF at h
  split at h
  ·simp only [Bool.and_eq_true,decide_eq_true_eq] at h
   obtain ⟨h1,h2,h3,h4⟩:=h
   cases zZ2 h1
   subst h2
   obtain ⟨g1,g2⟩:=o.bl h3
   obtain ⟨v1,v2,v3,v4⟩:=o.var h4
   exact ⟨zZMo o.lv.kl g1 g2 v1 v2 v3 v4,rfl⟩
  ·cases h
theorem zZLT : ∀ (es : Es) (B : Tb) (S : Sx) (X : Cx) (ps : List Expr),XOk Z T B n S X → chkFs Z es S ps = true → FpOk B X ps (evEs (T n) es)
 | .nil,B,S,X,ps,o,h=>by
  unfold chkFs at h
  split at h
  ·exact .nil
  ·cases h
 | .cons a es,B,S,X,ps,o,h=>by
  unfold chkFs at h
  split at h
  ·simp only [Bool.and_eq_true] at h
   obtain ⟨h1,h2⟩:=h
   split at h1
   ·have h1:=of_decide_eq_true h1
    subst h1
    exact .lit (zZLT es B S X _ o h2)
   ·cases h1
  ·simp only [Bool.and_eq_true,decide_eq_true_eq] at h
   obtain ⟨rfl,h1,h2⟩:=h
   exact .fld (zZA a B S X _ o h1).1 (zZLT es B S X _ o h2)
  ·cases h
 | .star a es,B,S,X,ps,o,h=>by unfold chkFs at h; cases h
theorem zZF2 : ∀ (it : It) (B : Tb) (S : Sx) (X : Cx) (tg py : Expr),XOk Z T B n S X → chkIt Z it S tg py = true → ItOk B X tg py (evIt (T n) it)
 | .chs a,B,S,X,tg,py,o,h=>by
  unfold chkIt at h
  exact zZKD (zZA a _ S X _ o h).1
 | .seq a,B,S,X,tg,py,o,h=>by
  unfold chkIt at h
  exact zZKn (yZM o h (zZA a _ S X _ o h).1)
 | .range1 a,B,S,X,tg,py,o,h=>by
  unfold chkIt at h
  split at h
  ·simp only [Bool.and_eq_true,decide_eq_true_eq] at h
   obtain ⟨⟨h1,h2,h3⟩,h4,h5⟩:=h
   cases zZ2 h1
   subst h2
   obtain ⟨g1,g2⟩:=o.bl h3
   exact zZH3 g1 g2 h4 (zZA a _ S X _ o h5).1
  ·cases h
end
end
end DL
set_option maxRecDepth 100000
set_option maxHeartbeats 8000000
namespace DL
open PySem PySem.Spec PyProof.Rows
open L2 hiding St
/-- a comprehension that is stored on its own line (the name is swapped in) -/
def swapB (S : Sx) (v : Expr) (x : Str) (p : Pos) : Bool:=match v with
 | .ListComp _ _ s vp=>(S.nms.lookup x == some .local) && ((p.line == vp.line) && !(s.names.any fun (n,k)=>n == x && (k == .local || k == .cell)))
 | _=>false
def isLc : Expr → Bool
 | .ListComp _ _ _ _=>true | _=>false
def notName : Expr → Bool
 | .Name _ _=>false | _=>true
def Fe.isC2 : Fe → Bool
 | _=>false
/-- name = e,e no new list that is stored in a swap -/
def chkSet (Z : Zs) (S : Sx) (i : Nat) (e : E) (tg v : Expr) : Bool:=match tg with
 | .Name x p=>chkL S i x && (chkE Z e S v && (notComp v || (isLc v && (if swapB S v x p then (match e with | .frz (.comp _ _ _ _)=>true | .frz (.compC _ _ _ _ _)=>true | .cell (.comp _ _ _ _)=>true | .cell (.compC _ _ _ _ _)=>true | .frz g=>g.isC2 | _=>false) else true))))
 | _=>false
def chkSetO (Z : Zs) (S : Sx) (i : Nat) (f : Fe) (tg v : Expr) : Bool:=match tg with
 | .Name x p=>chkL S i x && (chkF Z f S v && (notComp v || (isLc v && (if swapB S v x p then (match f with | .comp _ _ _ _=>true | .compC _ _ _ _ _=>true | g=>g.isC2) else true))))
 | _=>false
/-- some name is no plain local: no swap of the stores -/
def swN (S : Sx) (tg : Expr) : Bool:=match tg with
 | .Tuple es _ _=>es.any fun e=>match e with | .Name x _ => !(S.nms.lookup x == some .local) | _=>true
 | _=>false
mutual
def chkSs (Z : Zs) : S → Sx → List Stmt → Bool
 | .skip,_,py=>match py with | []=>true | _=>false
 | .seq (.freeze _) b,S,py=>chkSs Z b S py
 | .seq a b,S,py=>match py with | p :: ps=>chkP Z a S p && chkSs Z b S ps | _=>false
 | _,_,_=>false
def chkP (Z : Zs) : S → Sx → Stmt → Bool
 | .asg (.nm i) e,S,py=>match py with | .Assign [tg] v _=>chkSet Z S i e tg v | _=>false
 | .asg (.tup ts) e,S,py=>match py with | .Assign [tg] v _=>((notTup v || swN S tg) && notName tg) && (chkTg (.tup ts) S tg && chkE Z e S v) | _=>false
 | .asgO i f,S,py=>match py with | .Assign [tg] v _=>chkSetO Z S i f tg v | _=>false
 | .fld f a e,S,py=>match py with
  | .Assign [.Attribute (.Name x _) nm _] v _=>(match a with | .var i=>chkV S i x && (decide (Z.anm f = nm) && chkE Z e S v) | _=>false)
  | _=>false
 | .idx a b e,S,py=>match py with |   .Assign [.Subscript l r _] v _=>(true && ixOk r) && (chkE Z e S v && (chkE Z a S l && chkE Z b S r)) | _=>false
 | .augF f i op e,S,py=>match py with | .AugAssign (.Attribute (.Name x _) nm _) o v _=>(chkV S i x && (decide (Z.anm f = nm) && (decide (o = pyOp op) && (match op with | .add=>true | .sub=>true | _=>false)))) && chkE Z e S v | _=>false
 | .append a e,S,py=>match py with
  | .Expr (.Call (.Attribute l nm apos) [p] ks p2) _=>(noKw ks && (decide (("append" : Str) = nm) && abOk l)) && (((apos.endLine == p2.line) && notStar p) && (chkE Z a S l && chkE Z e S p))
  | _=>false
 | .extend a e,S,py=>match py with
  | .Expr (.Call (.Attribute l nm apos) [p] ks p2) _=>(noKw ks && (decide (("extend" : Str) = nm) && abOk l)) && (((apos.endLine == p2.line) && notStar p) && (chkE Z a S l && chkE Z e S p))
  | _=>false
 | .expr e,S,py=>match py with | .Expr v _=>notComp v && chkE Z e S v | _=>false
 | .ret e,S,py=>match py with | .Return (some v) _=>chkE Z e S v | _=>false
 | .ite c a b,S,py=>match py with | .If t sts sts2 _=>(chkT c (chkE Z c S t)) && (chkSs Z a S sts && chkSs Z b S sts2) | _=>false
 | .forS t it b,S,py=>match py with | .For tg iter sts [] _=>(!S.hot && notSet iter) && (chkIt Z it S tg iter && (chkTg t S tg && chkSs Z b S sts)) | _=>false
 | .whil _ c b,S,py=>match py with | .While t sts [] _=>chkT c (chkE Z c S t) && chkSs Z b S sts | _=>false
 | .forC t en a b,S,py=>match py with | .For tg iter sts [] _=>(!S.hot && notSet iter) && (chkIc Z en a S tg iter && (chkTg t S tg && chkSs Z b S sts)) | _=>false
 | .pass,_,py=>match py with | .Pass _=>true | _=>false
 | .raisE c e,S,py=>match py with
  | .Raise (some (.Call (.Name x _) [p] ks _)) none _=>(coldK S ks && (decide (Z.enm c = some x) && chkG S x)) && (notStar p && chkE Z e S p)
  | _=>false
 | .skip,_,_=>false
 | .seq _ _,_,_=>false
 | .freeze _,_,_=>false
end
section
variable {Z : Zs} {T : Nat → Cfg} {B : Tb} {n : Nat} {S : Sx} {X : Cx}
theorem zZIH (o : XOk Z T B n S X) {v : Expr} {x : Str} {p : Pos} {l : Nat} (h : isLc v = true) : swapsWith v (some (.Name x p)) l X.env = pure (swapB S v x p):=by
 cases v <;> first | cases h | skip
 unfold swapsWith swapB
 have h1 : X.env.blockKind = .function:=by
  unfold PySem.Env.blockKind
  rw [o.kd]
  rfl
 have h2 : X.env.kindOf x = S.nms.lookup x:=by
  show X.env.scope.names.lookup x = _
  rw [o.nms]
 simp only [h1,h2]
 have e : (ScopeKind.function == ScopeKind.function) = true:=rfl
 rw [e,Bool.true_and,Bool.and_assoc]
 rfl
theorem zZLX {A C : Type} {f : A → Option C} : ∀ {l : List A},(l.any fun a=>(f a).isNone) = true → (l.filterMap f).length < l.length
 | [],h=>by simp at h
 | a :: l,h=>by
  rw [List.filterMap_cons]
  cases q : f a with
  | none=>simp only [List.length_cons]; exact Nat.lt_succ_of_le (List.length_filterMap_le f l)
  | some c =>
   simp only [List.any_cons,q,Option.isNone_some,Bool.false_or] at h
   simp only [List.length_cons]
   exact Nat.succ_lt_succ (zZLX h)
theorem zZM3 (o : XOk Z T B n S X) {tg v : Expr} (h : swN S tg = true) : swappedStores [tg] v X.env = pure none:=by
 unfold swN at h
 split at h
 ·rename_i es kk pos
  cases v <;> first
   | rfl
   | skip
  rename_i vs k2 p2
  unfold swappedStores
  simp only []
  split
  ·rfl
  ·split
   ·rfl
   ·generalize hl : ((es.head?).map (·.pos.line)).getD 0 = line
    have hn : ((es.filterMap fun | .Name id pos=>if X.env.kindOf id == some .local && pos.line == line then some id else none | _=>none).length != es.length) = true:=by
     have hlt:=zZLX (l:=es) (f:=fun | .Name id pos=>if X.env.kindOf id == some .local && pos.line == line then some id else none | _=>none) (by
      rw [List.any_eq_true] at h ⊢
      obtain ⟨e,he,hh⟩:=h
      refine ⟨e,he, ?_⟩
      cases e with
      | Name x q =>
       have hk : X.env.kindOf x = S.nms.lookup x:=by
        show X.env.scope.names.lookup x = _
        rw [o.nms]
       simp only [Bool.not_eq_true'] at hh
       simp [hk,hh]
      | _=>rfl)
     simp only [bne_iff_ne,ne_eq]
     exact Nat.ne_of_lt hlt
    refine (if_pos (Bool.or_eq_true _ _ ▸ Or.inl hn)).trans ?_
    rfl
 ·cases h
theorem zZJF {i : Nat} {x : Str} {p : Pos} {v : Expr} {pos : Pos} (o : XOk Z T B n S X) (h1 : chkL S i x = true) (hN : X.N.Nodup) (l1 : X.N[i]? = some x) (l2 : X.env.scope.names.lookup x = some .local) (sw : swapsWith v (some (.Name x p)) pos.line X.env = pure true) : ∀ (f : Fe),f.isC2 = true → chkF Z f S v = true → ∃ t : TE,PS X (.Assign [.Name x p] v pos) (tAsg t (gName i)) ∧ ∀ (e : Env) (W : Wd) (sg : L2.St) (H F : Hp) (eta : List Addr) (Q : VK),Stt B e W sg H F eta →
  (evF (T n) f e W).wp B.xq (fun ds W' => ∀ (a : Addr) (vs : List V) (H' F' : Hp) (eta' : List Addr),OkH B F' eta' W' H' → Ext F eta H F' eta' H' → H a = none → H' a = some (.lst vs) → F' a = none → a ∉ eta' → RepL B F' eta' ds vs → Q (.ref a) H') → t sg H Q
 | .disp _,h,_=>by cases h
 | .of _,h,_=>by cases h
 | .sl _ _ _,h,_=>by cases h
 | .comp _ _ _ _,h,_=>by cases h
 | .cat _ _,h,_=>by cases h
 | .range _,h,_=>by cases h
 | .scr _,h,_=>by cases h
 | .add _ _,h,_=>by cases h
 | .rep _ _,h,_=>by cases h
 | .splt _ _,h,_=>by cases h
 | .compC _ _ _ _ _,h,_=>by cases h
theorem zZMX {i : Nat} {e : E} {tg v : Expr} {pos : Pos} (o : XOk Z T B n S X) (h : chkSet Z S i e tg v = true) : POk B X (.Assign [tg] v pos) (exS (T n) (.asg (.nm i) e)):=by
 unfold chkSet at h
 split at h
 ·rename_i x p
  simp only [Bool.and_eq_true] at h
  obtain ⟨h1,h2,h3⟩:=h
  obtain ⟨l1,l2,l3⟩:=o.loc h1
  have ke:=(zZA e _ S X v o h2).1
  have hN : X.N.Nodup:=by rw [o.N]; exact o.nd
  rw [Bool.or_eq_true] at h3
  rcases h3 with h3 | h3
  ·exact zZIX (o.free h1) hN l1 l3 l2 (zZAE h3 _ _ _) ke
  ·simp only [Bool.and_eq_true] at h3
   obtain ⟨h3,h4⟩:=h3
   have sw:=fun l=>zZIH (p:=p) (l:=l) o (x:=x) h3
   cases hs : swapB S v x p with
   | false=>exact zZIX (o.free h1) hN l1 l3 l2 (by rw [sw,hs]) ke
   | true =>
    have l2 : X.env.scope.names.lookup x = some .local:=by
     rw [o.nms]
     cases v <;> first | cases h3 | skip
     simp only [swapB,Bool.and_eq_true] at hs
     exact eq_of_beq hs.1
    rw [hs,if_pos rfl] at h4
    split at h4
    ·rename_i elt t it ifs
     unfold chkE chkF at h2
     split at h2
     ·rename_i pe tg iter qs k scope pos2
      simp only [Bool.and_eq_true,decide_eq_true_eq,Bool.not_eq_true'] at h2
      obtain ⟨⟨⟨⟨hc,rfl⟩,c1⟩,c2⟩,c3,c4,⟨c5,c6⟩,c7⟩:=h2
      obtain ⟨b1,b2⟩:=zZBM o c2
      obtain ⟨tst,e1,hq⟩:=q_ok (n:=n) (T:=T) ifs (S.inner scope) qs c5 c6
      obtain ⟨te,z1,z2⟩:=zZFR (i:=i) (y:=x) (py:=p) (spos:=pos) (pos:=pos2) (elt:=evE (T n) elt) (tst:=tst) (tgf:=tgD t) (ns:=tgN t) (xZ7 o (S':=S.inner scope) rfl c4) (o.calm hc) hN l1 l2 (by rw [sw,hs]) b1 (xZD c1) (zZF2 it _ S X tg iter o c3)
       (fun X' b=>xZG t _ X' tg (o.inner hc b2 b) c4) (fun X' b=>hq _ X' (o.inner hc b2 b)) (fun X' b=>(zZA elt _ _ X' pe (o.inner hc b2 b) c7).1)
      have e2 : evF (T n) (.comp elt t it ifs) = compF (evE (T n) elt) tst (tgD t) (tgN t) (evIt (T n) it):=by
       unfold compF
       rw [← e1]
       rfl
      have z:=zZCo (o.free h1) z1 z2
      rw [← e2] at z
      exact z
     ·cases h2
    ·rename_i elt t en a ifs
     unfold chkE chkF at h2
     split at h2
     ·rename_i pe tg iter qs k scope pos2
      simp only [Bool.and_eq_true,decide_eq_true_eq,Bool.not_eq_true'] at h2
      obtain ⟨⟨⟨⟨hc,rfl⟩,c1⟩,c2⟩,c3,c4,⟨c5,c6⟩,c7⟩:=h2
      obtain ⟨b1,b2⟩:=zZBM o c2
      obtain ⟨tst,e1,hq⟩:=q_ok (n:=n) (T:=T) ifs (S.inner scope) qs c5 c6
      obtain ⟨te,z1,z2⟩:=zZEe (g:=T n) (i:=i) (y:=x) (py:=p) (spos:=pos) (pos:=pos2) (elt:=evE (T n) elt) (tst:=tst) (tgf:=tgD t) (ns:=tgN t) (xZ7 o (S':=S.inner scope) rfl c4) (o.calm hc) hN l1 l2 (by rw [sw,hs]) b1 (xZD c1) (zZFx o (fun py h=>(zZA a _ S X py o h).1) c3)
       (fun X' b=>xZG t _ X' tg (o.inner hc b2 b) c4) (fun X' b=>hq _ X' (o.inner hc b2 b)) (fun X' b=>(zZA elt _ _ X' pe (o.inner hc b2 b) c7).1)
      have e2 : evF (T n) (.compC elt t en a ifs) = compCF (T n) en (evE (T n) elt) tst (tgD t) (tgN t) (evE (T n) a):=by
       unfold compCF
       rw [← e1]
       rfl
      have z:=zZCo (o.free h1) z1 z2
      rw [← e2] at z
      exact z
     ·cases h2
    ·rename_i elt t it ifs
     unfold chkE chkF at h2
     split at h2
     ·rename_i pe tg iter qs k scope pos2
      simp only [Bool.and_eq_true,decide_eq_true_eq,Bool.not_eq_true'] at h2
      obtain ⟨⟨⟨⟨hc,rfl⟩,c1⟩,c2⟩,c3,c4,⟨c5,c6⟩,c7⟩:=h2
      obtain ⟨b1,b2⟩:=zZBM o c2
      obtain ⟨tst,e1,hq⟩:=q_ok (n:=n) (T:=T) ifs (S.inner scope) qs c5 c6
      obtain ⟨te,z1,z2⟩:=zZFR (i:=i) (y:=x) (py:=p) (spos:=pos) (pos:=pos2) (elt:=evE (T n) elt) (tst:=tst) (tgf:=tgD t) (ns:=tgN t) (xZ7 o (S':=S.inner scope) rfl c4) (o.calm hc) hN l1 l2 (by rw [sw,hs]) b1 (xZD c1) (zZF2 it _ S X tg iter o c3)
       (fun X' b=>xZG t _ X' tg (o.inner hc b2 b) c4) (fun X' b=>hq _ X' (o.inner hc b2 b)) (fun X' b=>(zZA elt _ _ X' pe (o.inner hc b2 b) c7).1)
      have e2 : evF (T n) (.comp elt t it ifs) = compF (evE (T n) elt) tst (tgD t) (tgN t) (evIt (T n) it):=by
       unfold compF
       rw [← e1]
       rfl
      have z:=zZE5 (o.free h1) z1 z2
      rw [← e2] at z
      exact z
     ·cases h2
    ·rename_i elt t en a ifs
     unfold chkE chkF at h2
     split at h2
     ·rename_i pe tg iter qs k scope pos2
      simp only [Bool.and_eq_true,decide_eq_true_eq,Bool.not_eq_true'] at h2
      obtain ⟨⟨⟨⟨hc,rfl⟩,c1⟩,c2⟩,c3,c4,⟨c5,c6⟩,c7⟩:=h2
      obtain ⟨b1,b2⟩:=zZBM o c2
      obtain ⟨tst,e1,hq⟩:=q_ok (n:=n) (T:=T) ifs (S.inner scope) qs c5 c6
      obtain ⟨te,z1,z2⟩:=zZEe (g:=T n) (i:=i) (y:=x) (py:=p) (spos:=pos) (pos:=pos2) (elt:=evE (T n) elt) (tst:=tst) (tgf:=tgD t) (ns:=tgN t) (xZ7 o (S':=S.inner scope) rfl c4) (o.calm hc) hN l1 l2 (by rw [sw,hs]) b1 (xZD c1) (zZFx o (fun py h=>(zZA a _ S X py o h).1) c3)
       (fun X' b=>xZG t _ X' tg (o.inner hc b2 b) c4) (fun X' b=>hq _ X' (o.inner hc b2 b)) (fun X' b=>(zZA elt _ _ X' pe (o.inner hc b2 b) c7).1)
      have e2 : evF (T n) (.compC elt t en a ifs) = compCF (T n) en (evE (T n) elt) tst (tgD t) (tgN t) (evE (T n) a):=by
       unfold compCF
       rw [← e1]
       rfl
      have z:=zZE5 (o.free h1) z1 z2
      rw [← e2] at z
      exact z
     ·cases h2
    ·rename_i g _ _
     obtain ⟨te,z1,z2⟩:=zZJF o h1 hN l1 l2 (by rw [sw,hs]) g h4 (by unfold chkE at h2; exact h2)
     exact zZCo (o.free h1) z1 z2
    ·cases h4
 ·cases h
theorem zZMd {i : Nat} {f : Fe} {tg v : Expr} {pos : Pos} (o : XOk Z T B n S X) (h : chkSetO Z S i f tg v = true) : POk B X (.Assign [tg] v pos) (exS (T n) (.asgO i f)):=by
 unfold chkSetO at h
 split at h
 ·rename_i x p
  simp only [Bool.and_eq_true] at h
  obtain ⟨h1,h2,h3⟩:=h
  obtain ⟨l1,l2,l3⟩:=o.loc h1
  have ke:=(f_ok f _ S X v o h2).1
  have hN : X.N.Nodup:=by rw [o.N]; exact o.nd
  rw [Bool.or_eq_true] at h3
  rcases h3 with h3 | h3
  ·exact zZHC (o.free h1) hN l1 l3 l2 (zZAE h3 _ _ _) ke
  ·simp only [Bool.and_eq_true] at h3
   obtain ⟨h3,h4⟩:=h3
   have sw:=fun l=>zZIH (p:=p) (l:=l) o (x:=x) h3
   cases hs : swapB S v x p with
   | false=>exact zZHC (o.free h1) hN l1 l3 l2 (by rw [sw,hs]) ke
   | true =>
    have l2 : X.env.scope.names.lookup x = some .local:=by
     rw [o.nms]
     cases v <;> first | cases h3 | skip
     simp only [swapB,Bool.and_eq_true] at hs
     exact eq_of_beq hs.1
    rw [hs,if_pos rfl] at h4
    split at h4
    ·rename_i elt t it ifs
     unfold chkF at h2
     split at h2
     ·rename_i pe tg iter qs k scope pos2
      simp only [Bool.and_eq_true,decide_eq_true_eq,Bool.not_eq_true'] at h2
      obtain ⟨⟨⟨⟨hc,rfl⟩,c1⟩,c2⟩,c3,c4,⟨c5,c6⟩,c7⟩:=h2
      obtain ⟨b1,b2⟩:=zZBM o c2
      obtain ⟨tst,e1,hq⟩:=q_ok (n:=n) (T:=T) ifs (S.inner scope) qs c5 c6
      obtain ⟨te,z1,z2⟩:=zZFR (i:=i) (y:=x) (py:=p) (spos:=pos) (pos:=pos2) (elt:=evE (T n) elt) (tst:=tst) (tgf:=tgD t) (ns:=tgN t) (xZ7 o (S':=S.inner scope) rfl c4) (o.calm hc) hN l1 l2 (by rw [sw,hs]) b1 (xZD c1) (zZF2 it _ S X tg iter o c3)
       (fun X' b=>xZG t _ X' tg (o.inner hc b2 b) c4) (fun X' b=>hq _ X' (o.inner hc b2 b)) (fun X' b=>(zZA elt _ _ X' pe (o.inner hc b2 b) c7).1)
      have e2 : evF (T n) (.comp elt t it ifs) = compF (evE (T n) elt) tst (tgD t) (tgN t) (evIt (T n) it):=by
       unfold compF
       rw [← e1]
       rfl
      have z:=zZBG (o.free h1) z1 z2
      rw [← e2] at z
      exact z
     ·cases h2
    ·rename_i elt t en a ifs
     unfold chkF at h2
     split at h2
     ·rename_i pe tg iter qs k scope pos2
      simp only [Bool.and_eq_true,decide_eq_true_eq,Bool.not_eq_true'] at h2
      obtain ⟨⟨⟨⟨hc,rfl⟩,c1⟩,c2⟩,c3,c4,⟨c5,c6⟩,c7⟩:=h2
      obtain ⟨b1,b2⟩:=zZBM o c2
      obtain ⟨tst,e1,hq⟩:=q_ok (n:=n) (T:=T) ifs (S.inner scope) qs c5 c6
      obtain ⟨te,z1,z2⟩:=zZEe (g:=T n) (i:=i) (y:=x) (py:=p) (spos:=pos) (pos:=pos2) (elt:=evE (T n) elt) (tst:=tst) (tgf:=tgD t) (ns:=tgN t) (xZ7 o (S':=S.inner scope) rfl c4) (o.calm hc) hN l1 l2 (by rw [sw,hs]) b1 (xZD c1) (zZFx o (fun py h=>(zZA a _ S X py o h).1) c3)
       (fun X' b=>xZG t _ X' tg (o.inner hc b2 b) c4) (fun X' b=>hq _ X' (o.inner hc b2 b)) (fun X' b=>(zZA elt _ _ X' pe (o.inner hc b2 b) c7).1)
      have e2 : evF (T n) (.compC elt t en a ifs) = compCF (T n) en (evE (T n) elt) tst (tgD t) (tgN t) (evE (T n) a):=by
       unfold compCF
       rw [← e1]
       rfl
      have z:=zZBG (o.free h1) z1 z2
      rw [← e2] at z
      exact z
     ·cases h2
    ·obtain ⟨te,z1,z2⟩:=zZJF o h1 hN l1 l2 (by rw [sw,hs]) _ h4 h2
     exact zZBG (o.free h1) z1 z2
 ·cases h
theorem zZM6 {a b : DL.S} {S : Sx} {py : List Stmt} (hf : ¬ ∃ i,a = .freeze i) (h : chkSs Z (.seq a b) S py = true) : ∃ p ps,py = p :: ps ∧ chkP Z a S p = true ∧ chkSs Z b S ps = true:=by
 cases a <;> first | exact absurd ⟨_,rfl⟩ hf | skip
 all_goals
  unfold chkSs at h
  split at h
  ·simp only [Bool.and_eq_true] at h
   exact ⟨_,_,rfl,h⟩
  ·cases h
mutual
theorem zZAC : ∀ (s : DL.S) (B : Tb) (S : Sx) (X : Cx) (py : List Stmt),XOk Z T B n S X → chkSs Z s S py = true → BOk B X py (exS (T n) s)
 | .skip,B,S,X,py,o,h=>by
  unfold chkSs at h
  split at h
  ·exact zZMA
  ·cases h
 | .seq a b,B,S,X,py,o,h=>by
  by_cases hf : ∃ i,a = .freeze i
  ·obtain ⟨i,rfl⟩:=hf
   unfold chkSs at h
   exact zZI1 i (zZAC b _ S X py o h)
  ·obtain ⟨p,ps,rfl,h3,h4⟩:=zZM6 hf h
   exact zZKb (p_ok a _ S X _ o h3) (zZAC b _ S X _ o h4)
 | .freeze _,_,_,_,_,_,h=>by simp [chkSs] at h
 | .asg _ _,_,_,_,_,_,h=>by simp [chkSs] at h
 | .asgO _ _,_,_,_,_,_,h=>by simp [chkSs] at h
 | .fld _ _ _,_,_,_,_,_,h=>by simp [chkSs] at h
 | .idx _ _ _,_,_,_,_,_,h=>by simp [chkSs] at h
 | .append _ _,_,_,_,_,_,h=>by simp [chkSs] at h
 | .extend _ _,_,_,_,_,_,h=>by simp [chkSs] at h
 | .expr _,_,_,_,_,_,h=>by simp [chkSs] at h
 | .ret _,_,_,_,_,_,h=>by simp [chkSs] at h
 | .ite _ _ _,_,_,_,_,_,h=>by simp [chkSs] at h
 | .forS _ _ _,_,_,_,_,_,h=>by simp [chkSs] at h
 | .whil _ _ _,_,_,_,_,_,h=>by simp [chkSs] at h
 | .pass,_,_,_,_,_,h=>by simp [chkSs] at h
 | .raisE _ _,_,_,_,_,_,h=>by simp [chkSs] at h
 | .forC _ _ _ _,_,_,_,_,_,h=>by simp [chkSs] at h
 | .augF _ _ _ _,_,_,_,_,_,h=>by simp [chkSs] at h
theorem p_ok : ∀ (s : DL.S) (B : Tb) (S : Sx) (X : Cx) (py : Stmt),XOk Z T B n S X → chkP Z s S py = true → POk B X py (exS (T n) s)
 | .asg (.nm i) e,B,S,X,py,o,h=>by
  unfold chkP at h
  split at h
  ·exact zZMX o h
  ·cases h
 | .asg (.tup ts) e,B,S,X,py,o,h=>by
  unfold chkP at h
  split at h
  ·rename_i tg v pos
   simp only [Bool.and_eq_true] at h
   obtain ⟨⟨h1,h2⟩,h3,h4⟩:=h
   have hn : ∀ x p,tg ≠ .Name x p:=fun x p z=>by subst z; cases h2
   have ht:=zZLU h3
   have hw : swappedStores [tg] v X.env = pure none:=by
    rw [Bool.or_eq_true] at h1
    rcases h1 with h1 | h1
    ·exact zZHy h1 _
    ·exact zZM3 o h1
   refine zZKl hw (zZFq hn _ _) ?_ (zZA e _ S X v o h4).1 (xZG _ S X tg o h3)
   cases tg <;> first | rfl | cases ht
  ·cases h
 | .asgO i f,B,S,X,py,o,h=>by
  unfold chkP at h
  split at h
  ·exact zZMd o h
  ·cases h
 | .fld f a e,B,S,X,py,o,h=>by
  unfold chkP at h
  split at h
  ·split at h
   ·simp only [Bool.and_eq_true,decide_eq_true_eq] at h
    obtain ⟨h1,h2,h3⟩:=h
    obtain ⟨v1,v2,v3,v4⟩:=o.var h1
    exact zZLp o.lv.fl v1 v2 v3 v4 (by rw [o.lv.an]; exact h2) (zZA e _ S X _ o h3).1
   ·cases h
  ·cases h
 | .idx a b e,B,S,X,py,o,h=>by
  unfold chkP at h
  split at h
  ·rename_i l r p v pos
   simp only [Bool.and_eq_true] at h
   obtain ⟨⟨h1,h2⟩,h3,h4,h5⟩:=h
   refine zZMm (fun w => ?_) (zZA e _ S X _ o h3).1 (yZM o h4 (zZA a _ S X _ o h4).1) (zZA b _ S X _ o h5).1
   cases r <;> first | rfl | cases h2
  ·cases h
 | .augF f i op e,B,S,X,py,o,h=>by
  unfold chkP at h
  split at h
  ·simp only [Bool.and_eq_true,decide_eq_true_eq] at h
   obtain ⟨⟨h1,hn,rfl,h2⟩,h3⟩:=h
   obtain ⟨v1,v2,v3,v4⟩:=o.var h1
   refine zZKE ?_ o.lv.fl v1 v2 v3 v4 (by rw [o.lv.an]; exact hn) (zZA e _ S X _ o h3).1
   cases op <;> first | exact .inl rfl | exact .inr rfl | cases h2
  ·cases h
 | .append a e,B,S,X,py,o,h=>by
  unfold chkP at h
  split at h
  ·simp only [Bool.and_eq_true,decide_eq_true_eq] at h
   obtain ⟨⟨h1,h2,h3⟩,⟨h4,h5⟩,h6,h7⟩:=h
   cases zZ2 h1
   subst h2
   exact zZIv (zZDk h3) h4 h5 (yZM o h6 (zZA a _ S X _ o h6).1) (zZA e _ S X _ o h7).1
  ·cases h
 | .extend a e,B,S,X,py,o,h=>by
  unfold chkP at h
  split at h
  ·simp only [Bool.and_eq_true,decide_eq_true_eq] at h
   obtain ⟨⟨h1,h2,h3⟩,⟨h4,h5⟩,h6,h7⟩:=h
   cases zZ2 h1
   subst h2
   exact zZIp (zZDk h3) h4 h5 (yZM o h6 (zZA a _ S X _ o h6).1) (yZM o h7 (zZA e _ S X _ o h7).1)
  ·cases h
 | .expr e,B,S,X,py,o,h=>by
  unfold chkP at h
  split at h
  ·simp only [Bool.and_eq_true] at h
   exact zZK0 h.1 (zZA e _ S X _ o h.2).1
  ·cases h
 | .ret e,B,S,X,py,o,h=>by
  unfold chkP at h
  split at h
  ·exact zZLj (zZA e _ S X _ o h).1
  ·cases h
 | .ite c a b,B,S,X,py,o,h=>by
  unfold chkP at h
  split at h
  ·simp only [chkT,Bool.and_eq_true,Bool.not_eq_true'] at h
   obtain ⟨⟨h0,h1⟩,h2,h3⟩:=h
   exact zZLz ((zZA c _ S X _ o h1).2 h0) (zZAC a _ S X _ o h2) (zZAC b _ S X _ o h3)
  ·cases h
 | .forS t it b,B,S,X,py,o,h=>by
  unfold chkP at h
  split at h
  ·simp only [Bool.and_eq_true,Bool.not_eq_true'] at h
   obtain ⟨⟨hc,h1⟩,h2,h3,h4⟩:=h
   exact zZMD o.pas (o.calm hc) (xZD h1) (zZF2 it _ S X _ _ o h2) (xZG t S X _ o h3) (zZAC b _ S X _ o h4)
  ·cases h
 | .forC t en a b,B,S,X,py,o,h=>by
  unfold chkP at h
  split at h
  ·simp only [Bool.and_eq_true,Bool.not_eq_true'] at h
   obtain ⟨⟨hc,h1⟩,h2,h3,h4⟩:=h
   exact zZKU o.pas (o.calm hc) (xZD h1) (zZFx o (fun py h=>(zZA a _ S X py o h).1) h2) (xZG t S X _ o h3) (zZAC b _ S X _ o h4)
  ·cases h
 | .whil k c b,B,S,X,py,o,h=>by
  unfold chkP at h
  split at h
  ·simp only [chkT,Bool.and_eq_true,Bool.not_eq_true'] at h
   obtain ⟨⟨h0,h1⟩,h2⟩:=h
   exact zZJV o.pas ((zZA c _ S X _ o h1).2 h0) (zZAC b _ S X _ o h2)
  ·cases h
 | .pass,B,S,X,py,o,h=>by
  unfold chkP at h
  split at h
  ·exact zZK8
  ·cases h
 | .raisE c e,B,S,X,py,o,h=>by
  unfold chkP at h
  split at h
  ·simp only [Bool.and_eq_true,decide_eq_true_eq] at h
   obtain ⟨⟨h1,h2,h3⟩,h4,h5⟩:=h
   have hc:=ck1 h1
   cases zZ2 (ck2 h1)
   obtain ⟨g1,g2⟩:=o.gl h3
   exact zZJb (zZA e _ S X _ o h5).1 o.lk (o.calm hc) ((o.rm1 hc).mono (by omega)) g1 g2 h4 (o.lv.en c _ h2)
  ·cases h
 | .skip,B,S,X,py,o,h=>by simp [chkP] at h
 | .seq _ _,B,S,X,py,o,h=>by simp [chkP] at h
 | .freeze _,B,S,X,py,o,h=>by simp [chkP] at h
end
end
end DL
set_option maxRecDepth 100000
set_option maxHeartbeats 8000000
namespace DL
open PySem PySem.Spec PyProof.Rows
open L2 hiding St
structure FnD where
 np : Nat
 nl : Nat
 body : S
 df : List D
structure Prog where
 fn : Nat → Option FnD
 ini : Nat → Option FnD
 meth : Nat → Nat → Option Nat
 cellc : Nat → Bool
 fld : Nat → Nat → Bool
 isc : Nat → Nat → Option Bool
 eqm : Nat → Nat → Option Nat
 xm : Nat → Nat → Option Bool
 xis : Nat → Nat → Option Bool
 xf : Nat → Option Nat
 xiv : Nat → Option Bool
 nem : Nat → Nat → Option Nat
def padE (n : Nat) (e : Env) : Env:=e ++ List.replicate (n - e.length) .no
def endR : Fl → Wd → R D
 | .rt d,W=>.ok d W
 | .nx _,W=>.ok .non W
 | _,_=>.st
def runF (g : Cfg) (F : FnD) (xs : List D) (W : Wd) : R D :=
 if xs.length = F.np then (exS g F.body (padE F.nl (xs.map .val)) W).bind endR
 else if xs.length + F.df.length = F.np then (exS g F.body (padE F.nl ((xs ++ F.df).map .val)) W).bind endR else .st
/-- with all arguments written -/
def runN (g : Cfg) (F : FnD) (xs : List D) (W : Wd) : R D :=
 if xs.length = F.np then (exS g F.body (padE F.nl (xs.map .val)) W).bind endR else .st
theorem zZFh {g : Cfg} {F : FnD} (h : F.df = []) (xs : List D) (W : Wd) : runF g F xs W = runN g F xs W:=by
 unfold runF runN
 rw [h]
 split
 ·rfl
 ·rename_i hn
  rw [if_neg (by simpa using hn)]
def endI (c : Nat) : Fl → Wd → R (List (Nat × D))
 | .nx e,W=>(match e[0]? with | some (Slot.oi c' fs)=>if c' = c then .ok fs W else .st | _=>.st)
 | _,_=>.st
def runI (g : Cfg) (F : FnD) (c : Nat) (xs : List D) (W : Wd) : R (List (Nat × D)) :=
 if xs.length + 1 = F.np then (exS g F.body (padE F.nl (.oi c [] :: xs.map .val)) W).bind (endI c) else .st
noncomputable def cfgN (T : Prog) : Nat → Cfg
 | 0=>⟨fun _ _ _=>.st,fun _ _ _=>.st,T.meth,T.cellc,T.fld,T.isc,T.eqm,fun _ _=>Classical.propDecidable _,T.xm,T.xis,T.xf,T.xiv,T.nem⟩
 | n + 1=>⟨fun f xs W=>match T.fn f with | some F=>runF (cfgN T n) F xs W | none=>.st,fun c xs W=>match T.ini c with | some F=>runI (cfgN T n) F c xs W | none=>.st,T.meth,T.cellc,T.fld,T.isc,T.eqm,fun _ _=>Classical.propDecidable _,T.xm,T.xis,T.xf,T.xiv,T.nem⟩
theorem yZV (T : Prog) : ∀ n,(cfgN T n).meth = T.meth
 | 0=>rfl
 | _ + 1=>rfl
theorem xZ5 (T : Prog) : ∀ n,(cfgN T n).fld = T.fld
 | 0=>rfl
 | _ + 1=>rfl
theorem units65 {k : Nat} {A : Around} (r : Room k A) : A.units + 65 < cLine:=by have:=r.un; omega
section
variable {B : Tb0} {P : Program} {w : World} {K : PySem.W.Frag} {mg : Str → Option Value} {base : Heap} {Z : Zs} {T : Prog} {n : Nat}
theorem RepL.some_ : ∀ {xs : List D} {vs : List V} {F : Hp} {eta : List Addr} {i : Nat} {s : Slot},RepL B F eta xs vs → (xs.map Slot.val)[i]? = some s → ∃ d v,s = .val d ∧ (vs.map some)[i]? = some (some v) ∧ Rep B F eta d v
 | xs,vs,F,eta,i,s,r,h=>by
  rw [List.getElem?_map] at h
  cases q : xs[i]? with
  | none=>rw [q] at h; cases h
  | some d =>
   rw [q] at h
   cases h
   obtain ⟨v,h1,h2⟩:=r.get q
   exact ⟨d,v,rfl,by rw [List.getElem?_map,h1]; rfl,h2⟩
/-- the frame at a call -/
theorem zZFS {B1 : Tb} {xs : List D} {vs : List V} {F H : Hp} {eta : List Addr} {W : Wd} {N : List Str} {nl : Nat} {xo : Addr} (hB : B1.toTb0 = B) (hk : B1.xk = []) (hn : B1.xn = (L2.start N vs).length) (hx : Ext B1.xF B1.xeta B1.xH F eta H) (o : OkH B F eta W H) (r : RepL B F eta xs vs) (hl : nl = N.length) :
  Fr0 B1 xo F eta H (padE nl (xs.map .val)) W (L2.start N vs) H F eta:=by
 have hz : ∀ (i : Nat) (s : Slot),(padE nl (xs.map .val))[i]? = some s → s = .no ∨ (∃ d v,s = .val d ∧ (L2.start N vs)[i]? = some (some v) ∧ Rep B F eta d v):=fun i s h=>by
  unfold padE at h
  rw [List.getElem?_append] at h
  split at h
  ·rename_i hi
   rw [List.length_map] at hi
   obtain ⟨d,v,h1,h2,h3⟩:=r.some_ h
   refine .inr ⟨d,v,h1, ?_,h3⟩
   unfold L2.start
   rw [List.getElem?_append_left (by rw [List.length_map,← r.length]; exact hi)]
   exact h2
  ·rw [List.getElem?_replicate] at h
   split at h
   ·cases h; exact .inl rfl
   ·cases h
 subst hB
 refine ⟨⟨o, ?_,fun i s h => ?_,fun i j si sj a h1 h2 o1 _ _ _ => ?_,(fun i hi=>by rw [hk] at hi; cases hi),hn.symm,hx⟩,Ext.refl _ _ _,fun i z a h1 h2 h3 => ?_⟩
 ·unfold padE L2.start
  simp [hl,r.length]
 ·rcases hz i s h with rfl | ⟨d,v,rfl,h1,h2⟩
  ·trivial
  ·exact ⟨v,h1,h2⟩
 ·rcases hz i si h1 with rfl | ⟨d,v,rfl,_,_⟩ <;> cases o1
 ·rcases hz i z h1 with rfl | ⟨d,v,rfl,_,_⟩ <;> cases h2
/-- the frame at the making of an instance -/
theorem zZJq {B1 : Tb} {xs : List D} {us : List V} {F H0 : Hp} {eta : List Addr} {W : Wd} {N : List Str} {nl c : Nat} {x dx : Addr} (hB : B1.toTb0 = B) (hk : B1.xk = []) (hn : B1.xn = (L2.start N (.ref x :: us)).length) (hxF : B1.xF = F) (hxe : B1.xeta = eta) (hxH : B1.xH = H0) (o : OkH B F eta W H0) (r : RepL B F eta xs us) (hl : nl = N.length) (h1 : H0 x = none) (h2 : H0 dx = none) (hne : dx ≠ x) :
  Fr0 B1 x F eta H0 (padE nl (.oi c [] :: xs.map .val)) W (L2.start N (.ref x :: us)) (upd (upd H0 dx (.own x)) x (.ins (B.ca c) dx [])) F eta:=by
 have hx1 : (upd H0 dx (.own x)) x = none:=by rw [upd_ne hne.symm]; exact h1
 have o1 : OkH B F eta W (upd (upd H0 dx (.own x)) x (.ins (B.ca c) dx [])):=(o.new h2).new hx1
 have hz : ∀ (i : Nat) (s : Slot),(padE nl (.oi c [] :: xs.map .val))[i]? = some s → s = .no ∨ (i = 0 ∧ s = .oi c []) ∨ (∃ d v,s = .val d ∧ (L2.start N (.ref x :: us))[i]? = some (some v) ∧ Rep B F eta d v):=fun i s h=>by
  unfold padE at h
  rw [List.getElem?_append] at h
  split at h
  ·rename_i hi
   cases i with
   | zero=>simp at h; exact .inr (.inl ⟨rfl,h.symm⟩)
   | succ i =>
    simp only [List.getElem?_cons_succ] at h
    simp only [List.length_cons,List.length_map] at hi
    obtain ⟨d,v,h1,h2,h3⟩:=r.some_ h
    refine .inr (.inr ⟨d,v,h1, ?_,h3⟩)
    unfold L2.start
    rw [List.getElem?_append_left (by simp only [List.length_map,List.length_cons,← r.length]; omega)]
    simpa using h2
  ·rw [List.getElem?_replicate] at h
   split at h
   ·cases h; exact .inl rfl
   ·cases h
 have h00 : (L2.start N (.ref x :: us))[0]? = some (some (.ref x)):=by
  unfold L2.start
  simp
 subst hB
 have hE : Ext F eta H0 F eta (upd (upd H0 dx (.own x)) x (.ins (B1.ca c) dx [])):=Ext.trans o (o.new h2) (Ext.new h2) (Ext.new hx1)
 refine ⟨⟨o1, ?_,fun i s h => ?_,fun i j si sj a g1 g2 q1 q2 _ _ => ?_,(fun i hi=>by rw [hk] at hi; cases hi),hn.symm,by rw [hxF,hxe,hxH]; exact hE⟩,hE,fun i z a g1 g2 g3 => ?_⟩
 ·unfold padE L2.start
  simp [hl,r.length]
 ·rcases hz i s h with rfl | ⟨rfl,rfl⟩ | ⟨d,v,rfl,h1,h2⟩
  ·trivial
  ·exact ⟨x,dx,[],h00,upd_same,.nil,o.notF h1,o.notE h1⟩
  ·exact ⟨v,h1,h2⟩
 ·have k1 : i = 0:=by rcases hz i si g1 with rfl | ⟨rfl,_⟩ | ⟨d,v,rfl,_,_⟩ <;> first | rfl | cases q1
  have k2 : j = 0:=by rcases hz j sj g2 with rfl | ⟨rfl,_⟩ | ⟨d,v,rfl,_,_⟩ <;> first | rfl | cases q2
  rw [k1,k2]
 ·rcases hz i z g1 with rfl | ⟨rfl,rfl⟩ | ⟨d,v,rfl,_,_⟩
  ·cases g2
  ·rw [h00] at g3
   cases g3
   exact ⟨h1,(fun _=>rfl),by rw [hxH]; exact h1⟩
  ·cases g2
/-- a def of the text,with whatever defaults -/
def FunA (K : PySem.W.Frag) (x qual : Str) (st : Stmt) (f : Addr) (fd : FuncData) : Prop := ∃ (oc : Value) (od : Option Addr) (dV kV doc pm : Value) (an : Option Addr) (cdv ct : Value) (osl : Array (Option Value)),
 fd = PySem.W.fnOf x qual (defArgs st) (defBody st) (defScope st) dV kV doc pm an cdv ct ∧ K.lookup f = some ⟨oc,od,.func fd,osl⟩ ∧ PySem.W.codeIn K cdv qual = true
theorem FunA.of {x qual : Str} {st : Stmt} {f : Addr} {fd : FuncData} (F : Fun K x qual st f fd) : FunA K x qual st f fd:=by
 obtain ⟨oc,od,kV,doc,pm,an,cdv,ct,osl,rfl,lk,hcd⟩:=F.ex
 exact ⟨oc,od,_,kV,doc,pm,an,cdv,ct,osl,rfl,lk,hcd⟩
theorem FunA.ofD {x qual : Str} {st : Stmt} {f : Addr} {fd : FuncData} {dvs : List V} (F : FunD K x qual (defArgs st) (defBody st) (defScope st) dvs [] f fd) : FunA K x qual st f fd:=by
 obtain ⟨oc,od,dV,kV,doc,pm,an,cdv,ct,osl,rfl,lk,hcd,_,_⟩:=F.ex
 exact ⟨oc,od,_,kV,doc,pm,an,cdv,ct,osl,rfl,lk,hcd⟩
theorem FunA.okN {x qual : Str} {st : Stmt} {f : Addr} {fd : FuncData} {N ps : List Str} {k : Nat} {sp : Sp} (F : FunA K x qual st f fd) (S : FnScope N ps (defScope st)) (len : ∀ vs H Q E,sp vs H Q E → vs.length = ps.length)
  (hbody : ∀ (cdv : Value) (A : Around) (outer : List PySem.Env) (s : Shared) (H : Hp) (vs : List V) (Q : VK) (E : XK),Room k (A.deeper (envOfC qual (defScope st) s.heap.objs.size f cdv)) → sp vs H Q E →
   ∃ t,PSs (cxOf (L2N.CX P w) P w K mg base N qual (defScope st) f cdv A outer s H E) (defBody st) t ∧ t { nx:=fun _ H'=>Q .non H',rt:=Q } (L2.start N vs) H) : FnOk P w K mg base (L2N.CX P w) (k + 1) f fd ps sp:=by
 obtain ⟨oc,od,dV,kV,doc,pm,an,cdv,ct,osl,rfl,lk,hcd⟩:=F
 exact fn_of lk hcd S len fun A outer s H vs Q E hr hsp=>hbody cdv A outer s H vs Q E hr hsp
/-- a def of the text stands at a,its body is told -/
structure DefAt (B : Tb0) (Z : Zs) (K : PySem.W.Frag) (F : FnD) (a : Addr) : Prop where
 ex : ∃ (x qual : Str) (st : Stmt) (fd : FuncData) (N ps : List Str),FunA K x qual st a fd ∧ FnScope N ps (defScope st) ∧ F.np = ps.length ∧ F.nl = N.length ∧ Binds K fd ps [] ∧
  (F.df = [] ∨ ∃ (dvs : List V) (ds : List Value),Binds K fd ps ds ∧ Vals dvs ds ∧ ∀ (FF : Hp) (eta : List Addr),RepL B FF eta F.df dvs) ∧ chkSs Z F.body ⟨N,(defScope st).names,true,[],false⟩ (defBody st) = true
/-- the same,for a call within an except suite -/
structure DefAtH (Z : Zs) (K : PySem.W.Frag) (F : FnD) (a : Addr) : Prop where
 df : F.df = []
 ex : ∃ (x qual : Str) (st : Stmt) (fd : FuncData) (N ps : List Str),Fun K x qual st a fd ∧ FnScope N ps (defScope st) ∧ F.np = ps.length ∧ F.nl = N.length ∧ Binds K fd ps [] ∧ chkSs Z F.body ⟨N,(defScope st).names,false,[],true⟩ (defBody st) = true
 kp : PySem.W.keepIn K (.ref a) = true
theorem zZL0 {F : FnD} {a : Addr} (L : Lv Z (cfgN T) B P w K mg base n) (h : DefAt B Z K F a) : FnR P w K mg base (L2N.CX P w) (2 * (n + 1)) a (spC B (runF (cfgN T n) F)):=by
 obtain ⟨x,qual,st,fd,N,ps,Fn,S,hp,hl,hb,hdf,hc⟩:=h.ex
 have q : FnOk P w K mg base (L2N.CX P w) (2 * n + 1 + 1) a fd ps (spC B (runN (cfgN T n) F)):=by
  refine FunA.okN Fn S (fun vs H Q E h => ?_) (fun cdv A outer s H vs Q E hr h => ?_)
  ·obtain ⟨ds,W,F0,eta,o,r,k⟩:=h
   unfold runN at k
   split at k
   ·rename_i e
    rw [← r.length,e,hp]
   ·exact k.elim
  ·obtain ⟨ds,W,F0,eta,o,r,k⟩:=h
   let B1 : Tb:={ toTb0:=B,xa:=0,xc:=0,xd:=none,xq:=XW B F0 eta H E,wx:=fun cls d _ H=>E cls d H,xk:=[],xn:=(L2.start N vs).length,xs:=[],xF:=F0,xeta:=eta,xH:=H }
   obtain ⟨t,h1,h2⟩:=zZAC (Z:=Z) (T:=cfgN T) (n:=n) F.body B1 ⟨N,(defScope st).names,true,[],false⟩ (cxOf (L2N.CX P w) P w K mg base N qual (defScope st) a cdv A outer s H E) (defBody st) ⟨rfl,S.nd,rfl,S.kind,fun _ _=>rfl,fun _=>rfl,fun _=>hr,(units65 hr),rfl,⟨L2N.takes_of rfl rfl rfl rfl,fun c p W' sg H' F' eta' cls d q o' x' _ _ xr=>q H' F' eta' cls d o' x' xr⟩,(fun z=>Bool.noConfusion z),(fun z=>Bool.noConfusion z),fun _=>⟨rfl,rfl⟩,passes_of rfl,L⟩ hc
   refine ⟨t,h1, ?_⟩
   unfold runN at k
   split at k
   ·rw [R.wp_bind] at k
    refine h2 0 F0 eta H W _ W _ H F0 eta _ trivial (zZFS (B1:=B1) rfl rfl rfl (Ext.refl _ _ _) o r hl) (R.wp_mono k fun fl W1 k => ?_)
    cases fl with
    | nx e=>exact fun sg H1 F1 eta1 y=>k .non H1 F1 eta1 y.st.ok y.ext .non
    | rt d=>exact fun v H1 F1 eta1 o1 x1 r1=>k v H1 F1 eta1 o1 x1 r1
    | bk e=>exact k.elim
    | ct e=>exact k.elim
   ·exact k.elim
 have q2:=q.raw hb .nil
 rcases hdf with e | ⟨dvs,ds,hb2,hv,hr⟩
 ·refine FnR.imp q2 fun vs H Q E h => ?_
  rw [List.append_nil]
  obtain ⟨ds,W,F0,eta,o,r,k⟩:=h
  rw [zZFh e] at k
  exact ⟨ds,W,F0,eta,o,r,k⟩
 ·have q3:=q.raw hb2 hv
  intro A outer s H us vs Q E hrm e0 r ⟨ds',W,F0,eta,o,rl,k⟩
  unfold runF at k
  split at k
  ·rename_i hlen
   refine q2 A outer s H us vs Q E hrm e0 r ⟨ds',W,F0,eta,o,by rw [List.append_nil]; exact rl, ?_⟩
   unfold runN
   rw [if_pos hlen]
   exact k
  ·split at k
   ·rename_i hlen
    refine q3 A outer s H us vs Q E hrm e0 r ⟨ds' ++ F.df,W,F0,eta,o,rl.append (hr F0 eta), ?_⟩
    unfold runN
    rw [if_pos (by rw [List.length_append]; exact hlen)]
    exact k
   ·exact k.elim
theorem zZMU {F : FnD} {a : Addr} {c : Nat} (L : Lv Z (cfgN T) B P w K mg base n) (h : DefAt B Z K F a) : FnR P w K mg base (L2N.CX P w) (2 * (n + 1)) a (spI B c (runI (cfgN T n) F c)):=by
 obtain ⟨x,qual,st,fd,N,ps,Fn,S,hp,hl,hb,hdf,hc⟩:=h.ex
 have q : FnOk P w K mg base (L2N.CX P w) (2 * n + 1 + 1) a fd ps (spI B c (runI (cfgN T n) F c)):=by
  refine FunA.okN Fn S (fun vs H Q E h => ?_) (fun cdv A outer s H vs Q E hr h => ?_)
  ·obtain ⟨ds,W,F0,eta,x,dx,us,H0,rfl,rfl,g1,g2,g3,o,r,k⟩:=h
   unfold runI at k
   split at k
   ·rename_i e
    rw [List.length_cons,← r.length,e,hp]
   ·exact k.elim
  ·obtain ⟨ds,W,F0,eta,x,dx,us,H0,rfl,rfl,g1,g2,g3,o,r,k⟩:=h
   let B1 : Tb:={ toTb0:=B,xa:=0,xc:=0,xd:=none,xq:=XW B F0 eta H0 E,wx:=fun cls d _ H=>E cls d H,xk:=[],xn:=(L2.start N (.ref x :: us)).length,xs:=[],xF:=F0,xeta:=eta,xH:=H0 }
   obtain ⟨t,h1,h2⟩:=zZAC (Z:=Z) (T:=cfgN T) (n:=n) F.body B1 ⟨N,(defScope st).names,true,[],false⟩ (cxOf (L2N.CX P w) P w K mg base N qual (defScope st) a cdv A outer s _ E) (defBody st) ⟨rfl,S.nd,rfl,S.kind,fun _ _=>rfl,fun _=>rfl,fun _=>hr,(units65 hr),rfl,⟨L2N.takes_of rfl rfl rfl rfl,fun c p W' sg H' F' eta' cls d q o' x' _ _ xr=>q H' F' eta' cls d o' x' xr⟩,(fun z=>Bool.noConfusion z),(fun z=>Bool.noConfusion z),fun _=>⟨rfl,rfl⟩,passes_of rfl,L⟩ hc
   refine ⟨t,h1, ?_⟩
   unfold runI at k
   split at k
   ·rw [R.wp_bind] at k
    refine h2 x F0 eta H0 W _ W _ _ F0 eta _ trivial (zZJq (B1:=B1) (c:=c) rfl rfl rfl rfl rfl rfl o r hl g1 g2 g3) (R.wp_mono k fun fl W1 k => ?_)
    cases fl with
    | nx e =>
     intro sg H1 F1 eta1 y
     dsimp only [endI] at k
     split at k
     ·rename_i c' fs he
      split at k
      ·rename_i ec
       subst ec
       obtain ⟨a1,dx1,gs,z1,z2,z3,z4,z5⟩:=y.st.sl 0 _ he
       obtain rfl:=(y.new 0 _ a1 he rfl z1).2.1 rfl
       exact k H1 F1 eta1 dx1 gs y.st.ok y.ext z2 z4 z5 z3
      ·exact k.elim
     ·exact k.elim
    | rt d=>exact k.elim
    | bk e=>exact k.elim
    | ct e=>exact k.elim
   ·exact k.elim
 have q2:=q.raw hb .nil
 refine FnR.imp q2 fun vs H Q E h => ?_
 rw [List.append_nil]
 exact h
theorem zZLD {F : FnD} {a : Addr} (L : Lv Z (cfgN T) B P w K mg base n) (h : DefAtH Z K F a) : DefH B P w K mg base (2 * (n + 1)) (runF (cfgN T n) F) a:=by
 obtain ⟨x,qual,st,fd,N,ps,Fn,S,hp,hl,hb,hc⟩:=h.ex
 refine ⟨h.kp,fd,ps,hb, ?_⟩
 obtain ⟨oc,od,kV,doc,pm,an,cdv,ct,osl,rfl,lk,hcd⟩:=Fn.ex
 refine L2H.fn_ofH (k:=2 * n + 1) lk hcd S (fun vs H Q E h => ?_) (fun A outer s H vs Q E p hot hr h => ?_)
 ·obtain ⟨ds,W,F0,eta,o,r,k⟩:=h
  rw [zZFh h.df] at k
  unfold runN at k
  split at k
  ·rename_i e
   rw [← r.length,e,hp]
  ·exact k.elim
 ·obtain ⟨ds,W,F0,eta,o,r,k⟩:=h
  let B1 : Tb:={ toTb0:=B,xa:=0,xc:=0,xd:=none,xq:=XW B F0 eta H E,wx:=fun cls d _ H=>E cls d H,xk:=[],xn:=(L2.start N vs).length,xs:=[],xF:=F0,xeta:=eta,xH:=H }
  obtain ⟨t,h1,h2⟩:=zZAC (Z:=Z) (T:=cfgN T) (n:=n) F.body B1 ⟨N,(defScope st).names,false,[],true⟩ (L2H.cxH (L2N.CX P w) P w K mg base N qual (defScope st) a cdv A outer s H E p) (defBody st) ⟨rfl,S.nd,rfl,S.kind,(fun z=>Bool.noConfusion z),(fun z=>Bool.noConfusion z),(fun z=>Bool.noConfusion z),by have:=hr.un; show (A.deeper _).units + 65 < _; omega,rfl,⟨L2N.takes_of rfl rfl rfl rfl,fun c p W' sg H' F' eta' cls d q o' x' _ _ xr=>q H' F' eta' cls d o' x' xr⟩,(fun _ z=>Bool.noConfusion z),(fun _=>⟨⟨p,hot,List.mem_cons_self⟩,hr⟩),(fun z=>Bool.noConfusion z),passes_of rfl,L⟩ hc
  refine ⟨t,h1, ?_⟩
  rw [zZFh h.df] at k
  unfold runN at k
  split at k
  ·rw [R.wp_bind] at k
   refine h2 0 F0 eta H W _ W _ H F0 eta _ trivial (zZFS (B1:=B1) rfl rfl rfl (Ext.refl _ _ _) o r hl) (R.wp_mono k fun fl W1 k => ?_)
   cases fl with
   | nx e=>exact fun sg H1 F1 eta1 y=>k .non H1 F1 eta1 y.st.ok y.ext .non
   | rt d=>exact fun v H1 F1 eta1 o1 x1 r1=>k v H1 F1 eta1 o1 x1 r1
   | bk e=>exact k.elim
   | ct e=>exact k.elim
  ·exact k.elim
theorem zZNA {F : FnD} {a : Addr} {k : Nat} {c : List D → Wd → R D} (hd : DefAtH Z K F a) (h : ∀ xs W,c xs W = .st) : DefH B P w K mg base k c a:=by
 obtain ⟨x,qual,st,fd,N,ps,Fn,S,hp,hl,hb,hc⟩:=hd.ex
 refine ⟨hd.kp,fd,ps,hb,⟨fun vs H Q E hh => ?_,fun A outer s H args us vs Q E p hr hot hpin e0 hbb r hh => ?_⟩⟩
 ·obtain ⟨ds,W,F,eta,o,rl,k⟩:=hh
  rw [h] at k
  exact k.elim
 ·obtain ⟨ds,W,F,eta,o,rl,k⟩:=hh
  rw [h] at k
  exact k.elim
/-- where all stands -/
structure Sets (P : Program) (Z : Zs) (T : Prog) (B : Tb0) (K : PySem.W.Frag) (mg : Str → Option Value) (fa ia : Nat → Addr) : Prop where
 fn : ∀ f F,T.fn f = some F → DefAt B Z K F (fa f)
 ini : ∀ c F,T.ini c = some F → DefAt B Z K F (ia c)
 nm : ∀ f x,Z.fnm f = some x → mg x = some (.ref (fa f)) ∧ PySem.W.keepIn K (.ref (fa f)) = true
 me : ∀ c m f,T.meth c m = some f → m < B.nA ∧ Cls K (B.ca c) ∧ Meth K (B.ca c) (B.fn m) (fa f)
 mk_ : ∀ c x,Z.cnm c = some x → mg x = some (.ref (B.ca c)) ∧ Mk K (B.ca c) (ia c)
 fl : ∀ c f,T.fld c f = true → f < B.nA ∧ Cls K (B.ca c) ∧ NoAttr K (B.ca c) (B.fn f)
 bl : ∀ x,x ∈ Z.blt → mg x = none
 gi : ∀ x i,Z.gi.lookup x = some i → ∃ t,mg x = some (.int i t)
 gs : ∀ x s,Z.gs.lookup x = some s → ∃ t,mg x = some (.str s t)
 gk : ∀ x ws,Z.gk.lookup x = some ws → ∃ a,mg x = some (.ref a) ∧ B.kt a ws
 kto : KtOk B K
 an : B.fn = Z.anm
 kl : ScrOk B K
 isc : ∀ c c' r,T.isc c c' = some r → IscAt K (B.ca c) (B.ca c') r
 nem : ∀ c c' f,T.nem c c' = some f → (PySem.W.findIn K (.ref (B.ca c)) "__ne__" = some (some (.builtin "object.__ne__")) ∧ PySem.W.mroIn K (B.ca c) (.type "object") = some true ∧ PySem.W.subIn K (.ref (B.ca c)) (.type "NoneType") = some false) ∧ PySem.W.findIn K (.ref (B.ca c)) "__eq__" = some (some (.ref (fa f))) ∧ PySem.W.isFn K (.ref (fa f)) = true ∧ PySem.W.notFirst K (B.ca c) (.ref (B.ca c')) = true
 eqm : ∀ c c' f,T.eqm c c' = some f → PySem.W.findIn K (.ref (B.ca c)) "__eq__" = some (some (.ref (fa f))) ∧ PySem.W.isFn K (.ref (fa f)) = true ∧ PySem.W.notFirst K (B.ca c) (.ref (B.ca c')) = true
 xm : ∀ k c b,T.xm k c = some b → PySem.W.exmOne K (.ref (B.ca k)) (.ref (B.ca c)) = some b
 xis : ∀ k c b,T.xis k c = some b → L2.ExcC K (B.ca k) ∧ PySem.W.kitOne K (.ref (B.ca k)) (.ref (B.ca c)) = some b
 xn : ∀ c x,Z.xnm c = some x → mg x = some (.ref (B.ca c))
 rn : ∀ c x,Z.rnm c = some x → RaiAt K mg (B.ca c) x
 en : ∀ c x,Z.enm c = some x → ∀ (w : World) (base : Heap),RaeAt B P w K mg base c x
 hn : ∀ f x,Z.hnm f = some x → mg x = some (.ref (fa f)) ∧ ∃ F,T.fn f = some F ∧ DefAtH Z K F (fa f)
 xfo : ∀ k f,T.xf k = some f → B.xf k = f ∧ XfC K (B.ca k) ∧ PySem.W.findIn K (.ref (B.ca k)) (B.fn f) = some none
 xvo : ∀ k b,T.xiv k = some b → L2.ExcC K (B.ca k) ∧ PySem.W.kitOne K (.ref (B.ca k)) (.type "ValueError") = some b
theorem zZEp {a : Addr} {k : Nat} {c : List D → Wd → R D} (h : ∀ xs W,c xs W = .st) : FnR P w K mg base (L2N.CX P w) k a (spC B c):=by
 intro A outer s H us vs Q E hr e0 r ⟨ds,W,F,eta,o,rl,k⟩
 rw [h] at k
 exact k.elim
theorem zZIb {a : Addr} {k : Nat} {c : Nat} {g : List D → Wd → R (List (Nat × D))} (h : ∀ xs W,g xs W = .st) : FnR P w K mg base (L2N.CX P w) k a (spI B c g):=by
 intro A outer s H us vs Q E hr e0 r ⟨ds,W,F,eta,x,dx,us,H0,e1,e2,g1,g2,g3,o,rl,k⟩
 rw [h] at k
 exact k.elim
theorem zZLZ {fa ia : Nat → Addr} (G : Sets P Z T B K mg fa ia) : ∀ n,Lv Z (cfgN T) B P w K mg base n
 | 0=>⟨fun f x h=>⟨fa f,(G.nm f x h).1,⟨zZEp fun _ _=>rfl,(G.nm f x h).2⟩⟩,fun c m f h=>⟨(G.me c m f h).1,(G.me c m f h).2.1,fa f,(G.me c m f h).2.2,zZEp fun _ _=>rfl⟩,
   fun c x h=>⟨(G.mk_ c x h).1,ia c,(G.mk_ c x h).2,zZIb fun _ _=>rfl⟩,G.fl,G.bl,G.gi,G.gs,G.gk,G.kto,G.an,G.kl,G.isc,fun c c' f h=>⟨fa f,(G.eqm c c' f h).1,(G.eqm c c' f h).2.1,(G.eqm c c' f h).2.2,zZEp fun _ _=>rfl⟩,(fun c c' f h=>⟨fa f,(G.nem c c' f h).1,(G.nem c c' f h).2.1,(G.nem c c' f h).2.2.1,(G.nem c c' f h).2.2.2,zZEp fun _ _=>rfl⟩),G.xm,G.xis,G.xn,G.rn,fun c x h=>G.en c x h w base,G.xfo,G.xvo,fun f x h=>by
    obtain ⟨g1,F,g2,g3⟩:=G.hn f x h
    exact ⟨fa f,g1,zZNA g3 fun _ _=>rfl⟩⟩
 | n + 1=>by
  have L:=zZLZ G n
  have hf : ∀ f,FnR P w K mg base (L2N.CX P w) (2 * (n + 1)) (fa f) (spC B ((cfgN T (n + 1)).call f)):=fun f=>by
   cases q : T.fn f with
   | none=>exact zZEp fun xs W=>by show (match T.fn f with | some F=>runF (cfgN T n) F xs W | none=>.st) = _; rw [q]
   | some F =>
    have e : (cfgN T (n + 1)).call f = runF (cfgN T n) F:=by
     funext xs W
     show (match T.fn f with | some F=>runF (cfgN T n) F xs W | none=>.st) = _
     rw [q]
    rw [e]
    exact zZL0 L (G.fn f F q)
  have hi : ∀ c,FnR P w K mg base (L2N.CX P w) (2 * (n + 1)) (ia c) (spI B c ((cfgN T (n + 1)).init c)):=fun c=>by
   cases q : T.ini c with
   | none=>exact zZIb fun xs W=>by show (match T.ini c with | some F=>runI (cfgN T n) F c xs W | none=>.st) = _; rw [q]
   | some F =>
    have e : (cfgN T (n + 1)).init c = runI (cfgN T n) F c:=by
     funext xs W
     show (match T.ini c with | some F=>runI (cfgN T n) F c xs W | none=>.st) = _
     rw [q]
    rw [e]
    exact zZMU L (G.ini c F q)
  exact ⟨fun f x h=>⟨fa f,(G.nm f x h).1,⟨hf f,(G.nm f x h).2⟩⟩,fun c m f h=>⟨(G.me c m f h).1,(G.me c m f h).2.1,fa f,(G.me c m f h).2.2,hf f⟩,
   fun c x h=>⟨(G.mk_ c x h).1,ia c,(G.mk_ c x h).2,hi c⟩,G.fl,G.bl,G.gi,G.gs,G.gk,G.kto,G.an,G.kl,G.isc,fun c c' f h=>⟨fa f,(G.eqm c c' f h).1,(G.eqm c c' f h).2.1,(G.eqm c c' f h).2.2,hf f⟩,(fun c c' f h=>⟨fa f,(G.nem c c' f h).1,(G.nem c c' f h).2.1,(G.nem c c' f h).2.2.1,(G.nem c c' f h).2.2.2,hf f⟩),G.xm,G.xis,G.xn,G.rn,fun c x h=>G.en c x h w base,G.xfo,G.xvo,fun f x h=>by
    obtain ⟨g1,F,g2,g3⟩:=G.hn f x h
    have e : (cfgN T (n + 1)).call f = runF (cfgN T n) F:=by
     funext xs W
     show (match T.fn f with | some F=>runF (cfgN T n) F xs W | none=>.st) = _
     rw [g2]
    refine ⟨fa f,g1, ?_⟩
    rw [e]
    exact zZLD L g3⟩
/-- the law's promise: at a list of ints that is read only -/
def spLaw (K : PySem.W.Frag) (m : Nat) : Sp:=fun vs H Q _ => ∃ (a : Addr) (ns : List Int),vs = [.ref a] ∧ SqL K H a (ns.map V.int) ∧ ns.length ≤ m ∧ Only H ∧ ∀ H',Q (.bl true) H'
/-- an outside list's own table -/
def Tb0.at (B : Tb0) (K : PySem.W.Frag) : Prop:=B.kl = fun a ns => ∀ H,SqL K H a (ns.map V.int)
/-- the law's def,from what it computes at depth n + 1 -/
theorem zZNM {fa ia : Nat → Addr} {m f : Nat} {x qual : Str} {st : Stmt} {fd : FuncData} {N ps : List Str} {F : FnD} (G : Sets P Z T B K mg fa ia) (n : Nat) (hB : B.at K) (Fn : Fun K x qual st (fa f) fd) (S : FnScope N ps (defScope st)) (hp : F.np = ps.length) (hl : F.nl = N.length)
  (hc : chkSs Z F.body ⟨N,(defScope st).names,true,[],false⟩ (defBody st) = true) (hF : T.fn f = some F) (h1 : ps.length = 1)
  (hx : ∀ ns : List Int,ns.length ≤ m → ∃ W,(cfgN T (n + 1)).call f [.ext ns] [] = .ok (.bl true) W) : FnOk P w K mg base CX0 (2 * (n + 1)) (fa f) fd ps (spLaw K m):=by
 have L : Lv Z (cfgN T) B P w K mg base n:=zZLZ G n
 refine Fn.ok (k:=2 * n + 1) S (fun vs H Q E h => ?_) (fun cdv A outer s H vs Q E hr h => ?_)
 ·obtain ⟨a,ns,rfl,_⟩:=h
  exact h1.symm
 ·obtain ⟨a,ns,rfl,hq,hm,hO,hQ⟩:=h
  let B1 : Tb:={ toTb0:=B,xa:=0,xc:=0,xd:=none,xq:=fun _ _ _=>False,wx:=fun _ _ _ _=>False,xk:=[],xn:=(L2.start N [V.ref a]).length,xs:=[],xF:=fun b=>match H b with | some (.frz o u)=>some (.frz o u) | _=>none,xeta:=[],xH:=H }
  obtain ⟨t,t1,t2⟩:=zZAC (Z:=Z) (T:=cfgN T) (n:=n) F.body B1 ⟨N,(defScope st).names,true,[],false⟩ (cxOf CX0 P w K mg base N qual (defScope st) (fa f) cdv A outer s H E).nox (defBody st) ⟨rfl,S.nd,rfl,S.kind,fun _ _=>rfl,fun _=>rfl,fun _=>hr,(units65 hr),rfl,⟨takes0N,fun _ _ _ _ _ _ _ _ _ q=>q.elim⟩,(fun z=>Bool.noConfusion z),(fun z=>Bool.noConfusion z),fun _=>⟨rfl,rfl⟩,PassesOwn.never,L⟩ hc
  refine ⟨t,t1, ?_⟩
  obtain ⟨W1,e⟩:=hx ns hm
  have e2 : (cfgN T (n + 1)).call f [.ext ns] [] = runF (cfgN T n) F [.ext ns] []:=by
   show (match T.fn f with | some F=>runF (cfgN T n) F [.ext ns] [] | none=>.st) = _
   rw [hF]
  rw [e2] at e
  -- what is read only is frozen
  have o : OkH B (fun b=>match H b with | some (.frz o u)=>some (.frz o u) | _=>none) [] [] H:=by
   refine ⟨fun b u hb => ?_,fun b hb=>by simp at hb,List.nodup_nil,rfl,fun n a c h1 h2=>by simp at h1⟩
   split at hb
   ·rename_i o' u' hh
    rw [hh]
    exact hb
   ·cases hb
  have r : RepL B (fun b=>match H b with | some (.frz o u)=>some (.frz o u) | _=>none) [] [D.ext ns] [V.ref a]:=by
   refine .cons (.ext ?_) .nil
   rcases hq with (q | ⟨o',q⟩) | q
   ·rcases hO a with z | ⟨o2,xs,z⟩
    ·rw [z] at q; cases q
    ·rw [z] at q; cases q
   ·exact .inl ⟨o',by simp only [q]⟩
   ·refine .inr ?_
    rw [hB]
    exact fun H=>.inr q
  have k : (runF (cfgN T n) F [.ext ns] []).wp (fun _ _ _=>False) fun d W'=>d = .bl true:=by rw [e]; exact rfl
  unfold runF at k
  split at k
  ·rw [R.wp_bind] at k
   refine t2 0 _ [] H [] _ [] _ H _ [] _ trivial (zZFS (B1:=B1) rfl rfl rfl (Ext.refl _ _ _) o r hl) (R.wp_mono k fun fl W1 k => ?_)
   cases fl with
   | nx e=>cases k
   | rt d =>
    obtain rfl : d = .bl true:=k
    intro v H1 F1 eta1 o1 x1 r1
    cases r1
    exact hQ H1
   | bk e=>exact k.elim
   | ct e=>exact k.elim
  ·rename_i hne
   exact absurd (show [D.ext ns].length = F.np by rw [hp,h1]; rfl) hne
end
end DL
set_option maxRecDepth 100000
namespace DL
open PySem (Str)
inductive Tag {X : Type} (x : X) : Type where
 | mk : Tag x
def bnd {A B : Type} (r : R A) (f : A → Wd → R B) (_ : Tag f) : R B:=r.bind f
theorem zZCN {A B : Type} (a : A) (W : Wd) (f : A → Wd → R B) (t : Tag f) : bnd (.ok a W) f t = f a W:=rfl
theorem zZCF {A B : Type} (f : A → Wd → R B) (t : Tag f) : bnd .st f t = .st:=rfl
theorem zZE {T : Prog} {n f : Nat} {F : FnD} {xs : List D} {W : Wd} (h : T.fn f = some F) : (cfgN T (n + 1)).call f xs W = runF (cfgN T n) F xs W:=by
 show (match T.fn f with | some F=>runF (cfgN T n) F xs W | none=>.st) = _
 rw [h]
theorem zZEv {T : Prog} {n c : Nat} {F : FnD} {xs : List D} {W : Wd} (h : T.ini c = some F) : (cfgN T (n + 1)).init c xs W = runI (cfgN T n) F c xs W:=by
 show (match T.ini c with | some F=>runI (cfgN T n) F c xs W | none=>.st) = _
 rw [h]
theorem yZS {g : Cfg} {F : FnD} {xs : List D} {W : Wd} (h : xs.length = F.np) : runF g F xs W = bnd (exS g F.body (padE F.nl (xs.map .val)) W) endR .mk:=by
 unfold runF
 rw [if_pos h]
 rfl
theorem zZAQ {g : Cfg} {F : FnD} {c : Nat} {xs : List D} {W : Wd} (h : xs.length + 1 = F.np) : runI g F c xs W = bnd (exS g F.body (padE F.nl (.oi c [] :: xs.map .val)) W) (endI c) .mk:=by
 unfold runI
 rw [if_pos h]
 rfl
theorem zZAe (d : D) (W : Wd) : endR (.rt d) W = .ok d W:=rfl
theorem zZBE (e : Env) (W : Wd) : endR (.nx e) W = .ok .non W:=rfl
section
variable {g : Cfg} {e : Env} {W : Wd}
theorem zZEK : evE g .non e W = .ok .non W:=rfl
theorem v_bl {b : Bool} : evE g (.bl b) e W = .ok (.bl b) W:=rfl
theorem zZDX {i : Int} : evE g (.int i) e W = .ok (.int i) W:=rfl
theorem zZDv {s : Str} : evE g (.str s) e W = .ok (.str s) W:=rfl
theorem zZDF {i : Nat} : evE g (.var i) e W = opt (getV e i) W:=rfl
theorem zZC6 {op : Op} {a b : E} : evE g (.bin op a b) e W = bnd (evE g a e W) (fun x W=>bnd (evE g b e W) (fun y W=>opt (binD op x y) W) .mk) .mk:=rfl
def negR : D → Wd → R D
 | .int i,W=>.ok (.int (-i)) W
 | _,_=>.st
theorem zZC2 {a : E} : evE g (.neg a) e W = bnd (evE g a e W) negR .mk:=by
 show (evE g a e W).bind _ = (evE g a e W).bind _
 refine congrArg (R.bind _) ?_
 funext x W
 cases x <;> rfl
theorem xZq (i : Int) (W : Wd) : negR (.int i) W = .ok (.int (-i)) W:=rfl
theorem v_in {a b : E} : evE g (.cmp .inn a b) e W = bnd (evE g a e W) (fun x W=>bnd (srcOf b (evE g b) e W) (fun s W=>opt (inG false W x s) W) .mk) .mk:=rfl
theorem zZBC {a b : E} : evE g (.cmp .notin a b) e W = bnd (evE g a e W) (fun x W=>bnd (srcOf b (evE g b) e W) (fun s W=>opt (inG true W x s) W) .mk) .mk:=rfl
theorem v_eq {a b : E} : evE g (.cmp .eq a b) e W = bnd (evE g a e W) (fun x W=>bnd (evE g b e W) (fun y W=>opt (cmpD .eq x y) W) .mk) .mk:=rfl
theorem v_ne {a b : E} : evE g (.cmp .ne a b) e W = bnd (evE g a e W) (fun x W=>bnd (evE g b e W) (fun y W=>opt (cmpD .ne x y) W) .mk) .mk:=rfl
theorem v_lt {a b : E} : evE g (.cmp .lt a b) e W = bnd (evE g a e W) (fun x W=>bnd (evE g b e W) (fun y W=>opt (cmpD .lt x y) W) .mk) .mk:=rfl
theorem v_le {a b : E} : evE g (.cmp .le a b) e W = bnd (evE g a e W) (fun x W=>bnd (evE g b e W) (fun y W=>opt (cmpD .le x y) W) .mk) .mk:=rfl
theorem v_gt {a b : E} : evE g (.cmp .gt a b) e W = bnd (evE g a e W) (fun x W=>bnd (evE g b e W) (fun y W=>opt (cmpD .gt x y) W) .mk) .mk:=rfl
theorem v_ge {a b : E} : evE g (.cmp .ge a b) e W = bnd (evE g a e W) (fun x W=>bnd (evE g b e W) (fun y W=>opt (cmpD .ge x y) W) .mk) .mk:=rfl
theorem v_is {a b : E} : evE g (.cmp .isN a b) e W = bnd (evE g a e W) (fun x W=>bnd (evE g b e W) (fun y W=>opt (cmpD .isN x y) W) .mk) .mk:=rfl
theorem zZBB {a b : E} : evE g (.cmp .notN a b) e W = bnd (evE g a e W) (fun x W=>bnd (evE g b e W) (fun y W=>opt (cmpD .notN x y) W) .mk) .mk:=rfl
def blK (A B : R D) : D → R D
 | .bl true=>A | .bl false=>B | _=>.st
theorem zZEA (A B : R D) (b : Bool) : blK A B (.bl b) = if b then A else B:=by cases b <;> rfl
theorem zZBA {o1 o2 : Cm} {a b c : E} : evE g (.chain o1 o2 a b c) e W = bnd (evE g a e W) (fun x W=>bnd (evE g b e W) (fun y W=>bnd (opt (cmpD o1 x y) W) (fun k W=>blK (bnd (evE g c e W) (fun z W=>opt (cmpD o2 y z) W) .mk) (.ok (.bl false) W) k) .mk) .mk) .mk:=by
 show (evE g a e W).bind _ = (evE g a e W).bind _
 refine congrArg (R.bind _) ?_
 funext x W
 show (evE g b e W).bind _ = (evE g b e W).bind _
 refine congrArg (R.bind _) ?_
 funext y W
 show (opt _ W).bind _ = (opt _ W).bind _
 refine congrArg (R.bind _) ?_
 funext k W
 cases k with
 | bl b=>cases b <;> rfl
 | _=>rfl
theorem zZDs {es : Es} : evE g (.and es) e W = evAnd g es e W:=rfl
theorem v_or {es : Es} : evE g (.or es) e W = evOr g es e W:=rfl
theorem zZCZ {a : E} : evAnd g (.cons a .nil) e W = evE g a e W:=rfl
theorem zZD7 {a : E} : evOr g (.cons a .nil) e W = evE g a e W:=rfl
theorem zZCI {a b : E} {es : Es} : evAnd g (.cons a (.cons b es)) e W = bnd (evE g a e W) (fun x W=>blK (evAnd g (.cons b es) e W) (.ok (.bl false) W) x) .mk:=by
 show (evE g a e W).bind _ = (evE g a e W).bind _
 refine congrArg (R.bind _) ?_
 funext x W
 cases x with
 | bl b=>cases b <;> rfl
 | _=>rfl
theorem zZDc {a b : E} {es : Es} : evOr g (.cons a (.cons b es)) e W = bnd (evE g a e W) (fun x W=>blK (.ok (.bl true) W) (evOr g (.cons b es) e W) x) .mk:=by
 show (evE g a e W).bind _ = (evE g a e W).bind _
 refine congrArg (R.bind _) ?_
 funext x W
 cases x with
 | bl b=>cases b <;> rfl
 | _=>rfl
theorem zZDf {a : E} : evE g (.not a) e W = bnd (evE g a e W) (fun x W=>bnd (opt (truD x) W) (fun k W=>.ok (.bl (!k)) W) .mk) .mk:=rfl
theorem zZEI {c a b : E} : evE g (.ife c a b) e W = bnd (evE g c e W) (fun x W=>bnd (opt (truD x) W) (fun k W=>if k then evE g a e W else evE g b e W) .mk) .mk:=rfl
theorem zZEH {f : Nat} {a : E} : evE g (.fld f a) e W = bnd (objOf a (evE g a) e W) (fun o W=>opt (fldD g f o) W) .mk:=rfl
theorem zZDh {a b : E} : evE g (.idx a b) e W = bnd (srcOf a (evE g a) e W) (fun s W=>bnd (evE g b e W) (fun i W=>opt ((items W s).bind fun xs=>atD xs i) W) .mk) .mk:=rfl
def slR (x : D) (l h : Option Int) (W : Wd) : R D:=match x with
  | .tup xs=>.ok (.tup (cutD xs l h)) W
  | .lst xs=>.ok (.lst (cutD xs l h)) W
  | .own n=>(match W[n]? with | some (.lst xs)=>.ok (.lst (cutD xs l h)) W | _=>.st)
  | _=>.st
theorem v_sl {a : E} {lo hi : Oe} : evE g (.sl a lo hi) e W = bnd (evE g a e W) (fun x W=>bnd (evO g lo e W) (fun l W=>bnd (evO g hi e W) (fun h W=>slR x l h W) .mk) .mk) .mk:=rfl
def tupR (xs : List D) (W : Wd) : R D:=if xs.length ≤ cap then .ok (.tup xs) W else .st
theorem zZAb {xs : List D} (h : xs.length ≤ cap) : tupR xs W = .ok (.tup xs) W:=if_pos h
theorem zZDU {es : Es} : evE g (.tup es) e W = bnd (evEs g es e W) tupR .mk:=rfl
theorem zZDr {f : Fe} : evE g (.frz f) e W = bnd (evF g f e W) (fun xs W=>.ok (.lst xs) W) .mk:=rfl
theorem zZBy {f : Fe} : evE g (.cell f) e W = bnd (evF g f e W) (fun xs W=>newCell (.lst xs) W) .mk:=rfl
theorem zZBu {f : Nat} {es : Es} : evE g (.call f es) e W = bnd (evEs g es e W) (fun xs W=>g.call f xs W) .mk:=rfl
def mkR (g : Cfg) (c : Nat) (fs : List (Nat × D)) (W : Wd) : R D:=if g.cellc c then newCell (.ins c fs) W else .ok (.ins c fs) W
theorem zZCB {c : Nat} {es : Es} : evE g (.make c es) e W = bnd (evEs g es e W) (fun xs W=>bnd (g.init c xs W) (mkR g c) .mk) .mk:=rfl
def methR (g : Cfg) (m : Nat) (o : D) (W : Wd) : R Nat:=match o with
   | .ins c fs=>if (fs.lookup m).isNone then opt (g.meth c m) W else .st
   | .own n=>(match W[n]? with | some (.ins c fs)=>if (fs.lookup m).isNone then opt (g.meth c m) W else .st | _=>.st)
   | _=>.st
theorem zZBf {m : Nat} {a : E} {es : Es} : evE g (.meth m a es) e W = bnd (evE g a e W) (fun o W=>bnd (methR g m o W) (fun f W=>bnd (evEs g es e W) (fun xs W=>g.call f (o :: xs) W) .mk) .mk) .mk:=rfl
theorem zZMx {b : B1} {a : E} (h : isConv b = true) : evE g (.b1 b a) e W = bnd (evE g a e W) (fun x W=>opt (conv b x) W) .mk:=by
 show (if isConv b then _ else _) = _
 rw [h]
 rfl
theorem zZBl {a : E} : evE g (.b1 .int a) e W = bnd (evE g a e W) (fun x W=>opt (conv .int x) W) .mk:=rfl
theorem zZDu {a : E} : evE g (.b1 .len a) e W = bnd (srcOf a (evE g a) e W) (fun s W=>opt (b1D W .len s) W) .mk:=rfl
theorem zZAu {a : E} : evE g (.b1 .tuple a) e W = bnd (srcOf a (evE g a) e W) (fun s W=>opt (b1D W .tuple s) W) .mk:=rfl
theorem zZEC {a : E} : evE g (.b1 .sum a) e W = bnd (srcOf a (evE g a) e W) (fun s W=>opt (b1D W .sum s) W) .mk:=rfl
theorem zZDW {a : E} : evE g (.b1 .all a) e W = bnd (srcOf a (evE g a) e W) (fun s W=>opt (b1D W .all s) W) .mk:=rfl
theorem zZD6 {a : E} : evE g (.b1 .any a) e W = bnd (srcOf a (evE g a) e W) (fun s W=>opt (b1D W .any s) W) .mk:=rfl
theorem zZD5 {a : E} {t : Ty} : evE g (.isi a t) e W = bnd (evE g a e W) (fun x W=>opt ((tyD x t).map .bl) W) .mk:=rfl
theorem zZAi {xs : List D} {l h : Option Int} : slR (.tup xs) l h W = .ok (.tup (cutD xs l h)) W:=rfl
theorem zZAm {xs : List D} {l h : Option Int} : slR (.lst xs) l h W = .ok (.lst (cutD xs l h)) W:=rfl
theorem zZDy {a : E} {c : Nat} : evE g (.isc a c) e W = bnd (objOf a (evE g a) e W) (fun o W=>opt ((g.isc o.1 c).map .bl) W) .mk:=rfl
theorem zZDb {a b : E} : evE g (.eqo a b) e W = bnd (evE g a e W) (fun x W=>bnd (evE g b e W) (fun y W=>eqoR g x y W) .mk) .mk:=rfl
def blOnly : D → Wd → R D
 | .bl b,W=>.ok (.bl b) W
 | _,_=>.st
theorem yZn {b : Bool} : blOnly (.bl b) W = .ok (.bl b) W:=rfl
theorem zZBt {a b : E} : evE g (.dget a b) e W = bnd (evE g a e W) (fun x W=>bnd (evE g b e W) (fun y W=>dgetR x y W) .mk) .mk:=rfl
theorem yZ1 {kvs : List (D × D)} {y : D} : dgetR (.dct kvs) y W = opt ((keyD y).bind fun k=>lookK k kvs) W:=rfl
def objO (W : Wd) : Option Slot → R (Nat × List (Nat × D))
 | some (.oi c fs)=>.ok (c,fs) W
 | some (.val (.ins c fs))=>.ok (c,fs) W
 | some (.val (.own n))=>(match W[n]? with | some (.ins c fs)=>.ok (c,fs) W | _=>.st)
 | _=>.st
theorem zZB9 {i : Nat} : objOf (.var i) (evE g (.var i)) e W = objO W e[i]? := by
 show (match e[i]? with | some (.oi c fs)=>R.ok (c,fs) W | some (.val (.ins c fs))=>.ok (c,fs) W | some (.val (.own n))=>(match W[n]? with | some (.ins c fs)=>.ok (c,fs) W | _=>.st) | _=>.st) = _
 unfold objO
 rcases e[i]? with _ | (_ | d | _ | _ | _ | _)
 ·rfl
 ·rfl
 ·cases d <;> rfl
 ·rfl
 ·rfl
 ·rfl
 ·rfl
theorem zZAc {c : Nat} {fs : List (Nat × D)} : objO W (some (.oi c fs)) = .ok (c,fs) W:=rfl
theorem xZy {c : Nat} {fs : List (Nat × D)} : objO W (some (.val (.ins c fs))) = .ok (c,fs) W:=rfl
def objK : D → Wd → R (Nat × List (Nat × D))
 | .ins c fs,W=>.ok (c,fs) W
 | .own n,W=>(match W[n]? with | some (.ins c fs)=>.ok (c,fs) W | _=>.st)
 | _,_=>.st
theorem xZw {c : Nat} {fs : List (Nat × D)} : objK (.ins c fs) W = .ok (c,fs) W:=rfl
theorem zZDM {a : E} (h : a.isVar = false) : objOf a (evE g a) e W = bnd (evE g a e W) objK .mk:=by
 have : objOf a (evE g a) e W = (evE g a e W).bind fun d W=>(match d with | .ins c fs=>R.ok (c,fs) W | .own n=>(match W[n]? with | some (.ins c fs)=>.ok (c,fs) W | _=>.st) | _=>.st):=by
  cases a <;> first | rfl | cases h
 rw [this]
 refine congrArg (R.bind _) ?_
 funext d W
 cases d <;> rfl
def fldR (f i : Nat) (e : Env) (d : D) (W : Wd) (g : Cfg) : R Fl:=match e[i]? with
    | some (.oi c fs)=>if g.fld c f && decide (fs.length < 100) then .ok (.nx (e.set i (.oi c (putFd f d fs)))) W else .st
    | some (.val (.own n))=>(match W[n]? with | some (.ins c fs)=>if g.fld c f && decide (fs.length < 100) then .ok (.nx e) (W.set n (.ins c (putFd f d fs))) else .st | _=>.st)
    | _=>.st
theorem zZDT {f i : Nat} {b : E} : exS g (.fld f (.var i) b) e W = bnd (evE g b e W) (fun d W=>fldR f i e d W g) .mk:=rfl
theorem zZA3 : evO g .none e W = .ok none W:=rfl
def intR : D → Wd → R (Option Int)
 | .int i,W=>.ok (some i) W
 | _,_=>.st
theorem xZT (i : Int) : intR (.int i) W = .ok (some i) W:=rfl
theorem zZAv {a : E} : evO g (.some a) e W = bnd (evE g a e W) intR .mk:=by
 show (evE g a e W).bind _ = (evE g a e W).bind _
 refine congrArg (R.bind _) ?_
 funext x W
 cases x <;> rfl
theorem zZCa : evEs g .nil e W = .ok [] W:=rfl
theorem zZA2 {a : E} {es : Es} : evEs g (.cons a es) e W = bnd (evE g a e W) (fun x W=>bnd (evEs g es e W) (fun xs W=>.ok (x :: xs) W) .mk) .mk:=rfl
def starR (g : Cfg) (es : Es) (e : Env) : D → Wd → R (List D)
 | .tup ys,W=>bnd (evEs g es e W) (fun xs W=>.ok (ys ++ xs) W) .mk
 | .lst ys,W=>bnd (evEs g es e W) (fun xs W=>.ok (ys ++ xs) W) .mk
 | _,_=>.st
theorem zZAw {a : E} {es : Es} : evEs g (.star a es) e W = bnd (evE g a e W) (starR g es e) .mk:=by
 show (evE g a e W).bind _ = (evE g a e W).bind _
 refine congrArg (R.bind _) ?_
 funext x W
 cases x <;> rfl
theorem yZo {es : Es} {ys : List D} : starR g es e (.tup ys) W = bnd (evEs g es e W) (fun xs W=>.ok (ys ++ xs) W) .mk:=rfl
theorem yZg {es : Es} {ys : List D} : starR g es e (.lst ys) W = bnd (evEs g es e W) (fun xs W=>.ok (ys ++ xs) W) .mk:=rfl
def dispR (xs : List D) (W : Wd) : R (List D):=if xs.length ≤ cap then .ok xs W else .st
theorem xZW {xs : List D} (h : xs.length ≤ cap) : dispR xs W = .ok xs W:=if_pos h
theorem zZCU {es : Es} : evF g (.disp es) e W = bnd (evEs g es e W) dispR .mk:=rfl
def ofR (s : Src) (W : Wd) : R (List D):=if s.isStr then .st else opt (items W s) W
theorem v_of {a : E} : evF g (.of a) e W = bnd (srcOf a (evE g a) e W) ofR .mk:=rfl
def slFR (s : Src) (l h : Option Int) (W : Wd) : R (List D):=if s.isStr || s.isTup then .st else opt ((items W s).map fun xs=>cutD xs l h) W
theorem zZD8 {a : E} {lo hi : Oe} : evF g (.sl a lo hi) e W = bnd (srcOf a (evE g a) e W) (fun s W=>bnd (evO g lo e W) (fun l W=>bnd (evO g hi e W) (fun h W=>slFR s l h W) .mk) .mk) .mk:=rfl
def catR (xs ys : List D) (W : Wd) : R (List D):=if xs.length + ys.length ≤ cap then .ok (xs ++ ys) W else .st
theorem zZDV {a b : Fe} : evF g (.cat a b) e W = bnd (evF g a e W) (fun xs W=>bnd (evF g b e W) (fun ys W=>catR xs ys W) .mk) .mk:=rfl
def addR (s s2 : Src) (W : Wd) : R (List D):=if (s.isStr || s.isTup) || (s2.isStr || s2.isTup) then .st else bnd (opt (items W s) W) (fun xs W=>bnd (opt (items W s2) W) (fun ys W=>if xs.length + ys.length ≤ cap then .ok (xs ++ ys) W else .st) .mk) .mk
theorem zZDw {a b : E} : evF g (.add a b) e W = bnd (srcOf a (evE g a) e W) (fun s W=>bnd (srcOf b (evE g b) e W) (addR s) .mk) .mk:=rfl
def slO (l h : Option Int) (W : Wd) : Option Cell → R D
 | some (.lst xs)=>.ok (.lst (cutD xs l h)) W
 | _=>.st
theorem zZAx {n : Nat} {l h : Option Int} : slR (.own n) l h W = slO l h W W[n]? := by
 show (match W[n]? with | some (Cell.lst xs)=>R.ok (D.lst (cutD xs l h)) W | _=>.st) = _
 unfold slO
 rcases W[n]? with _ | (_ | _ | _ | _) <;> rfl
theorem zZAR {xs : List D} {l h : Option Int} : slO l h W (some (.lst xs)) = .ok (.lst (cutD xs l h)) W:=rfl
theorem zZAk {xs ys us vs : List D} (h : xs.length + ys.length ≤ cap) : addR (.frz xs (.lst us)) (.frz ys (.lst vs)) W = .ok (xs ++ ys) W:=by
 show (if xs.length + ys.length ≤ cap then R.ok (xs ++ ys) W else .st) = _
 rw [if_pos h]
theorem zZNq {i : Nat} {ns : List Int} (h : e[i]? = some (.val (.ext ns))) : evF g (.scr i) e W = .ok (ns.map D.int) W:=by
 show (match e[i]? with | some (.val (.ext ns))=>R.ok (ns.map D.int) W | _=>.st) = _
 rw [h]
def compR (g : Cfg) (elt : E) (t : Tg) (ifs : Es) (e : Env) (ds : List D × Bool) (W : Wd) : R (List D):=if ds.1.length ≤ cap then compL (fun d=>tgD t d (wipeE e (tgN t))) (evTs g ifs) (evE g elt) ds.1 W else .st
theorem zZB2 {elt : E} {t : Tg} {it : It} {ifs : Es} : evF g (.comp elt t it ifs) e W = bnd (evIt g it e W) (compR g elt t ifs e) .mk:=rfl
theorem zZDP {a : E} (h : a.isVar = false) : srcOf a (evE g a) e W = bnd (evE g a e W) (fun d W=>opt (srcD d) W) .mk:=by
 cases a <;> first | rfl | cases h
def slotSrc (W : Wd) : Option Slot → Nat → R Src
 | some (.ol xs),i=>.ok (.slot i xs) W
 | some (.val d),_=>opt (srcD d) W
 | _,_=>.st
theorem zZB0 {i : Nat} : srcOf (.var i) (evE g (.var i)) e W = slotSrc W e[i]? i:=by
 show (match e[i]? with | some (.ol xs)=>R.ok (Src.slot i xs) W | some (.val d)=>opt (srcD d) W | _=>.st) = _
 cases e[i]? with
 | none=>rfl
 | some s=>cases s <;> rfl
theorem zZBk : exS g .skip e W = .ok (.nx e) W:=rfl
def seqK (g : Cfg) (b : S) : Fl → Wd → R Fl
 | .nx e,W=>exS g b e W
 | f,W=>.ok f W
theorem zZAU {b : S} : seqK g b (.nx e) W = exS g b e W:=rfl
theorem zZAz {b : S} {d : D} : seqK g b (.rt d) W = .ok (.rt d) W:=rfl
theorem zZAV {b : S} : seqK g b (.bk e) W = .ok (.bk e) W:=rfl
theorem zZA8 {b : S} : seqK g b (.ct e) W = .ok (.ct e) W:=rfl
theorem yZ3 {a b : S} : exS g (.seq a b) e W = bnd (exS g a e W) (seqK g b) .mk:=by
 show (exS g a e W).bind _ = (exS g a e W).bind _
 refine congrArg (R.bind _) ?_
 funext x W
 cases x <;> rfl
theorem zZEE {t : Tg} {a : E} : exS g (.asg t a) e W = bnd (evE g a e W) (fun d W=>bnd (opt (tgD t d e) W) (fun e W=>.ok (.nx e) W) .mk) .mk:=rfl
def ownR (i : Nat) (e : Env) (xs : List D) (W : Wd) : R Fl:=if i < e.length then .ok (.nx (e.set i (.ol xs))) W else .st
theorem zZA5 {i : Nat} {xs : List D} (h : i < e.length) : ownR i e xs W = .ok (.nx (e.set i (.ol xs))) W:=if_pos h
theorem zZCH {i : Nat} {f : Fe} : exS g (.asgO i f) e W = bnd (evF g f e W) (ownR i e) .mk:=rfl
def augD (op : Op) (x y : D) : Option D:=match x,y with | .int _,.int _=>binD op x y | _,_=>none
theorem xZ2 {op : Op} {i j : Int} : augD op (.int i) (.int j) = binD op (.int i) (.int j):=rfl
theorem zZBw {a : E} : exS g (.expr a) e W = bnd (evE g a e W) (fun _ W=>.ok (.nx e) W) .mk:=rfl
theorem zZDD {a : E} : exS g (.ret a) e W = bnd (evE g a e W) (fun d W=>.ok (.rt d) W) .mk:=rfl
theorem zZC7 {c : E} {a b : S} : exS g (.ite c a b) e W = bnd (evE g c e W) (fun x W=>bnd (opt (truD x) W) (fun k W=>if k then exS g a e W else exS g b e W) .mk) .mk:=rfl
def forR (g : Cfg) (t : Tg) (b : S) (e : Env) (ds : List D × Bool) (W : Wd) : R Fl:=if ds.2 then .st else forL (tgD t) (exS g b) ds.1 e W
theorem zZAj {t : Tg} {b : S} {ds : List D} : forR g t b e (ds,false) W = forL (tgD t) (exS g b) ds e W:=rfl
theorem zZDp {t : Tg} {it : It} {b : S} : exS g (.forS t it b) e W = bnd (evIt g it e W) (forR g t b e) .mk:=rfl
theorem zZt {n : Nat} {c : E} {b : S} : exS g (.whil n c b) e W = whileL (evE g c) (exS g b) n e W:=rfl
theorem zZCP : exS g .pass e W = .ok (.nx e) W:=rfl
def frzR (i : Nat) (e : Env) (W : Wd) : R Fl:=match e[i]? with | some (.ol xs)=>.ok (.nx (e.set i (.val (.lst xs)))) W | some (.od kvs)=>.ok (.nx (e.set i (.val (.dtt kvs)))) W | some (.val _)=>.ok (.nx e) W | _=>.st
theorem xZb {i : Nat} : exS g (.freeze i) e W = frzR i e W:=rfl
def idxR (d : D) (s : Src) (i : D) (e : Env) (W : Wd) : R Fl:=if s.isStr || s.isTup then .st else bnd (opt ((items W s).bind fun xs=>setAt xs i d) W) (fun ys W=>putList s ys e W) .mk
theorem zZDt {a b x : E} : exS g (.idx a b x) e W = bnd (evE g x e W) (fun d W=>bnd (srcOf a (evE g a) e W) (fun s W=>bnd (evE g b e W) (fun i W=>idxR d s i e W) .mk) .mk) .mk:=rfl
def appR (s : Src) (d : D) (e : Env) (W : Wd) : R Fl:=bnd (opt (items W s) W) (fun xs W=>if xs.length < cap then putList s (xs ++ [d]) e W else .st) .mk
theorem xZr {a x : E} : exS g (.append a x) e W = bnd (srcOf a (evE g a) e W) (fun s W=>if !lstSrc W s then .st else bnd (evE g x e W) (fun d W=>appR s d e W) .mk) .mk:=rfl
end
def whK (c : Env → Wd → R D) (body : Env → Wd → R Fl) (n : Nat) : Fl → Wd → R Fl
 | .nx e,W=>whileL c body n e W
 | .ct e,W=>whileL c body n e W
 | .bk e,W=>.ok (.nx e) W
 | .rt d,W=>.ok (.rt d) W
theorem zZBc {c : Env → Wd → R D} {body : Env → Wd → R Fl} {n : Nat} {e : Env} {W : Wd} : whileL c body (n + 1) e W = bnd (c e W) (fun x W=>bnd (opt (truD x) W) (fun k W=>if k then bnd (body e W) (whK c body n) .mk else .ok (.nx e) W) .mk) .mk:=by
 show (c e W).bind _ = (c e W).bind _
 refine congrArg (R.bind _) ?_
 funext x W
 show (opt _ W).bind _ = (opt _ W).bind _
 refine congrArg (R.bind _) ?_
 funext k W
 cases k with
 | false=>rfl
 | true =>
  show (body e W).bind _ = (body e W).bind _
  refine congrArg (R.bind _) ?_
  funext f W
  cases f <;> rfl
theorem zZBo {c : Env → Wd → R D} {body : Env → Wd → R Fl} {n : Nat} {e : Env} {W : Wd} : whK c body n (.nx e) W = whileL c body n e W:=rfl
theorem zZCY {c : Env → Wd → R D} {body : Env → Wd → R Fl} {n : Nat} {e : Env} {W : Wd} : whK c body n (.ct e) W = whileL c body n e W:=rfl
theorem zZCA {c : Env → Wd → R D} {body : Env → Wd → R Fl} {n : Nat} {e : Env} {W : Wd} : whK c body n (.bk e) W = .ok (.nx e) W:=rfl
theorem zZBg {c : Env → Wd → R D} {body : Env → Wd → R Fl} {n : Nat} {d : D} {W : Wd} : whK c body n (.rt d) W = .ok (.rt d) W:=rfl
def foK (tg : D → Env → Option Env) (body : Env → Wd → R Fl) (ds : List D) : Fl → Wd → R Fl
 | .nx e,W=>forL tg body ds e W
 | .ct e,W=>forL tg body ds e W
 | .bk e,W=>.ok (.nx e) W
 | .rt d,W=>.ok (.rt d) W
theorem zZP {tg : D → Env → Option Env} {body : Env → Wd → R Fl} {d : D} {ds : List D} {e : Env} {W : Wd} : forL tg body (d :: ds) e W = bnd (opt (tg d e) W) (fun e W=>bnd (body e W) (foK tg body ds) .mk) .mk:=by
 show (opt _ W).bind _ = (opt _ W).bind _
 refine congrArg (R.bind _) ?_
 funext k W
 show (body _ W).bind _ = (body _ W).bind _
 refine congrArg (R.bind _) ?_
 funext f W
 cases f <;> rfl
theorem xZ8 {tg : D → Env → Option Env} {body : Env → Wd → R Fl} {e : Env} {W : Wd} : forL tg body [] e W = .ok (.nx e) W:=rfl
theorem zZBp {tg : D → Env → Option Env} {body : Env → Wd → R Fl} {ds : List D} {e : Env} {W : Wd} : foK tg body ds (.nx e) W = forL tg body ds e W:=rfl
theorem zZBv {tg : D → Env → Option Env} {body : Env → Wd → R Fl} {ds : List D} {e : Env} {W : Wd} : foK tg body ds (.ct e) W = forL tg body ds e W:=rfl
theorem zZCX {tg : D → Env → Option Env} {body : Env → Wd → R Fl} {ds : List D} {e : Env} {W : Wd} : foK tg body ds (.bk e) W = .ok (.nx e) W:=rfl
theorem zZCd {tg : D → Env → Option Env} {body : Env → Wd → R Fl} {ds : List D} {d : D} {W : Wd} : foK tg body ds (.rt d) W = .ok (.rt d) W:=rfl
def valO : Option Slot → Option D
 | some (.val d)=>some d
 | _=>none
theorem zZAy (e : Env) (i : Nat) : getV e i = valO e[i]? := by
 unfold getV valO
 cases e[i]? with
 | none=>rfl
 | some s=>cases s <;> rfl
theorem xZs (d : D) : valO (some (.val d)) = some d:=rfl
theorem yZN (d : D) (W : Wd) (i : Nat) : slotSrc W (some (.val d)) i = opt (srcD d) W:=rfl
theorem yZb (xs : List D) (W : Wd) (i : Nat) : slotSrc W (some (.ol xs)) i = .ok (.slot i xs) W:=rfl
theorem zZDE {i : Nat} {d : D} {e : Env} (h : i < e.length) : tgD (.nm i) d e = some (e.set i (.val d)):=if_pos h
theorem zZCW {ts : Tgs} {xs : List D} {e : Env} : tgD (.tup ts) (.tup xs) e = tgsD ts xs e:=rfl
theorem zZAp {ts : Tgs} {xs : List D} {e : Env} : tgD (.tup ts) (.tupz xs) e = tgsD ts xs e:=rfl
theorem zZAs {e : Env} : tgsD .nil [] e = some e:=rfl
theorem xZx {t : Tg} {ts : Tgs} {x : D} {xs : List D} {e : Env} : tgsD (.cons t ts) (x :: xs) e = (tgD t x e).bind fun e=>tgsD ts xs e:=rfl
theorem zZDI (i j : Int) : binD .add (.int i) (.int j) = some (.int (i + j)):=rfl
theorem zZDR (i j : Int) : binD .sub (.int i) (.int j) = some (.int (i - j)):=rfl
theorem zZD4 {i j : Int} (h : i.natAbs < limI ∨ j.natAbs < limI) : binD .mul (.int i) (.int j) = some (.int (i * j)):=if_pos h
theorem zZBh {i j : Int} (h : 0 < j ∧ j < 1073741824) : binD .fdiv (.int i) (.int j) = some (.int (i / j)):=if_pos h
theorem zZDJ {i j : Int} (h : 0 < j) : binD .mod (.int i) (.int j) = some (.int (i % j)):=if_pos h
theorem zZDK {i j : Int} (h : 0 ≤ j ∧ j ≤ 1000000 ∧ i.natAbs < limI) : binD .pow (.int i) (.int j) = some (.int (i ^ j.toNat)):=if_pos h
theorem c_lt (i j : Int) : cmpD .lt (.int i) (.int j) = some (.bl (decide (i < j))):=rfl
theorem c_le (i j : Int) : cmpD .le (.int i) (.int j) = some (.bl (decide (i ≤ j))):=rfl
theorem c_gt (i j : Int) : cmpD .gt (.int i) (.int j) = some (.bl (decide (j < i))):=rfl
theorem c_ge (i j : Int) : cmpD .ge (.int i) (.int j) = some (.bl (decide (j ≤ i))):=rfl
theorem zZDd (i j : Int) : cmpD .eq (.int i) (.int j) = some (.bl (decide (i = j))):=rfl
theorem zZDe (i j : Int) : cmpD .ne (.int i) (.int j) = some (.bl (!decide (i = j))):=rfl
theorem zZDB (i j : Bool) : cmpD .eq (.bl i) (.bl j) = some (.bl (decide (i = j))):=rfl
theorem zZD0 (i j : Bool) : cmpD .ne (.bl i) (.bl j) = some (.bl (!decide (i = j))):=rfl
theorem zZC8 (i j : Str) : cmpD .eq (.str i) (.str j) = some (.bl (decide (i = j))):=rfl
theorem zZDn (i j : Str) : cmpD .ne (.str i) (.str j) = some (.bl (!decide (i = j))):=rfl
theorem zZI7 {n : Nat} (h : n ≤ cap) : -4611686018427387904 ≤ (n : Int) ∧ (n : Int) < 4611686018427387904:=by
 have e : cap = 1000000:=rfl
 omega
theorem zZD1 : cmpD .eq .non .non = some (.bl true):=rfl
theorem zZDa (x : D) : cmpD .isN x .non = some (.bl (match x with | .non=>true | _=>false)):=by
 cases x <;> rfl
theorem t_bl (b : Bool) : truD (.bl b) = some b:=rfl
theorem zZDN (i : Int) : truD (.int i) = some (i != 0):=rfl
theorem zZDm (xs : List D) : truD (.lst xs) = some (!xs.isEmpty):=rfl
theorem zZDi (xs : List D) : truD (.tup xs) = some (!xs.isEmpty):=rfl
theorem zZDG : truD .non = some false:=rfl
theorem zZDO (n : Nat) : srcD (.own n) = some (.cell n):=rfl
theorem zZDY (xs : List D) : srcD (.lst xs) = some (.frz xs (.lst xs)):=rfl
theorem zZC4 (xs : List D) : srcD (.tup xs) = some (.frz xs (.tup xs)):=rfl
theorem zZDx (s : Str) : srcD (.str s) = some (.str s):=rfl
def cellO : Option Cell → Option (List D)
 | some (.lst xs)=>some xs
 | _=>none
theorem yZC (W : Wd) (n : Nat) : items W (.cell n) = cellO W[n]? := by
 show (match W[n]? with | some (.lst xs)=>some xs | _=>none) = _
 unfold cellO
 cases W[n]? with
 | none=>rfl
 | some c=>cases c <;> rfl
theorem yZt (xs : List D) : cellO (some (.lst xs)) = some xs:=rfl
theorem zZED (W : Wd) (xs : List D) (d : D) : items W (.frz xs d) = some xs:=rfl
theorem zZCO (W : Wd) (xs : List D) (i : Nat) : items W (.slot i xs) = some xs:=rfl
theorem zZEG (W : Wd) (s : Src) : b1D W .len s = (items W s).map fun xs=>.int xs.length:=rfl
theorem zZEF (i : Int) : conv .int (.int i) = some (.int i):=rfl
theorem k_bl (b : Bool) : conv .int (.bl b) = some (.int (if b then 1 else 0)):=rfl
theorem zZNb {xs : List D} {n : Nat} (h : n < xs.length) : atD xs (.int (n : Int)) = some (xs.getD n .non):=by
 unfold atD L2.atI L2.ixN
 simp only []
 rw [if_pos (Int.natCast_nonneg n),if_pos (Int.ofNat_lt.mpr h)]
 simp [h]
theorem zZCe {ns : List Int} {i : Int} (h0 : 0 ≤ i) (h1 : i < ns.length) : atD (ns.map .int) (.int i) = some (.int (ns.getD i.toNat 0)):=by
 unfold atD L2.atI L2.ixN
 simp only [List.length_map]
 rw [if_pos h0,if_pos h1]
 have : i.toNat < ns.length:=by omega
 simp [this]
theorem xZP (x : D) (xs : List D) : atD (x :: xs) (.int 0) = some x:=by
 unfold atD L2.atI L2.ixN
 simp only []
 rw [if_pos (by decide),if_pos (by simp only [List.length_cons]; omega)]
 rfl
theorem xZh (x : D) (xs : List D) {i : Int} (h : 0 < i) : atD (x :: xs) (.int i) = atD xs (.int (i - 1)):=by
 unfold atD L2.atI L2.ixN
 simp only [List.length_cons]
 by_cases q : i < ((xs.length + 1 : Nat) : Int)
 ·rw [if_pos (show 0 ≤ i by omega),if_pos q,if_pos (show 0 ≤ i - 1 by omega),if_pos (show i - 1 < (xs.length : Int) by omega)]
  simp only [Option.bind_some]
  rw [show i.toNat = (i - 1).toNat + 1 by omega]
  rfl
 ·rw [if_pos (show 0 ≤ i by omega),if_neg q,if_pos (show 0 ≤ i - 1 by omega),if_neg (show ¬ i - 1 < (xs.length : Int) by omega)]
  rfl
theorem zZ1 (s : Nat) (d : D) (i : D) (e : Env) (W : Wd) : idxR d (.cell s) i e W = bnd (opt ((cellO W[s]?).bind fun xs=>setAt xs i d) W) (fun ys W=>.ok (.nx e) (W.set s (.lst ys))) .mk:=by
 unfold idxR
 rw [if_neg (by simp [Src.isStr,Src.isTup]),yZC]
 rfl
theorem zZA7 (x : D) (xs : List D) (d : D) : setAt (x :: xs) (.int 0) d = some (d :: xs):=by
 unfold setAt L2.ixN
 simp only []
 rw [if_pos (by decide),if_pos (by simp only [List.length_cons]; omega)]
 rfl
theorem zZAa (x : D) (xs : List D) (d : D) {i : Int} (h : 0 < i) : setAt (x :: xs) (.int i) d = (setAt xs (.int (i - 1)) d).map (x :: ·):=by
 unfold setAt L2.ixN
 simp only [List.length_cons]
 by_cases q : i < ((xs.length + 1 : Nat) : Int)
 ·rw [if_pos (show 0 ≤ i by omega),if_pos q,if_pos (show 0 ≤ i - 1 by omega),if_pos (show i - 1 < (xs.length : Int) by omega)]
  simp only [Option.map_some]
  rw [show i.toNat = (i - 1).toNat + 1 by omega]
  rfl
 ·rw [if_pos (show 0 ≤ i by omega),if_neg q,if_pos (show 0 ≤ i - 1 by omega),if_neg (show ¬ i - 1 < (xs.length : Int) by omega)]
  rfl
theorem zZAY (n : Nat) (e : Env) : padE n e = e ++ List.replicate (n - e.length) .no:=rfl
section
variable {g : Cfg} {e : Env} {W : Wd}
def rng1 : D → Wd → R (List D × Bool)
 | .int j,W=>if smallI j then .ok (rangeD 0 j.toNat,false) W else .st
 | _,_=>.st
theorem xZZ {a : E} : evIt g (.range1 a) e W = bnd (evE g a e W) rng1 .mk:=by
 show (evE g a e W).bind _ = (evE g a e W).bind _
 refine congrArg (R.bind _) ?_
 funext x W
 cases x <;> rfl
theorem zZKs {i : Int} (h : -4611686018427387904 ≤ i ∧ i < 4611686018427387904) : smallI i = true:=by
 unfold smallI
 simp only [Bool.and_eq_true,decide_eq_true_eq]
 exact h
theorem zZA0 {j : Int} (h : -4611686018427387904 ≤ j ∧ j < 4611686018427387904) : rng1 (.int j) W = .ok (rangeD 0 j.toNat,false) W:=by
 show (if smallI j then _ else _) = _
 rw [zZKs h]
 rfl
def seqR (s : Src) (W : Wd) : R (List D × Bool):=if s.isIt then opt ((items W s).map fun xs=>(xs,s.isSlot)) W else .st
theorem zZD3 {a : E} : evIt g (.seq a) e W = bnd (srcOf a (evE g a) e W) seqR .mk:=rfl
theorem xZu {xs : List D} {d : D} : seqR (.frz xs d) W = .ok (xs,false) W:=rfl
theorem yZj {xs : List D} {i : Nat} : seqR (.slot i xs) W = .ok (xs,true) W:=rfl
end
theorem yZ8 (i : Int) (n : Nat) : rangeD i (n + 1) = .int i :: rangeD (i + 1) n:=by
 unfold rangeD
 rw [List.range_succ_eq_map,List.map_cons,List.map_map]
 refine List.cons_eq_cons.mpr ⟨by simp, ?_⟩
 apply List.map_congr_left
 intro k _
 show D.int (i + ((k + 1 : Nat) : Int)) = D.int (i + 1 + (k : Int))
 congr 1
 omega
theorem zZJT (i : Int) (n : Nat) : (rangeD i n).length = n:=by simp [rangeD]
end DL
set_option maxRecDepth 100000
set_option maxHeartbeats 4000000
namespace DL
open PySem (Str)
section
variable {g : Cfg} {e : Env} {W : Wd}
theorem zZA9 {f c : Nat} {fs : List (Nat × D)} : fldD g f (c,fs) = if g.fld c f then fs.lookup f else none:=rfl
theorem zZAd {a k : Nat} {b : D} {es : List (Nat × D)} : List.lookup a ((k,b) :: es) = if a = k then some b else List.lookup a es:=by
 rw [List.lookup_cons]
 by_cases h : a = k
 ·subst h; simp
 ·rw [if_neg h,beq_false_of_ne h]
theorem zZBx {a : Nat} : List.lookup a ([] : List (Nat × D)) = none:=rfl
theorem xZg {m c : Nat} {fs : List (Nat × D)} : methR g m (.ins c fs) W = if (fs.lookup m).isNone then opt (g.meth c m) W else .st:=rfl
theorem zZCL {c : Nat} {fs : List (Nat × D)} : mkR g c fs W = if g.cellc c then newCell (.ins c fs) W else .ok (.ins c fs) W:=rfl
def eqoK (g : Cfg) (x y : D) (W : Wd) : Option Nat → R D
 | some f=>bnd (g.call f [x,y] W).calm blOnly .mk
 | none=>.st
theorem zZAS {c c' : Nat} {fs fs' : List (Nat × D)} : eqoR g (.ins c fs) (.ins c' fs') W = eqoK g (.ins c fs) (.ins c' fs') W (g.eqm c c'):=by
 show (match g.eqm c c' with | some f=>(g.call f [.ins c fs,.ins c' fs'] W).calm.bind fun d W=>(match d with | .bl b=>R.ok (D.bl b) W | _=>.st) | none=>.st) = _
 unfold eqoK
 cases g.eqm c c' with
 | none=>rfl
 | some f =>
  refine congrArg (R.bind _) ?_
  funext d W
  cases d <;> rfl
theorem yZ0 {f : Nat} {x y : D} : eqoK g x y W (some f) = bnd (g.call f [x,y] W).calm blOnly .mk:=rfl
def fldO (f i : Nat) (e : Env) (d : D) (W : Wd) (g : Cfg) : Option Slot → R Fl
 | some (.oi c fs)=>if g.fld c f && decide (fs.length < 100) then .ok (.nx (e.set i (.oi c (putFd f d fs)))) W else .st
 | some (.val (.own n))=>(match W[n]? with | some (.ins c fs)=>if g.fld c f && decide (fs.length < 100) then .ok (.nx e) (W.set n (.ins c (putFd f d fs))) else .st | _=>.st)
 | _=>.st
theorem zZAn {c : Nat} {a : E} : exS g (.raisE c a) e W = bnd (evE g a e W) (fun d W=>.ex c (.tup [d]) W) .mk:=rfl
theorem zZDA {a b : E} : evF g (.rep a b) e W = bnd (srcOf a (evE g a) e W) (fun s W=>bnd (evE g b e W) (repR s) .mk) .mk:=rfl
theorem zZB8 {xs ys : List D} {n : Int} (h : 0 ≤ n ∧ n.toNat ≤ cap ∧ xs.length * n.toNat ≤ cap) : repR (.frz xs (.lst ys)) (.int n) W = .ok (List.replicate n.toNat xs).flatten W:=if_pos h
theorem zZB3 {A C : Type} {c : Nat} {p : D} {f : A → Wd → R C} {t : Tag f} : bnd (R.ex c p W) f t = .ex c p W:=rfl
theorem zZDS {a : E} : evE g (.b1 .max a) e W = bnd (srcOf a (evE g a) e W) (fun s W=>opt (b1D W .max s) W) .mk:=rfl
theorem zZAO (x : D) : cmpD .notN x .non = some (.bl (match x with | .non=>false | _=>true)):=by
 cases x <;> rfl
theorem zZCV (a b : Bool) : cmpD .notN (.bl a) (.bl b) = some (.bl (!decide (a = b))):=rfl
theorem zZAL {f i : Nat} {d : D} : fldR f i e d W g = fldO f i e d W g e[i]? := by
 unfold fldR fldO
 rcases e[i]? with _ | (_ | d | _ | _ | _ | _)
 ·rfl
 ·rfl
 ·cases d <;> rfl
 ·rfl
 ·rfl
 ·rfl
 ·rfl
theorem zZAr {f i c : Nat} {fs : List (Nat × D)} {d : D} (h : fs.length < 100) : fldO f i e d W g (some (.oi c fs)) = if g.fld c f then .ok (.nx (e.set i (.oi c (putFd f d fs)))) W else .st:=by
 show (if g.fld c f && decide (fs.length < 100) then _ else _) = _
 simp [h]
theorem yZz {f : Nat} {d : D} : putFd f d [] = [(f,d)]:=rfl
theorem yZU {f g : Nat} {d x : D} {r : List (Nat × D)} : putFd f d ((g,x) :: r) = if g = f then (g,d) :: r else (g,x) :: putFd f d r:=rfl
def endO (c : Nat) (W : Wd) : Option Slot → R (List (Nat × D))
 | some (.oi c' fs)=>if c' = c then .ok fs W else .st
 | _=>.st
theorem zZAg {c : Nat} : endI c (.nx e) W = endO c W e[0]? := by
 show (match e[0]? with | some (Slot.oi c' fs)=>if c' = c then R.ok fs W else .st | _=>.st) = _
 unfold endO
 rcases e[0]? with _ | (_ | d | _ | _ | _ | _) <;> rfl
theorem zZAX {c : Nat} {fs : List (Nat × D)} : endO c W (some (.oi c fs)) = .ok fs W:=if_pos rfl
theorem zZDg {a : E} : evTs g (.cons a .nil) e W = bnd (evE g a e W) (fun x W=>bnd (opt (truD x) W) (fun k W=>.ok (.bl k) W) .mk) .mk:=rfl
def frzO (i : Nat) (e : Env) (W : Wd) : Option Slot → R Fl
 | some (.ol xs)=>.ok (.nx (e.set i (.val (.lst xs)))) W
 | some (.od kvs)=>.ok (.nx (e.set i (.val (.dtt kvs)))) W
 | some (.val _)=>.ok (.nx e) W
 | _=>.st
theorem zZAW {i : Nat} : frzR i e W = frzO i e W e[i]? := by
 unfold frzR frzO
 rcases e[i]? with _ | (_ | d | _ | _ | _ | _) <;> rfl
theorem zZAf {i : Nat} {xs : List D} : frzO i e W (some (.ol xs)) = .ok (.nx (e.set i (.val (.lst xs)))) W:=rfl
theorem xZQ {i : Nat} {d : D} : frzO i e W (some (.val d)) = .ok (.nx e) W:=rfl
theorem zZAK {i : Nat} {kvs : List (List Int × D)} : frzO i e W (some (.od kvs)) = .ok (.nx (e.set i (.val (.dtt kvs)))) W:=rfl
theorem xZo (W : Wd) (i : Nat) (xs : List D) : lstSrc W (.slot i xs) = true:=rfl
theorem zZA1 (W : Wd) (xs ys : List D) : lstSrc W (.frz xs (.lst ys)) = true:=rfl
theorem yZs {i : Nat} {xs : List D} {d : D} (h : xs.length < cap) : appR (.slot i xs) d e W = .ok (.nx (e.set i (.ol (xs ++ [d])))) W:=by
 show (if xs.length < cap then _ else _) = _
 rw [if_pos h]
 rfl
theorem zZAZ {n m : Nat} : addR (.cell n) (.cell m) W = bnd (opt (cellO W[n]?) W) (fun xs W=>bnd (opt (cellO W[m]?) W) (fun ys W=>catR xs ys W) .mk) .mk:=by
 show bnd (opt (items W (.cell n)) W) (fun xs W=>bnd (opt (items W (.cell m)) W) (fun ys W=>if xs.length + ys.length ≤ cap then R.ok (xs ++ ys) W else .st) .mk) .mk = _
 rw [yZC]
 refine congrArg (R.bind _) ?_
 funext xs W
 rw [yZC]
 rfl
theorem yZq {n : Nat} {d : D} : appR (.cell n) d e W = bnd (opt (cellO W[n]?) W) (fun xs W=>if xs.length < cap then .ok (.nx e) (W.set n (.lst (xs ++ [d]))) else .st) .mk:=by
 unfold appR
 rw [yZC]
 rfl
theorem zZFe {n : Nat} {xs : List D} (h : W[n]? = some (.lst xs)) : lstSrc W (.cell n) = true:=by
 unfold lstSrc
 rw [yZC,h]
 rfl
theorem zZBn (W : Wd) (xs : List D) (d : D) : b1D W .tuple (.frz xs d) = some (.tup xs):=rfl
theorem zZCS (W : Wd) (i : Nat) (xs : List D) : b1D W .tuple (.slot i xs) = some (.tup xs):=rfl
theorem zZAl {xs : List D} {d : D} : ofR (.frz xs d) W = .ok xs W:=rfl
theorem xZj {xs : List D} {i : Nat} : ofR (.slot i xs) W = .ok xs W:=rfl
theorem zZAt {xs ys : List D} (h : xs.length + ys.length ≤ cap) : catR xs ys W = .ok (xs ++ ys) W:=if_pos h
theorem yZi {xs ys : List D} (h : xs.length + ys.length ≤ cap) : binD .add (.tup xs) (.tup ys) = some (.tup (xs ++ ys)):=if_pos h
theorem zZKe (xs : List D) (k : Nat) : cutD xs none (some (k : Int)) = xs.take k:=by
 unfold cutD
 rw [HT.sIx_none,HT.sIx_nat,Nat.sub_zero,List.drop_zero]
 by_cases h : k ≤ xs.length
 ·rw [Nat.min_eq_left h]
 ·rw [Nat.min_eq_right (by omega),List.take_of_length_le (by omega),List.take_of_length_le (by omega)]
theorem zZKd (xs : List D) (k : Nat) : cutD xs (some (k : Int)) none = xs.drop k:=by
 unfold cutD
 rw [HT.sIx_none,HT.sIx_nat]
 by_cases h : k ≤ xs.length
 ·rw [Nat.min_eq_left h,List.take_of_length_le (by simp)]
 ·rw [Nat.min_eq_right (by omega),List.drop_of_length_le (by omega),List.drop_of_length_le (by omega),List.take_nil]
end
theorem zZFO {tg : D → Option Env} {tst elt : Env → Wd → R D} {W W1 W2 : Wd} {d x : D} {ds xs : List D} {e1 : Env} (h1 : tg d = some e1) (h2 : tst e1 W = .ok (.bl true) W) (h3 : elt e1 W = .ok x W1) (h4 : compL tg tst elt ds W1 = .ok xs W2) :
  compL tg tst elt (d :: ds) W = .ok (x :: xs) W2:=by
 simp only [compL,h1,zZX,R.bind_ok,R.calm_ok,h2,h3,h4]
theorem zZMK {tg : D → Option Env} {tst elt : Env → Wd → R D} {W W2 : Wd} {d : D} {ds xs : List D} {e1 : Env} (h1 : tg d = some e1) (h2 : tst e1 W = .ok (.bl false) W) (h4 : compL tg tst elt ds W = .ok xs W2) :
  compL tg tst elt (d :: ds) W = .ok xs W2:=by
 simp only [compL,h1,zZX,R.bind_ok,R.calm_ok,h2,h4]
theorem zZHV {g : Cfg} {e : Env} {W : Wd} : evTs g .nil e W = .ok (.bl true) W:=rfl
theorem zZC3 {g : Cfg} {elt : E} {t : Tg} {ifs : Es} {e : Env} {ds : List D} {b : Bool} {W : Wd} (h : ds.length ≤ cap) : compR g elt t ifs e (ds,b) W = compL (fun d=>tgD t d (wipeE e (tgN t))) (evTs g ifs) (evE g elt) ds W:=if_pos h
theorem zZHQ {α : Type} (f g : α → D) {c : Cfg} {tg : D → Option Env} {elt : Env → Wd → R D} {W : Wd} : ∀ xs : List α,(∀ x ∈ xs,∃ e1,tg (f x) = some e1 ∧ elt e1 W = .ok (g x) W) → compL tg (evTs c .nil) elt (xs.map f) W = .ok (xs.map g) W
 | [],_=>rfl
 | x :: xs,h=>by
  obtain ⟨e1,h1,h2⟩:=h x List.mem_cons_self
  rw [List.map_cons,List.map_cons]
  exact zZFO h1 zZHV h2 (zZHQ f g xs fun y hy=>h y (List.mem_cons_of_mem _ hy))
theorem zZE3 {α : Type} (f g : α → D) (p : α → Bool) {tg : D → Option Env} {tst elt : Env → Wd → R D} {W : Wd} : ∀ xs : List α,(∀ x ∈ xs,∃ e1,tg (f x) = some e1 ∧ tst e1 W = .ok (.bl (p x)) W ∧ (p x = true → elt e1 W = .ok (g x) W)) → compL tg tst elt (xs.map f) W = .ok ((xs.filter p).map g) W
 | [],_=>rfl
 | x :: xs,h=>by
  obtain ⟨e1,h1,h2,h3⟩:=h x List.mem_cons_self
  have ih:=zZE3 f g p xs fun y hy=>h y (List.mem_cons_of_mem _ hy)
  rw [List.map_cons]
  cases hp : p x with
  | true =>
   rw [List.filter_cons_of_pos hp,List.map_cons]
   rw [hp] at h2
   exact zZFO h1 h2 (h3 hp) ih
  | false =>
   rw [List.filter_cons_of_neg (by simp [hp])]
   rw [hp] at h2
   exact zZMK h1 h2 ih
theorem yZv {g : Cfg} {elt : E} {t : Tg} {ifs : Es} {e : Env} {α : Type} (f gg : α → D) (p : α → Bool) (xs : List α) {b : Bool} {W : Wd} (h : xs.length ≤ cap)
  (hx : ∀ x ∈ xs,∃ e1,tgD t (f x) (wipeE e (tgN t)) = some e1 ∧ evTs g ifs e1 W = .ok (.bl (p x)) W ∧ (p x = true → evE g elt e1 W = .ok (gg x) W)) : compR g elt t ifs e (xs.map f,b) W = .ok ((xs.filter p).map gg) W:=by
 rw [zZC3 (by simpa using h)]
 exact zZE3 f gg p xs hx
theorem yZK {g : Cfg} {elt : E} {t : Tg} {e : Env} {α : Type} (f gg : α → D) (xs : List α) {b : Bool} {W : Wd} (h : xs.length ≤ cap)
  (hx : ∀ x ∈ xs,∃ e1,tgD t (f x) (wipeE e (tgN t)) = some e1 ∧ evE g elt e1 W = .ok (gg x) W) : compR g elt t .nil e (xs.map f,b) W = .ok (xs.map gg) W:=by
 rw [zZC3 (by simpa using h)]
 exact zZHQ f gg xs hx
section
variable {g : Cfg} {e : Env} {W : Wd}
def cellN (n : Nat) : Option Cell → Option (Nat × List D)
 | some (.lst xs)=>some (n,xs)
 | _=>none
theorem yZh {n : Nat} : cellL (.own n) W = cellN n W[n]? := by
 show (match W[n]? with | some (.lst xs)=>some (n,xs) | _=>none) = _
 unfold cellN
 rcases W[n]? with _ | (_ | _ | _ | _) <;> rfl
theorem yZl {n : Nat} {xs : List D} : cellN n (some (.lst xs)) = some (n,xs):=rfl
def tyC (t : Ty) : Option Cell → Option Bool
 | some (.lst _)=>(match t with | .list=>some true | _=>some false)
 | _=>none
theorem zZBj {s : Str} : keyD (.str s) = some (.inr s):=rfl
theorem zZBe {i : Int} : keyD (.int i) = some (.inl i):=rfl
theorem zZCG {t : Tg} {en : Bool} {a : E} {b : S} : exS g (.forC t en a b) e W = bnd (evE g a e W) (fun d W=>bnd (opt (cellL d W) W) (fun p W=>forK (ckL g p.1 p.2) (tgD t) (exS g b) (enC en p.2) e W) .mk) .mk:=rfl
theorem zZDC (xs : List D) : enC false xs = xs:=rfl
theorem zZDH (xs : List D) : enC true xs = enumD 0 xs:=rfl
def fokK (tg : D → Env → Option Env) (body : Env → Wd → R Fl) (ck : Wd → Bool) (ds : List D) : Fl → Wd → R Fl
 | .nx e,W=>forK ck tg body ds e W
 | .ct e,W=>forK ck tg body ds e W
 | .bk e,W=>.ok (.nx e) W
 | .rt d,W=>.ok (.rt d) W
theorem zZLG {ck : Wd → Bool} {tg : D → Env → Option Env} {body : Env → Wd → R Fl} (h : ck W = true) : forK ck tg body [] e W = .ok (.nx e) W:=if_pos h
theorem zZJm {ck : Wd → Bool} {tg : D → Env → Option Env} {body : Env → Wd → R Fl} {d : D} {ds : List D} (h : ck W = true) : forK ck tg body (d :: ds) e W = bnd (opt (tg d e) W) (fun e W=>bnd (body e W) (fokK tg body ck ds) .mk) .mk:=by
 show (if ck W = true then _ else _) = _
 rw [if_pos h]
 refine congrArg (R.bind _) ?_
 funext e W
 refine congrArg (R.bind _) ?_
 funext f W
 cases f <;> rfl
theorem zZAT {ck : Wd → Bool} {tg : D → Env → Option Env} {body : Env → Wd → R Fl} {ds : List D} : fokK tg body ck ds (.nx e) W = forK ck tg body ds e W:=rfl
theorem zZAq {ck : Wd → Bool} {tg : D → Env → Option Env} {body : Env → Wd → R Fl} {ds : List D} : fokK tg body ck ds (.ct e) W = forK ck tg body ds e W:=rfl
theorem zZAN {ck : Wd → Bool} {tg : D → Env → Option Env} {body : Env → Wd → R Fl} {ds : List D} : fokK tg body ck ds (.bk e) W = .ok (.nx e) W:=rfl
theorem zZAo {ck : Wd → Bool} {tg : D → Env → Option Env} {body : Env → Wd → R Fl} {ds : List D} {d : D} : fokK tg body ck ds (.rt d) W = .ok (.rt d) W:=rfl
def compCR (g : Cfg) (elt : E) (t : Tg) (ifs : Es) (e : Env) (en : Bool) (p : Nat × List D) (W : Wd) : R (List D):=if (enC en p.2).length ≤ cap then compKT (ckL g p.1 p.2) (fun d=>tgD t d (wipeE e (tgN t))) (evTs g ifs) (evE g elt) (enC en p.2) W else .st
theorem zZAP {elt : E} {t : Tg} {en : Bool} {a : E} {ifs : Es} : evF g (.compC elt t en a ifs) e W = bnd (evE g a e W) (fun d W=>bnd (opt (cellL d W) W) (fun p W=>compCR g elt t ifs e en p W) .mk) .mk:=rfl
theorem zZEL {α : Type} (f h : α → D) (p : α → Bool) {ck : Wd → Bool} {tg : D → Option Env} {tst elt : Env → Wd → R D} (hck : ck W = true) : ∀ xs : List α,(∀ x ∈ xs,∃ e1,tg (f x) = some e1 ∧ tst e1 W = .ok (.bl (p x)) W ∧ (p x = true → elt e1 W = .ok (h x) W)) → compKT ck tg tst elt (xs.map f) W = .ok ((xs.filter p).map h) W
 | [],_=>if_pos hck
 | x :: xs,hx=>by
  obtain ⟨e1,h1,h2,h3⟩:=hx x List.mem_cons_self
  have ih:=zZEL f h p hck xs fun y hy=>hx y (List.mem_cons_of_mem _ hy)
  rw [List.map_cons]
  unfold compKT
  rw [if_pos hck,h1]
  simp only [zZX,R.bind_ok,h2,R.calm_ok]
  cases hp : p x with
  | true =>
   rw [List.filter_cons_of_pos hp,List.map_cons]
   simp only [h3 hp,R.bind_ok,R.calm_ok,ih]
  | false =>
   rw [List.filter_cons_of_neg (by simp [hp])]
   exact ih
theorem zZLW {n : Nat} {xs : List D} (h : W[n]? = some (.lst xs)) : ckL g n xs W = true:=zZNJ h
theorem zZEM {elt : E} {t : Tg} {ifs : Es} {α : Type} (f h : α → D) (p : α → Bool) (xs : List α) {n : Nat} (hw : W[n]? = some (.lst (xs.map f))) (hl : xs.length ≤ cap)
  (hx : ∀ x ∈ xs,∃ e1,tgD t (f x) (wipeE e (tgN t)) = some e1 ∧ evTs g ifs e1 W = .ok (.bl (p x)) W ∧ (p x = true → evE g elt e1 W = .ok (h x) W)) : compCR g elt t ifs e false (n,xs.map f) W = .ok ((xs.filter p).map h) W:=by
 unfold compCR
 rw [if_pos (by show (xs.map f).length ≤ cap; simpa using hl)]
 exact zZEL f h p (zZLW hw) xs hx
theorem zZIi {elt : E} {t : Tg} {α : Type} (f h : α → D) (xs : List α) {n : Nat} (hw : W[n]? = some (.lst (xs.map f))) (hl : xs.length ≤ cap)
  (hx : ∀ x ∈ xs,∃ e1,tgD t (f x) (wipeE e (tgN t)) = some e1 ∧ evE g elt e1 W = .ok (h x) W) : compCR g elt t .nil e false (n,xs.map f) W = .ok (xs.map h) W:=by
 have:=zZEM (elt:=elt) (ifs:=.nil) f h (fun _=>true) xs hw hl fun x hm=>by
  obtain ⟨e1,h1,h2⟩:=hx x hm
  exact ⟨e1,h1,zZHV,fun _=>h2⟩
 rw [this,List.filter_eq_self.mpr (fun _ _=>rfl)]
def insN : Option Cell → Option (Nat × List (Nat × D))
 | some (.ins c fs)=>some (c,fs)
 | _=>none
theorem xZO {c : Nat} {fs : List (Nat × D)} : insN (some (.ins c fs)) = some (c,fs):=rfl
theorem xZ4 {n : Nat} : objO W (some (.val (.own n))) = opt (insN W[n]?) W:=by
 show (match W[n]? with | some (.ins c fs)=>R.ok (c,fs) W | _=>.st) = _
 unfold insN
 rcases W[n]? with _ | (_ | _ | _ | _) <;> rfl
theorem xZa {n : Nat} : objK (.own n) W = opt (insN W[n]?) W:=by
 show (match W[n]? with | some (.ins c fs)=>R.ok (c,fs) W | _=>.st) = _
 unfold insN
 rcases W[n]? with _ | (_ | _ | _ | _) <;> rfl
theorem yZw {m n : Nat} : methR g m (.own n) W = bnd (opt (insN W[n]?) W) (fun o W=>if (o.2.lookup m).isNone then opt (g.meth o.1 m) W else .st) .mk:=by
 show (match W[n]? with | some (.ins c fs)=>if (fs.lookup m).isNone then opt (g.meth c m) W else .st | _=>.st) = _
 unfold insN
 rcases W[n]? with _ | (_ | _ | _ | _) <;> rfl
def fldC (f n : Nat) (e : Env) (d : D) (W : Wd) (g : Cfg) : Option Cell → R Fl
 | some (.ins c fs)=>if g.fld c f && decide (fs.length < 100) then .ok (.nx e) (W.set n (.ins c (putFd f d fs))) else .st
 | _=>.st
theorem xZX {f i n : Nat} {d : D} : fldO f i e d W g (some (.val (.own n))) = fldC f n e d W g W[n]? := by
 show (match W[n]? with | some (.ins c fs)=>if g.fld c f && decide (fs.length < 100) then R.ok (Fl.nx e) (W.set n (.ins c (putFd f d fs))) else R.st | _=>R.st) = _
 unfold fldC
 rcases W[n]? with _ | (_ | _ | _ | _) <;> rfl
theorem xZz {f n c : Nat} {fs : List (Nat × D)} {d : D} (h : fs.length < 100) : fldC f n e d W g (some (.ins c fs)) = if g.fld c f then .ok (.nx e) (W.set n (.ins c (putFd f d fs))) else .st:=by
 show (if g.fld c f && decide (fs.length < 100) then R.ok (Fl.nx e) (W.set n (.ins c (putFd f d fs))) else R.st) = _
 simp [h]
end
theorem yZF {xs : List D} {n : Nat} {x : D} (h : xs[n]? = some x) : atD xs (.int (n : Int)) = some x:=by
 have hl : n < xs.length:=(List.getElem?_eq_some_iff.mp h).1
 rw [zZNb hl]
 simp [List.getD,h]
theorem zZGQ (x : Int) (xs : List Int) : inD (.int x) (xs.map .int) = some (decide (x ∈ xs)):=by
 have h1 : ∀ ys : List Int,(ys.map D.int).all flatD = true:=by
  intro ys
  induction ys with
  | nil=>rfl
  | cons y ys ih=>simp [flatD,ih]
 have h2 : ∀ ys : List Int,(ys.map D.int).any (fun y=>eqVD y (.int x)) = decide (x ∈ ys):=by
  intro ys
  induction ys with
  | nil=>rfl
  | cons y ys ih =>
   rw [List.map_cons,List.any_cons,ih]
   by_cases e : y = x
   ·simp [eqVD,e]
   ·simp [eqVD,e,show ¬ x = y from fun q=>e q.symm]
 unfold inD
 rw [h1,h2]
 rfl
theorem xZA (W : Wd) (x : Int) (i : Nat) (xs : List Int) : inG false W (.int x) (.slot i (xs.map .int)) = some (.bl (decide (x ∈ xs))):=by
 show (inD (.int x) (xs.map .int)).map _ = _
 rw [zZGQ]
 rfl
theorem yZZ (W : Wd) (x : Int) (i : Nat) (xs : List Int) : inG true W (.int x) (.slot i (xs.map .int)) = some (.bl (!decide (x ∈ xs))):=by
 show (inD (.int x) (xs.map .int)).map _ = _
 rw [zZGQ]
 rfl
theorem zZCJ (W : Wd) (x : Int) (d : D) (xs : List Int) : inG false W (.int x) (.frz (xs.map .int) d) = some (.bl (decide (x ∈ xs))):=by
 show (inD (.int x) (xs.map .int)).map _ = _
 rw [zZGQ]
 rfl
def rgF (ds : List D × Bool) (W : Wd) : R (List D):=if ds.1.length ≤ cap then .ok ds.1 W else .st
theorem xZe {it : It} : evF g (.range it) e W = bnd (evIt g it e W) rgF .mk:=rfl
theorem zZCR {ds : List D} {b : Bool} (h : ds.length ≤ cap) : rgF (ds,b) W = .ok ds W:=if_pos h
theorem zZIY {F : FnD} {xs : List D} (h1 : xs.length ≠ F.np) (h2 : xs.length + F.df.length = F.np) : runF g F xs W = bnd (exS g F.body (padE F.nl ((xs ++ F.df).map .val)) W) endR .mk:=by
 unfold runF
 rw [if_neg h1,if_pos h2]
 rfl
def joinK (a : Str) (s : Src) (W : Wd) : R D:=if s.isStr then .st else opt (joinD W (.str a) s) W
def joinR (g : Cfg) (b : E) (e : Env) (x : D) (W : Wd) : R D:=match x with
 | .str a=>bnd (srcOf b (evE g b) e W) (fun s W=>joinK a s W) .mk
 | _=>.st
theorem zZB7 {a b : E} : evE g (.join a b) e W = bnd (evE g a e W) (joinR g b e) .mk:=by
 refine congrArg (R.bind _) ?_
 funext x W
 cases x <;> rfl
theorem yZx {b : E} {a : Str} : joinR g b e (.str a) W = bnd (srcOf b (evE g b) e W) (fun s W=>joinK a s W) .mk:=rfl
theorem yZr {a : Str} {xs : List D} {d : D} : joinK a (.frz xs d) W = opt (joinD W (.str a) (.frz xs d)) W:=rfl
theorem yZX {a : Str} {i : Nat} {xs : List D} : joinK a (.slot i xs) W = opt (joinD W (.str a) (.slot i xs)) W:=rfl
theorem v_gs {x s : Str} : evE g (.gs x s) e W = .ok (.str s) W:=rfl
theorem v_gk {x : Str} {ws : List Str} : evE g (.gk x ws) e W = .ok (.kt ws) W:=rfl
theorem zZEB {neg : Bool} {a b : E} : evE g (.kin neg a b) e W = bnd (evE g a e W) (fun x W=>bnd (evE g b e W) (fun y W=>opt (kinD neg x y) W) .mk) .mk:=rfl
theorem zZDo {neg : Bool} {a b : E} : evE g (.inS neg a b) e W = bnd (evE g a e W) (fun x W=>bnd (evE g b e W) (fun y W=>opt (signD neg x y) W) .mk) .mk:=rfl
theorem zZDZ {a : E} : evE g (.dof a) e W = bnd (evE g a e W) (fun x W=>opt (dofD x) W) .mk:=rfl
def splR (g : Cfg) (b : E) (e : Env) (x : D) (W : Wd) : R (List D):=match x with
 | .str a=>bnd (evE g b e W) (fun y W=>opt (splitD (.str a) y) W) .mk
 | _=>.st
theorem zZB1 {a b : E} : evF g (.splt a b) e W = bnd (evE g a e W) (splR g b e) .mk:=by
 refine congrArg (R.bind _) ?_
 funext x W
 cases x <;> rfl
theorem xZi {b : E} {a : Str} : splR g b e (.str a) W = bnd (evE g b e W) (fun y W=>opt (splitD (.str a) y) W) .mk:=rfl
theorem zZDQ {a : E} : evIt g (.chs a) e W = bnd (evE g a e W) (fun x W=>opt ((charsD x).map fun ds=>(ds,false)) W) .mk:=rfl
theorem zZCQ {a : E} : evE g (.b1 .str a) e W = bnd (evE g a e W) (fun x W=>opt (conv .str x) W) .mk:=rfl
theorem zZA6 (s : Str) : conv .str (.str s) = some (.str s):=rfl
def augFK (e : Env) (n c f : Nat) (z : D) (W : Wd) (o : Option Cell) : R Fl:=match o with
 | some (.ins c' fs')=>if c' = c ∧ fs'.length < 100 then .ok (.nx e) (W.set n (.ins c (putFd f z fs'))) else .st
 | _=>.st
def augFC (g : Cfg) (a : E) (f : Nat) (op : Op) (e : Env) (n : Nat) (W : Wd) (o : Option Cell) : R Fl:=match o with
 | some (.ins c fs)=>if g.fld c f then bnd (opt (fs.lookup f) W) (fun x W=>bnd (evE g a e W) (fun y W=>bnd (opt (augD op x y) W) (fun z W=>augFK e n c f z W W[n]?) .mk) .mk) .mk else .st
 | _=>.st
def augFO (g : Cfg) (a : E) (f : Nat) (op : Op) (e : Env) (W : Wd) (o : Option Slot) : R Fl:=match o with
 | some (.val (.own n))=>augFC g a f op e n W W[n]?
 | _=>.st
theorem zZBs {f i : Nat} {op : Op} {a : E} : exS g (.augF f i op a) e W = augFO g a f op e W e[i]? := by
 show (match e[i]? with
  | some (.val (.own n))=>_
  | _=>R.st) = _
 cases e[i]? with
 | none=>rfl
 | some s=>cases s with
  | val d=>cases d with
   | own n =>
    show (match W[n]? with
     | some (.ins c fs)=>_
     | _=>R.st) = augFC g a f op e n W W[n]?
    cases W[n]? with
    | none=>rfl
    | some c=>cases c with
     | ins c fs =>
      show (if g.fld c f = true then _ else R.st) = (if g.fld c f = true then _ else R.st)
      split
      ·refine congrArg (R.bind _) ?_
       funext x W
       refine congrArg (R.bind _) ?_
       funext y W
       refine congrArg (R.bind _) ?_
       funext z W
       show (match W[n]? with
        | some (.ins c' fs')=>_
        | _=>R.st) = augFK e n c f z W W[n]?
       cases W[n]? with
       | none=>rfl
       | some q=>cases q <;> rfl
      ·rfl
     | _=>rfl
   | _=>rfl
  | _=>rfl
theorem yZp {a : E} {f n : Nat} {op : Op} : augFO g a f op e W (some (.val (.own n))) = augFC g a f op e n W W[n]? := rfl
theorem yZm {a : E} {f n c : Nat} {op : Op} {fs : List (Nat × D)} : augFC g a f op e n W (some (.ins c fs)) = if g.fld c f then bnd (opt (fs.lookup f) W) (fun x W=>bnd (evE g a e W) (fun y W=>bnd (opt (augD op x y) W) (fun z W=>augFK e n c f z W W[n]?) .mk) .mk) .mk else .st:=rfl
theorem yZk {n c f : Nat} {z : D} {fs : List (Nat × D)} (h : fs.length < 100) : augFK e n c f z W (some (.ins c fs)) = .ok (.nx e) (W.set n (.ins c (putFd f z fs))):=if_pos ⟨rfl,h⟩
def forsS : S → List S
 | .seq (.forS _ _ b) r=>b :: forsS r
 | .seq _ r=>forsS r
 | _=>[]
end DL
set_option maxRecDepth 100000
set_option maxHeartbeats 4000000
namespace Gen
open DL
open PySem (Str)
abbrev top (i : Nat) : PySem.Stmt := PySem.Challenge.pw_vouchdoor_k30_policies_read_and_written.main.body.getD i (.Pass ⟨0, 0, 0, 0⟩)
abbrev inClass (s : PySem.Stmt) (j : Nat) : PySem.Stmt:=L2.inClass s j
abbrev zZCC : Nat:=0
abbrev yZL : Nat:=1
abbrev zZCf : Nat:=2
abbrev zZBJ : Nat:=3
abbrev zZBX : Nat:=4
abbrev zZBR : Nat:=5
abbrev yZy : Nat:=6
abbrev yZY : Nat:=7
abbrev xZB : Nat:=8
abbrev yZH : Nat:=9
abbrev xZM : Nat:=10
abbrev zZBW : Nat:=11
abbrev yZu : Nat:=12
abbrev zZBY : Nat:=13
abbrev zZBV : Nat:=14
abbrev zZE8 : Nat:=15
abbrev zZB : Nat:=16
abbrev zZI : Nat:=17
abbrev zZE7 : Nat:=18
abbrev yZJ : Nat:=19
abbrev zZB6 : Nat:=20
abbrev zZB4 : Nat:=21
abbrev zZBZ : Nat:=22
abbrev zZEg : Nat:=23
abbrev zZIw : Nat:=24
abbrev zZEh : Nat:=0
abbrev yZB : Nat:=1
abbrev zZCD : Nat:=2
abbrev zZC : Nat:=3
def zZAG : S :=
 (.seq (.fld 12 (.var 0) (.var 1))
 (.seq (.fld 13 (.var 0) (.b1 .tuple (.var 2)))
 .skip))
abbrev yZf : FnD:=⟨3,3,zZAG,[]⟩
def yZQ : S :=
 (.seq (.forS (.nm 2) (.seq (.var 0))
 (.seq (.ite (.cmp .eq (.fld 12 (.var 2)) (.var 1))
 (.seq (.ret (.var 2))
 .skip)
 .skip)
 .skip))
 (.seq (.ret .non)
 .skip))
abbrev zZAF : FnD:=⟨2,3,yZQ,[]⟩
def yZO : S :=
 (.seq (.fld 28 (.var 0) (.b1 .tuple (.var 1)))
 (.seq (.fld 29 (.var 0) (.b1 .tuple (.var 2)))
 .skip))
abbrev zZe : FnD:=⟨3,3,yZO,[]⟩
def zZAH : S :=
 (.seq (.ret (.and (.cons (.isc (.var 1) yZB) (.cons (.cmp .eq (.tup (.cons (.fld 28 (.var 0)) (.cons (.fld 29 (.var 0)) .nil))) (.tup (.cons (.fld 28 (.var 1)) (.cons (.fld 29 (.var 1)) .nil)))) .nil))))
 .skip)
abbrev yZe : FnD:=⟨2,2,zZAH,[]⟩
def zZEj : S :=
 (.seq (.ret (.and (.cons (.chain .le .le (.int 1) (.b1 .len (.var 0)) (.int 8)) (.cons (.kin true (.var 0) (.gk "KEYS" [(PySem.Str.ofString "card"),(PySem.Str.ofString "from"),(PySem.Str.ofString "tell"),(PySem.Str.ofString "equal"),(PySem.Str.ofString "least"),(PySem.Str.ofString "among"),(PySem.Str.ofString "same")])) (.cons (.b1 .all (.frz (.comp (.inS false (.var 1) (.gs "LETTERS" "abcdefghijklmnopqrstuvwxyz")) (.nm 1) (.chs (.var 0)) .nil))) .nil)))))
 .skip)
abbrev zZCi : FnD:=⟨1,2,zZEj,[]⟩
def zZCm : S :=
 (.seq (.ite (.or (.cons (.not (.chain .le .le (.int 1) (.b1 .len (.var 0)) (.int 2))) (.cons (.not (.b1 .all (.frz (.comp (.inS false (.var 1) (.str "0123456789")) (.nm 1) (.chs (.var 0)) .nil)))) (.cons (.and (.cons (.cmp .eq (.idx (.var 0) (.int 0)) (.str "0")) (.cons (.cmp .ne (.var 0) (.str "0")) .nil))) .nil))))
 (.seq (.ret .non)
 .skip)
 .skip)
 (.seq (.ret (.b1 .int (.var 0)))
 .skip))
abbrev zZBH : FnD:=⟨1,2,zZCm,[]⟩
def xZC : S :=
 (.seq (.fld 31 (.var 0) (.ife (.cmp .ne (.var 1) (.str "")) (.frz (.splt (.var 1) (.str " "))) (.frz (.disp .nil))))
 (.seq (.fld 32 (.var 0) (.int 0))
 (.seq (.fld 20 (.var 0) (.var 2))
 (.seq (.fld 28 (.var 0) (.cell (.disp .nil)))
 .skip))))
abbrev yZP : FnD:=⟨3,3,xZC,[]⟩
def zZBS : S :=
 (.seq (.ite (.cmp .lt (.fld 32 (.var 0)) (.b1 .len (.fld 31 (.var 0))))
 (.seq (.ret (.idx (.fld 31 (.var 0)) (.fld 32 (.var 0))))
 .skip)
 .skip)
 (.seq (.ret (.str ""))
 .skip))
abbrev xZI : FnD:=⟨1,1,zZBS,[]⟩
def yZd : S :=
 (.seq (.asg (.nm 2) (.meth 33 (.var 0) .nil))
 (.seq (.ite (.or (.cons (.cmp .ge (.fld 32 (.var 0)) (.b1 .len (.fld 31 (.var 0)))) (.cons (.cmp .notin (.var 2) (.var 1)) .nil)))
 (.seq (.raisE zZC (.fld 32 (.var 0)))
 .skip)
 .skip)
 (.seq (.augF 32 0 .add (.int 1))
 (.seq (.ret (.var 2))
 .skip))))
abbrev zZm : FnD:=⟨2,3,yZd,[]⟩
def zZv : S :=
 (.seq (.asg (.nm 2) (.meth 33 (.var 0) .nil))
 (.seq (.ite (.or (.cons (.not (.call zZCf (.cons (.var 2) .nil))) (.cons (.cmp .inn (.var 2) (.var 1)) .nil)))
 (.seq (.raisE zZC (.fld 32 (.var 0)))
 .skip)
 .skip)
 (.seq (.augF 32 0 .add (.int 1))
 (.seq (.ret (.var 2))
 .skip))))
abbrev zZO : FnD:=⟨2,3,zZv,[]⟩
def zZd : S :=
 (.seq (.asg (.nm 3) (.call zZBJ (.cons (.meth 33 (.var 0) .nil) .nil)))
 (.seq (.ite (.or (.cons (.cmp .isN (.var 3) .non) (.cons (.not (.chain .le .le (.var 1) (.var 3) (.var 2))) .nil)))
 (.seq (.raisE zZC (.fld 32 (.var 0)))
 .skip)
 .skip)
 (.seq (.augF 32 0 .add (.int 1))
 (.seq (.ret (.var 3))
 .skip))))
abbrev zZK : FnD:=⟨3,4,zZd,[]⟩
def zZc : S :=
 (.seq (.asgO 2 (.disp .nil))
 (.seq (.forC (.tup (.cons (.nm 3) (.cons (.nm 4) (.cons (.nm 5) .nil)))) false (.fld 28 (.var 0))
 (.seq (.extend (.var 2) (.frz (.comp (.tup (.cons (.var 3) (.cons (.var 7) .nil))) (.tup (.cons (.nm 7) (.cons (.nm 5) .nil))) (.seq (.fld 13 (.call zZCC (.cons (.fld 20 (.var 0)) (.cons (.var 4) .nil))))) .nil)))
 .skip))
 (.seq (.ret (.frz (.comp (.var 6) (.nm 6) (.seq (.var 2)) (.cons (.kin true (.var 6) (.var 1)) .nil))))
 .skip)))
abbrev yZ9 : FnD:=⟨2,8,zZc,[.kt []]⟩
def yZG : S :=
 (.seq (.asg (.nm 2) (.meth 37 (.var 0) (.cons (.var 1) .nil)))
 (.seq (.asg (.nm 3) (.meth 34 (.var 0) (.cons (.frz (.comp (.idx (.var 4) (.int 0)) (.nm 4) (.seq (.var 2)) .nil)) .nil)))
 (.seq (.ret (.tup (.cons (.var 3) (.cons (.meth 34 (.var 0) (.cons (.frz (.comp (.idx (.var 4) (.int 1)) (.nm 4) (.seq (.var 2)) (.cons (.cmp .eq (.idx (.var 4) (.int 0)) (.var 3)) .nil))) .nil)) .nil))))
 .skip)))
abbrev yZI : FnD:=⟨2,5,yZG,[.kt []]⟩
def zZBQ : S :=
 (.seq (.asg (.nm 2) (.frz (.compC (.var 4) (.tup (.cons (.nm 3) (.cons (.nm 4) (.cons (.nm 5) .nil)))) false (.fld 28 (.var 0)) (.cons (.cmp .eq (.var 3) (.idx (.var 1) (.int 0))) .nil))))
 (.seq (.ret (.dget (.dof (.fld 13 (.call zZCC (.cons (.fld 20 (.var 0)) (.cons (.idx (.var 2) (.int 0)) .nil))))) (.idx (.var 1) (.int 1))))
 .skip))
abbrev xZL : FnD:=⟨2,6,zZBQ,[]⟩
def xZJ : S :=
 (.seq (.expr (.meth 34 (.var 0) (.cons (.tup (.cons (.str "card") .nil)) .nil)))
 (.seq (.asg (.nm 1) (.meth 35 (.var 0) (.cons (.frz (.compC (.idx (.var 4) (.int 0)) (.nm 4) false (.fld 28 (.var 0)) .nil)) .nil)))
 (.seq (.asg (.nm 2) (.meth 34 (.var 0) (.cons (.frz (.comp (.fld 12 (.var 5)) (.nm 5) (.seq (.fld 20 (.var 0))) .nil)) .nil)))
 (.seq (.expr (.meth 34 (.var 0) (.cons (.tup (.cons (.str "from") .nil)) .nil)))
 (.seq (.asg (.nm 3) (.cell (.disp (.cons (.meth 35 (.var 0) (.cons (.tup .nil) .nil)) .nil))))
 (.seq (.whil 1000000007 (.and (.cons (.call zZCf (.cons (.meth 33 (.var 0) .nil) .nil)) (.cons (.cmp .lt (.b1 .len (.var 3)) (.int 3)) .nil)))
 (.seq (.append (.var 3) (.meth 35 (.var 0) (.cons (.var 3) .nil)))
 .skip))
 (.seq (.append (.fld 28 (.var 0)) (.tup (.cons (.var 1) (.cons (.var 2) (.cons (.b1 .tuple (.var 3)) .nil)))))
 .skip)))))))
abbrev zZBT : FnD:=⟨1,6,xZJ,[]⟩
def zZF : S :=
 (.seq (.asg (.nm 1) (.meth 33 (.var 0) .nil))
 (.seq (.asg (.nm 2) (.b1 .len (.meth 37 (.var 0) .nil)))
 (.seq (.ite (.or (.cons (.cmp .notin (.var 1) (.tup (.cons (.str "tell") (.cons (.str "equal") (.cons (.str "least") (.cons (.str "among") (.cons (.str "same") .nil))))))) (.cons (.cmp .lt (.var 2) (.bin .add (.int 1) (.b1 .int (.cmp .eq (.var 1) (.str "same"))))) .nil)))
 (.seq (.raisE zZC (.fld 32 (.var 0)))
 .skip)
 .skip)
 (.seq (.augF 32 0 .add (.int 1))
 (.seq (.asg (.nm 3) (.meth 38 (.var 0) .nil))
 (.seq (.ite (.cmp .eq (.var 1) (.str "tell"))
 (.seq (.ret (.tup (.cons (.var 1) (.star (.var 3) .nil))))
 .skip)
 .skip)
 (.seq (.ite (.cmp .eq (.var 1) (.str "same"))
 (.seq (.ret (.tup (.cons (.var 1) (.star (.var 3) (.star (.meth 38 (.var 0) (.cons (.tup (.cons (.var 3) .nil)) .nil)) .nil)))))
 .skip)
 .skip)
 (.seq (.ite (.cmp .ne (.var 1) (.str "among"))
 (.seq (.ret (.tup (.cons (.var 1) (.star (.var 3) (.cons (.meth 36 (.var 0) (.cons (.int 0) (.cons (.bin .sub (.meth 39 (.var 0) (.cons (.var 3) .nil)) (.int 1)) .nil))) .nil)))))
 .skip)
 .skip)
 (.seq (.asgO 4 (.disp (.cons (.meth 36 (.var 0) (.cons (.int 0) (.cons (.bin .sub (.meth 39 (.var 0) (.cons (.var 3) .nil)) (.int 1)) .nil))) .nil)))
 (.seq (.whil 1000000007 (.cmp .notN (.call zZBJ (.cons (.meth 33 (.var 0) .nil) .nil)) .non)
 (.seq (.append (.var 4) (.meth 36 (.var 0) (.cons (.bin .add (.idx (.var 4) (.neg (.int 1))) (.int 1)) (.cons (.bin .sub (.meth 39 (.var 0) (.cons (.var 3) .nil)) (.int 1)) .nil))))
 .skip))
 (.seq (.ret (.tup (.cons (.var 1) (.star (.var 3) (.cons (.b1 .tuple (.var 4)) .nil)))))
 .skip)))))))))))
abbrev yZ2 : FnD:=⟨1,5,zZF,[]⟩
def yZc : S :=
 (.seq (.asg (.nm 2) (.make zZCD (.cons (.var 0) (.cons (.var 1) .nil))))
 (.seq (.expr (.meth 40 (.var 2) .nil))
 (.seq (.whil 1000000007 (.and (.cons (.cmp .eq (.meth 33 (.var 2) .nil) (.str "card")) (.cons (.cmp .lt (.b1 .len (.fld 28 (.var 2))) (.int 3)) .nil)))
 (.seq (.expr (.meth 40 (.var 2) .nil))
 .skip))
 (.seq (.asgO 3 (.disp .nil))
 (.seq (.whil 1000000007 (.and (.cons (.cmp .lt (.fld 32 (.var 2)) (.b1 .len (.fld 31 (.var 2)))) (.cons (.cmp .lt (.b1 .len (.var 3)) (.int 6)) .nil)))
 (.seq (.append (.var 3) (.meth 41 (.var 2) .nil))
 .skip))
 (.seq (.ite (.cmp .lt (.fld 32 (.var 2)) (.b1 .len (.fld 31 (.var 2))))
 (.seq (.raisE zZC (.fld 32 (.var 2)))
 .skip)
 .skip)
 (.seq (.freeze 3)
 (.seq (.ret (.make yZB (.cons (.fld 28 (.var 2)) (.cons (.var 3) .nil))))
 .skip))))))))
abbrev zZBU : FnD:=⟨2,4,yZc,[]⟩
def zZp : S :=
 (.seq (.asgO 1 (.disp .nil))
 (.seq (.forS (.tup (.cons (.nm 3) (.cons (.nm 4) (.cons (.nm 5) .nil)))) (.seq (.fld 28 (.var 0)))
 (.seq (.extend (.var 1) (.frz (.disp (.cons (.str "card") (.cons (.var 3) (.cons (.var 4) (.cons (.str "from") (.star (.var 5) .nil))))))))
 .skip))
 (.seq (.forS (.nm 2) (.seq (.fld 29 (.var 0)))
 (.seq (.forS (.nm 6) (.seq (.var 2))
 (.seq (.ite (.isi (.var 6) .tuple)
 (.seq (.extend (.var 1) (.frz (.comp (.b1 .str (.var 7)) (.nm 7) (.seq (.var 6)) .nil)))
 .skip)
 (.seq (.append (.var 1) (.b1 .str (.var 6)))
 .skip))
 .skip))
 .skip))
 (.seq (.freeze 1)
 (.seq (.ret (.join (.str " ") (.var 1)))
 .skip)))))
abbrev xZH : FnD:=⟨1,8,zZp,[]⟩
def zZCp : S :=
 (.seq (.ret (.cell (.disp (.cons (.frz (.scr 0)) (.cons (.int 0) (.cons (.int 0) (.cons (.int 1) (.cons (.int 0) (.cons (.var 1) .nil)))))))))
 .skip)
abbrev zZBK : FnD:=⟨2,2,zZCp,[]⟩
def zZCn : S :=
 (.seq (.ite (.and (.cons (.cmp .le (.idx (.var 0) (.int 2)) (.int 0)) (.cons (.cmp .le (.idx (.var 0) (.int 4)) (.int 0)) (.cons (.cmp .lt (.idx (.var 0) (.int 1)) (.b1 .len (.idx (.var 0) (.int 0)))) .nil))))
 (.seq (.asg (.nm 2) (.idx (.idx (.var 0) (.int 0)) (.idx (.var 0) (.int 1))))
 (.seq (.idx (.var 0) (.int 1) (.bin .add (.idx (.var 0) (.int 1)) (.int 1)))
 (.seq (.idx (.var 0) (.int 3) (.bin .mod (.b1 .int (.bin .add (.bin .mul (.idx (.var 0) (.int 3)) (.int 31)) (.var 2))) (.int 2147483647)))
 (.seq (.idx (.var 0) (.int 4) (.int 7))
 (.seq (.ite (.cmp .ge (.var 2) (.bin .pow (.int 10) (.int 18)))
 (.seq (.idx (.var 0) (.int 2) (.var 2))
 .skip)
 .skip)
 .skip)))))
 .skip)
 (.seq (.ite (.cmp .gt (.idx (.var 0) (.int 2)) (.int 0))
 (.seq (.asg (.nm 3) (.bin .mod (.b1 .int (.idx (.var 0) (.int 2))) (.var 1)))
 (.seq (.idx (.var 0) (.int 2) (.bin .fdiv (.idx (.var 0) (.int 2)) (.var 1)))
 (.seq (.idx (.var 0) (.int 4) (.int 0))
 (.seq (.ret (.var 3))
 .skip))))
 .skip)
 (.seq (.idx (.var 0) (.int 4) (.bin .sub (.idx (.var 0) (.int 4)) (.int 1)))
 (.seq (.idx (.var 0) (.int 3) (.bin .mod (.b1 .int (.bin .add (.bin .mul (.idx (.var 0) (.int 3)) (.int 48271)) (.int 12345))) (.int 2147483647)))
 (.seq (.ret (.bin .mod (.bin .mod (.b1 .int (.bin .add (.bin .mul (.idx (.var 0) (.int 3)) (.int 69621)) (.int 7919))) (.int 2147483647)) (.var 1)))
 .skip)))))
abbrev zZBI : FnD:=⟨2,4,zZCn,[]⟩
def yZA : S :=
 (.seq (.ite (.or (.cons (.isi (.var 1) .tuple) (.cons (.isi (.var 1) .list) .nil)))
 (.seq (.ite (.or (.cons (.cmp .ne (.isi (.var 1) .tuple) (.isi (.var 0) .tuple)) (.cons (.cmp .ne (.isi (.var 1) .list) (.isi (.var 0) .list)) .nil)))
 (.seq (.ret (.bl false))
 .skip)
 .skip)
 (.seq (.ite (.cmp .ne (.b1 .len (.var 0)) (.b1 .len (.var 1)))
 (.seq (.ret (.bl false))
 .skip)
 .skip)
 (.seq (.forS (.nm 2) (.range1 (.b1 .len (.var 1)))
 (.seq (.ite (.not (.call zZI (.cons (.idx (.var 0) (.var 2)) (.cons (.idx (.var 1) (.var 2)) .nil))))
 (.seq (.ret (.bl false))
 .skip)
 .skip)
 .skip))
 (.seq (.ret (.bl true))
 .skip))))
 .skip)
 (.seq (.ite (.or (.cons (.cmp .isN (.var 1) .non) (.cons (.isi (.var 1) .bool) .nil)))
 (.seq (.ret (.and (.cons (.cmp .eq (.cmp .isN (.var 0) .non) (.cmp .isN (.var 1) .non)) (.cons (.or (.cons (.cmp .isN (.var 1) .non) (.cons (.isi (.var 0) .bool) .nil))) (.cons (.cmp .eq (.var 0) (.var 1)) .nil)))))
 .skip)
 .skip)
 (.seq (.ite (.isi (.var 1) .int)
 (.seq (.ret (.and (.cons (.isi (.var 0) .int) (.cons (.not (.isi (.var 0) .bool)) (.cons (.cmp .eq (.var 0) (.var 1)) .nil)))))
 .skip)
 .skip)
 (.seq (.ret (.and (.cons (.isi (.var 0) .str) (.cons (.cmp .eq (.var 0) (.var 1)) .nil))))
 .skip))))
abbrev zZ7 : FnD:=⟨2,3,yZA,[]⟩
def zZu : S :=
 (.seq (.ite (.cmp .gt (.call zZB (.cons (.var 0) (.cons (.int 4) .nil))) (.int 0))
 (.seq (.ret (.idx (.tup (.cons (.str "a") (.cons (.str "b") (.cons (.str "me") (.cons (.str "you") (.cons (.str "town") (.cons (.str "age") (.cons (.str "club") (.cons (.str "person") .nil))))))))) (.call zZB (.cons (.var 0) (.cons (.int 8) .nil)))))
 .skip)
 .skip)
 (.seq (.asg (.nm 1) (.str ""))
 (.seq (.forS (.nm 2) (.range1 (.bin .add (.int 1) (.call zZB (.cons (.var 0) (.cons (.int 8) .nil)))))
 (.seq (.asg (.nm 1) (.bin .add (.var 1) (.idx (.str "abcdefghijklmnopqrstuvwxyz") (.call zZB (.cons (.var 0) (.cons (.int 26) .nil))))))
 .skip))
 (.seq (.ite (.cmp .inn (.var 1) (.tup (.cons (.str "card") (.cons (.str "from") (.cons (.str "tell") (.cons (.str "equal") (.cons (.str "least") (.cons (.str "among") (.cons (.str "same") .nil)))))))))
 (.seq (.ret (.str "z"))
 .skip)
 .skip)
 (.seq (.ret (.var 1))
 .skip)))))
abbrev zZ9 : FnD:=⟨1,3,zZu,[]⟩
def zZo : S :=
 (.seq (.asgO 2 (.disp .nil))
 (.seq (.forS (.nm 3) (.range1 (.var 1))
 (.seq (.asg (.nm 4) (.call zZE7 (.cons (.var 0) .nil)))
 (.seq (.forS (.nm 5) (.seq (.tup (.cons (.str "pp") (.cons (.str "qq") (.cons (.str "rr") (.cons (.str "ss") (.cons (.str "tt") (.cons (.str "uu") (.cons (.str "vv") (.cons (.str "ww") (.cons (.str "xx") .nil)))))))))))
 (.seq (.ite (.cmp .inn (.var 4) (.var 2))
 (.seq (.asg (.nm 4) (.var 5))
 .skip)
 .skip)
 .skip))
 (.seq (.append (.var 2) (.var 4))
 .skip))))
 (.seq (.freeze 2)
 (.seq (.ret (.var 2))
 .skip))))
abbrev xZK : FnD:=⟨2,6,zZo,[]⟩
def zZV : S :=
 (.seq (.asgO 1 (.disp .nil))
 (.seq (.forS (.nm 2) (.seq (.call yZJ (.cons (.var 0) (.cons (.bin .add (.int 1) (.idx (.tup (.cons (.call zZB (.cons (.var 0) (.cons (.int 3) .nil))) (.cons (.call zZB (.cons (.var 0) (.cons (.int 8) .nil))) .nil))) (.b1 .int (.cmp .eq (.call zZB (.cons (.var 0) (.cons (.int 4) .nil))) (.int 0))))) .nil))))
 (.seq (.asg (.nm 3) (.frz (.comp (.tup (.cons (.var 4) (.cons (.bin .add (.int 1) (.call zZB (.cons (.var 0) (.cons (.int 16) .nil)))) .nil))) (.nm 4) (.seq (.call yZJ (.cons (.var 0) (.cons (.call zZB (.cons (.var 0) (.cons (.int 5) .nil))) .nil)))) .nil)))
 (.seq (.append (.var 1) (.tup (.cons (.var 2) (.cons (.b1 .tuple (.var 3)) .nil))))
 .skip)))
 (.seq (.freeze 1)
 (.seq (.ret (.var 1))
 .skip))))
abbrev zZs : FnD:=⟨1,5,zZV,[]⟩
def yZR : S :=
 (.seq (.asg (.nm 2) (.frz (.disp .nil)))
 (.seq (.forS (.tup (.cons (.nm 3) (.cons (.nm 4) (.cons (.nm 5) .nil)))) (.seq (.var 1))
 (.seq (.asg (.nm 6) (.idx (.frz (.comp (.var 6) (.tup (.cons (.nm 7) (.cons (.nm 6) .nil))) (.seq (.var 0)) (.cons (.cmp .eq (.var 7) (.var 4)) .nil))) (.int 0)))
 (.seq (.asg (.nm 2) (.frz (.add (.var 2) (.frz (.comp (.tup (.cons (.tup (.cons (.var 3) (.cons (.var 8) .nil))) (.cons (.var 9) .nil))) (.tup (.cons (.nm 8) (.cons (.nm 9) .nil))) (.seq (.var 6)) .nil)))))
 .skip)))
 (.seq (.ret (.var 2))
 .skip)))
abbrev zZAI : FnD:=⟨2,10,yZR,[]⟩
def zZW : S :=
 (.seq (.asgO 2 (.disp .nil))
 (.seq (.forS (.nm 3) (.seq (.call yZJ (.cons (.var 0) (.cons (.bin .add (.int 1) (.call zZB (.cons (.var 0) (.cons (.int 3) .nil)))) .nil))))
 (.seq (.asg (.nm 7) (.idx (.idx (.var 1) (.call zZB (.cons (.var 0) (.cons (.b1 .len (.var 1)) .nil)))) (.int 0)))
 (.seq (.append (.var 2) (.tup (.cons (.var 3) (.cons (.var 7) (.cons (.b1 .tuple (.call yZJ (.cons (.var 0) (.cons (.bin .add (.int 1) (.call zZB (.cons (.var 0) (.cons (.int 3) .nil)))) .nil)))) .nil)))))
 .skip)))
 (.seq (.asgO 4 (.disp .nil))
 (.seq (.freeze 2)
 (.seq (.asg (.nm 5) (.call zZB4 (.cons (.var 1) (.cons (.var 2) .nil))))
 (.seq (.forS (.nm 6) (.range1 (.call zZB (.cons (.var 0) (.cons (.int 7) .nil))))
 (.seq (.ite (.cmp .gt (.b1 .len (.var 5)) (.int 0))
 (.seq (.asg (.tup (.cons (.nm 10) (.cons (.nm 11) .nil))) (.idx (.var 5) (.call zZB (.cons (.var 0) (.cons (.b1 .len (.var 5)) .nil)))))
 (.seq (.asg (.nm 8) (.call zZB (.cons (.var 0) (.cons (.int 5) .nil))))
 (.seq (.asg (.nm 9) (.frz (.comp (.var 13) (.tup (.cons (.nm 13) (.cons (.nm 14) .nil))) (.seq (.var 5)) (.cons (.cmp .ne (.var 13) (.var 10)) .nil))))
 (.seq (.ite (.and (.cons (.cmp .eq (.var 8) (.int 4)) (.cons (.cmp .gt (.b1 .len (.var 9)) (.int 0)) .nil)))
 (.seq (.append (.var 4) (.bin .add (.bin .add (.tup (.cons (.str "same") .nil)) (.var 10)) (.idx (.var 9) (.call zZB (.cons (.var 0) (.cons (.b1 .len (.var 9)) .nil))))))
 .skip)
 (.seq (.ite (.cmp .eq (.var 8) (.int 3))
 (.seq (.asg (.nm 12) (.frz (.comp (.var 15) (.nm 15) (.range1 (.var 11)) (.cons (.cmp .eq (.call zZB (.cons (.var 0) (.cons (.int 3) .nil))) (.int 0)) .nil))))
 (.seq (.asg (.nm 12) (.frz (.add (.var 12) (.frz (.rep (.frz (.disp (.cons (.bin .sub (.var 11) (.int 1)) .nil))) (.b1 .int (.cmp .eq (.b1 .len (.var 12)) (.int 0))))))))
 (.seq (.append (.var 4) (.bin .add (.bin .add (.tup (.cons (.str "among") .nil)) (.var 10)) (.tup (.cons (.b1 .tuple (.var 12)) .nil))))
 .skip)))
 (.seq (.ite (.cmp .gt (.var 8) (.int 0))
 (.seq (.append (.var 4) (.bin .add (.bin .add (.tup (.cons (.idx (.tup (.cons (.str "equal") (.cons (.str "least") .nil))) (.bin .mod (.var 8) (.int 2))) .nil)) (.var 10)) (.tup (.cons (.call zZB (.cons (.var 0) (.cons (.var 11) .nil))) .nil))))
 .skip)
 (.seq (.append (.var 4) (.bin .add (.tup (.cons (.str "tell") .nil)) (.var 10)))
 .skip))
 .skip))
 .skip))
 .skip))))
 .skip)
 .skip))
 (.seq (.ret (.tup (.cons (.b1 .tuple (.var 2)) (.cons (.b1 .tuple (.var 4)) .nil))))
 .skip)))))))
abbrev xZF : FnD:=⟨2,16,zZW,[]⟩
def zZy : S :=
 (.seq (.asgO 1 (.disp .nil))
 (.seq (.forS (.tup (.cons (.nm 3) (.cons (.nm 4) (.cons (.nm 5) .nil)))) (.seq (.idx (.var 0) (.int 0)))
 (.seq (.freeze 1)
 (.seq (.asgO 1 (.cat (.add (.var 1) (.frz (.disp (.cons (.str "card") (.cons (.var 3) (.cons (.var 4) (.cons (.str "from") .nil))))))) (.of (.var 5))))
 .skip)))
 (.seq (.forS (.nm 2) (.seq (.idx (.var 0) (.int 1)))
 (.seq (.freeze 1)
 (.seq (.asgO 1 (.add (.var 1) (.frz (.of (.sl (.var 2) .none (.some (.int 3)))))))
 (.seq (.ite (.cmp .eq (.idx (.var 2) (.int 0)) (.str "same"))
 (.seq (.freeze 1)
 (.seq (.asgO 1 (.add (.var 1) (.frz (.of (.sl (.var 2) (.some (.int 3)) .none)))))
 .skip))
 (.seq (.ite (.cmp .eq (.idx (.var 2) (.int 0)) (.str "among"))
 (.seq (.freeze 1)
 (.seq (.asgO 1 (.add (.var 1) (.frz (.comp (.b1 .str (.var 6)) (.nm 6) (.seq (.idx (.var 2) (.int 3))) .nil))))
 .skip))
 (.seq (.ite (.cmp .ne (.idx (.var 2) (.int 0)) (.str "tell"))
 (.seq (.append (.var 1) (.b1 .str (.idx (.var 2) (.int 3))))
 .skip)
 .skip)
 .skip))
 .skip))
 .skip))))
 (.seq (.freeze 1)
 (.seq (.ret (.var 1))
 .skip)))))
abbrev zZAD : FnD:=⟨1,7,zZy,[]⟩
def zZCj : S :=
 (.seq (.asg (.nm 1) (.call zZE8 (.cons (.var 0) (.cons (.int 0) .nil))))
 (.seq (.asg (.nm 2) (.call zZB6 (.cons (.var 1) .nil)))
 (.seq (.asg (.nm 3) (.frz (.comp (.make zZEh (.cons (.var 13) (.cons (.var 16) .nil))) (.tup (.cons (.nm 13) (.cons (.nm 16) .nil))) (.seq (.var 2)) .nil)))
 (.seq (.asg (.nm 4) (.call zZBZ (.cons (.var 1) (.cons (.var 2) .nil))))
 (.seq (.asg (.nm 5) (.join (.str " ") (.call zZEg (.cons (.var 4) .nil))))
 (.seq (.asg (.nm 6) (.call zZBY (.cons (.var 5) (.cons (.var 3) .nil))))
 (.seq (.ite (.or (.cons (.not (.call zZI (.cons (.frz (.disp (.cons (.fld 28 (.var 6)) (.cons (.fld 29 (.var 6)) .nil)))) (.cons (.frz (.of (.var 4))) .nil)))) (.cons (.not (.call zZI (.cons (.call zZBV (.cons (.var 6) .nil)) (.cons (.var 5) .nil)))) .nil)))
 (.seq (.ret (.bl false))
 .skip)
 .skip)
 (.seq (.asg (.nm 7) (.make yZB (.cons (.frz (.of (.idx (.var 4) (.int 0)))) (.cons (.frz (.of (.idx (.var 4) (.int 1)))) .nil))))
 (.seq (.ite (.or (.cons (.not (.call zZI (.cons (.eqo (.var 7) (.var 6)) (.cons (.bl true) .nil)))) (.cons (.not (.call zZI (.cons (.call zZBV (.cons (.var 7) .nil)) (.cons (.var 5) .nil)))) .nil)))
 (.seq (.ret (.bl false))
 .skip)
 .skip)
 (.seq (.asg (.nm 8) (.call zZBZ (.cons (.var 1) (.cons (.var 2) .nil))))
 (.seq (.ite (.not (.call zZI (.cons (.eqo (.make yZB (.cons (.idx (.var 8) (.int 0)) (.cons (.idx (.var 8) (.int 1)) .nil))) (.var 6)) (.cons (.cmp .eq (.var 8) (.var 4)) .nil))))
 (.seq (.ret (.bl false))
 .skip)
 .skip)
 (.seq (.asg (.tup (.cons (.nm 13) (.cons (.nm 14) (.cons (.nm 15) .nil)))) (.idx (.idx (.var 4) (.int 0)) (.int 0)))
 (.seq (.asg (.nm 9) (.idx (.frz (.comp (.var 17) (.nm 17) (.seq (.tup (.cons (.str "aa") (.cons (.str "bb") (.cons (.str "cc") (.cons (.str "dd") .nil)))))) (.cons (.cmp .notin (.var 17) (.var 15)) .nil))) (.int 0)))
 (.seq (.asg (.nm 10) (.bin .add (.tup (.cons (.tup (.cons (.var 13) (.cons (.var 14) (.cons (.bin .add (.sl (.var 15) .none (.some (.neg (.int 1)))) (.tup (.cons (.var 9) .nil))) .nil)))) .nil)) (.sl (.idx (.var 4) (.int 0)) (.some (.int 1)) .none)))
 (.seq (.ite (.not (.call zZI (.cons (.eqo (.make yZB (.cons (.var 10) (.cons (.idx (.var 4) (.int 1)) .nil))) (.var 6)) (.cons (.bl false) .nil))))
 (.seq (.ret (.bl false))
 .skip)
 .skip)
 (.seq (.ite (.and (.cons (.cmp .gt (.b1 .len (.idx (.var 4) (.int 1))) (.int 0)) (.cons (.not (.call zZI (.cons (.eqo (.make yZB (.cons (.idx (.var 4) (.int 0)) (.cons (.sl (.idx (.var 4) (.int 1)) .none (.some (.neg (.int 1)))) .nil))) (.var 6)) (.cons (.bl false) .nil)))) .nil)))
 (.seq (.ret (.bl false))
 .skip)
 .skip)
 (.seq (.asg (.nm 11) (.call zZB4 (.cons (.var 2) (.cons (.idx (.var 4) (.int 0)) .nil))))
 (.seq (.ite (.or (.cons (.cmp .eq (.b1 .len (.var 11)) (.int 0)) (.cons (.cmp .gt (.b1 .len (.idx (.var 4) (.int 1))) (.int 5)) .nil)))
 (.seq (.ret (.bl true))
 .skip)
 .skip)
 (.seq (.asg (.nm 12) (.bin .add (.idx (.var 4) (.int 1)) (.tup (.cons (.bin .add (.tup (.cons (.str "tell") .nil)) (.idx (.idx (.var 11) (.call zZB (.cons (.var 1) (.cons (.b1 .len (.var 11)) .nil)))) (.int 0))) .nil))))
 (.seq (.ret (.call zZI (.cons (.eqo (.make yZB (.cons (.idx (.var 4) (.int 0)) (.cons (.var 12) .nil))) (.var 6)) (.cons (.bl false) .nil))))
 .skip))))))))))))))))))))
abbrev f_law : FnD:=⟨1,18,zZCj,[]⟩
def fnL : List FnD:=[zZAF,yZe,zZCi,zZBH,xZI,zZm,zZO,zZK,yZ9,yZI,xZL,zZBT,yZ2,zZBU,xZH,zZBK,zZBI,zZ7,zZ9,xZK,zZs,zZAI,xZF,zZAD,f_law]
def eqmL : List ((Nat × Nat) × Nat):=[((1,1),yZL)]
def nemL : List ((Nat × Nat) × Nat):=[]
def iscL : List ((Nat × Nat) × Bool):=[((1,1),true)]
def methL : List ((Nat × Nat) × Nat):=[((2,40),zZBW),((2,33),zZBX),((2,41),yZu),((2,34),zZBR),((2,35),yZy),((2,37),xZB),((2,38),yZH),((2,36),yZY),((2,39),xZM)]
def fldL : List (Nat × Nat):=[(0,12),(0,13),(1,28),(1,29),(2,31),(2,32),(2,20),(2,28)]
def iniL : List FnD:=[yZf,zZe,yZP]
def cellL : List Nat:=[2]
def xmL : List ((Nat × Nat) × Bool):=[]
def xisTL : List ((Nat × Nat) × Bool):=[]
def xnmL : List (Nat × Str):=[]
def rnmL : List (Nat × Str):=[]
def enmL : List (Nat × Str):=[(zZC,(PySem.Str.ofString "BadText"))]
def hnmL : List (Nat × Str):=[]
def xfL : List (Nat × Nat):=[(zZC,32)]
def xivL : List (Nat × Bool):=[]
def T : Prog:=⟨fun f=>fnL[f]?,fun c=>iniL[c]?,fun c m=>methL.lookup (c,m),fun c=>cellL.contains c,fun c f=>fldL.contains (c,f),fun c d=>iscL.lookup (c,d),fun c d=>eqmL.lookup (c,d),fun k c=>xmL.lookup (k,c),fun k c=>xisTL.lookup (k,c),fun k=>xfL.lookup k,fun k=>xivL.lookup k,fun c d=>nemL.lookup (c,d)⟩
def anL : List Str:=[(PySem.Str.ofString "unknowns"),(PySem.Str.ofString "equations"),(PySem.Str.ofString "p"),(PySem.Str.ofString "q"),(PySem.Str.ofString "bases"),(PySem.Str.ofString "sides"),(PySem.Str.ofString "product"),(PySem.Str.ofString "raised"),(PySem.Str.ofString "statement"),(PySem.Str.ofString "choices"),(PySem.Str.ofString "is_element"),(PySem.Str.ofString "log"),(PySem.Str.ofString "name"),(PySem.Str.ofString "fields"),(PySem.Str.ofString "kind"),(PySem.Str.ofString "element"),(PySem.Str.ofString "first"),(PySem.Str.ofString "challenge"),(PySem.Str.ofString "state"),(PySem.Str.ofString "group"),(PySem.Str.ofString "kinds"),(PySem.Str.ofString "book"),(PySem.Str.ofString "requests"),(PySem.Str.ofString "ask"),(PySem.Str.ofString "request"),(PySem.Str.ofString "grant"),(PySem.Str.ofString "revoke"),(PySem.Str.ofString "counting"),(PySem.Str.ofString "cards"),(PySem.Str.ofString "conditions"),(PySem.Str.ofString "place"),(PySem.Str.ofString "words"),(PySem.Str.ofString "at"),(PySem.Str.ofString "word"),(PySem.Str.ofString "take"),(PySem.Str.ofString "take_name"),(PySem.Str.ofString "take_number"),(PySem.Str.ofString "pairs"),(PySem.Str.ofString "take_value"),(PySem.Str.ofString "size"),(PySem.Str.ofString "card"),(PySem.Str.ofString "condition"),(PySem.Str.ofString "policy"),(PySem.Str.ofString "rows"),(PySem.Str.ofString "places"),(PySem.Str.ofString "tells"),(PySem.Str.ofString "base"),(PySem.Str.ofString "row"),(PySem.Str.ofString "randomness"),(PySem.Str.ofString "numbers"),(PySem.Str.ofString "question"),(PySem.Str.ofString "secret"),(PySem.Str.ofString "picks"),(PySem.Str.ofString "tape"),(PySem.Str.ofString "begin"),(PySem.Str.ofString "reply"),(PySem.Str.ofString "fresh"),(PySem.Str.ofString "told"),(PySem.Str.ofString "finish"),(PySem.Str.ofString "holdings"),(PySem.Str.ofString "keep"),(PySem.Str.ofString "opens"),(PySem.Str.ofString "what"),(PySem.Str.ofString "known"),(PySem.Str.ofString "claim"),(PySem.Str.ofString "witness"),(PySem.Str.ofString "opening")]
def anm (f : Nat) : Str:=anL.getD f ""
def fnmL : List (Option Str):=[some (PySem.Str.ofString "kind_named"),none,some (PySem.Str.ofString "is_name"),some (PySem.Str.ofString "number_of"),none,none,none,none,none,none,none,none,none,some (PySem.Str.ofString "read_policy"),some (PySem.Str.ofString "policy_text"),some (PySem.Str.ofString "_law_pool"),some (PySem.Str.ofString "_law_draw"),some (PySem.Str.ofString "_law_same"),some (PySem.Str.ofString "_law_name"),some (PySem.Str.ofString "_law_unlike"),some (PySem.Str.ofString "_law_all_kinds"),some (PySem.Str.ofString "_law_pairs"),some (PySem.Str.ofString "_law_policy"),some (PySem.Str.ofString "_law_words"),some (PySem.Str.ofString "law")]
def cnmL : List (Option Str):=[some (PySem.Str.ofString "Kind"),some (PySem.Str.ofString "Policy"),some (PySem.Str.ofString "Reader")]
def bltL : List Str:=[(PySem.Str.ofString "all"),(PySem.Str.ofString "bool"),(PySem.Str.ofString "dict"),(PySem.Str.ofString "int"),(PySem.Str.ofString "isinstance"),(PySem.Str.ofString "len"),(PySem.Str.ofString "list"),(PySem.Str.ofString "range"),(PySem.Str.ofString "str"),(PySem.Str.ofString "tuple")]
def giL : List (Str × Int):=[("MOST_CARDS",3),("MOST_CONDITIONS",6),("MOST_ISSUERS",3)]
def gsL : List (Str × Str):=[((PySem.Str.ofString "LETTERS"),(PySem.Str.ofString "abcdefghijklmnopqrstuvwxyz"))]
def gkL : List (Str × List Str):=[((PySem.Str.ofString "KEYS"),[(PySem.Str.ofString "card"),(PySem.Str.ofString "from"),(PySem.Str.ofString "tell"),(PySem.Str.ofString "equal"),(PySem.Str.ofString "least"),(PySem.Str.ofString "among"),(PySem.Str.ofString "same")])]
def Z : Zs:=⟨anm,fun f=>fnmL.getD f none,fun c=>cnmL.getD c none,bltL,giL,fun c=>xnmL.lookup c,fun c=>rnmL.lookup c,fun c=>enmL.lookup c,fun c=>hnmL.lookup c,gsL,gkL⟩
abbrev zZY : PySem.Stmt:=inClass (top 4) 0
theorem zZFI : L2.FnScope ["self","name","fields"] ["self","name","fields"] (L2.defScope zZY):=⟨rfl,rfl,rfl,by decide +kernel,rfl,by decide +kernel,by decide +kernel⟩
theorem zZFY : chkSs Z zZAG ⟨["self","name","fields"],(L2.defScope zZY).names,true,[],false⟩ (L2.defBody zZY) = true:=by decide +kernel
abbrev zZw : PySem.Stmt:=top 5
theorem zZGv : L2.FnScope ["kinds","name","kind"] ["kinds","name"] (L2.defScope zZw):=⟨rfl,rfl,rfl,by decide +kernel,rfl,by decide +kernel,by decide +kernel⟩
theorem zZGs : chkSs Z yZQ ⟨["kinds","name","kind"],(L2.defScope zZw).names,true,[],false⟩ (L2.defBody zZw) = true:=by decide +kernel
abbrev zZS : PySem.Stmt:=inClass (top 12) 0
theorem zZEV : L2.FnScope ["self","cards","conditions"] ["self","cards","conditions"] (L2.defScope zZS):=⟨rfl,rfl,rfl,by decide +kernel,rfl,by decide +kernel,by decide +kernel⟩
theorem zZEt : chkSs Z yZO ⟨["self","cards","conditions"],(L2.defScope zZS).names,true,[],false⟩ (L2.defBody zZS) = true:=by decide +kernel
abbrev zZZ : PySem.Stmt:=inClass (top 12) 1
theorem zZFH : L2.FnScope ["self","other"] ["self","other"] (L2.defScope zZZ):=⟨rfl,rfl,rfl,by decide +kernel,rfl,by decide +kernel,by decide +kernel⟩
theorem zZFc : chkSs Z zZAH ⟨["self","other"],(L2.defScope zZZ).names,true,[],false⟩ (L2.defBody zZZ) = true:=by decide +kernel
abbrev yZT : PySem.Stmt:=top 13
theorem zZIn : L2.FnScope ["word","char"] ["word"] (L2.defScope yZT):=⟨rfl,rfl,rfl,by decide +kernel,rfl,by decide +kernel,by decide +kernel⟩
theorem zZIf : chkSs Z zZEj ⟨["word","char"],(L2.defScope yZT).names,true,[],false⟩ (L2.defBody yZT) = true:=by decide +kernel
abbrev zZ8 : PySem.Stmt:=top 14
theorem zZHe : L2.FnScope ["word","char"] ["word"] (L2.defScope zZ8):=⟨rfl,rfl,rfl,by decide +kernel,rfl,by decide +kernel,by decide +kernel⟩
theorem zZG6 : chkSs Z zZCm ⟨["word","char"],(L2.defScope zZ8).names,true,[],false⟩ (L2.defBody zZ8) = true:=by decide +kernel
abbrev zZR : PySem.Stmt:=inClass (top 15) 0
theorem zZEY : L2.FnScope ["self","text","kinds"] ["self","text","kinds"] (L2.defScope zZR):=⟨rfl,rfl,rfl,by decide +kernel,rfl,by decide +kernel,by decide +kernel⟩
theorem zZEa : chkSs Z xZC ⟨["self","text","kinds"],(L2.defScope zZR).names,true,[],false⟩ (L2.defBody zZR) = true:=by decide +kernel
abbrev zZi : PySem.Stmt:=inClass (top 15) 1
theorem zZGD : L2.FnScope ["self"] ["self"] (L2.defScope zZi):=⟨rfl,rfl,rfl,by decide +kernel,rfl,by decide +kernel,by decide +kernel⟩
theorem zZGI : chkSs Z zZBS ⟨["self"],(L2.defScope zZi).names,true,[],false⟩ (L2.defBody zZi) = true:=by decide +kernel
abbrev zZn : PySem.Stmt:=inClass (top 15) 2
theorem zZGR : L2.FnScope ["self","allowed","word"] ["self","allowed"] (L2.defScope zZn):=⟨rfl,rfl,rfl,by decide +kernel,rfl,by decide +kernel,by decide +kernel⟩
theorem zZGN : chkSs Z yZd ⟨["self","allowed","word"],(L2.defScope zZn).names,true,[],false⟩ (L2.defBody zZn) = true:=by decide +kernel
abbrev zZN : PySem.Stmt:=inClass (top 15) 3
theorem zZEO : L2.FnScope ["self","taken","word"] ["self","taken"] (L2.defScope zZN):=⟨rfl,rfl,rfl,by decide +kernel,rfl,by decide +kernel,by decide +kernel⟩
theorem zZEP : chkSs Z zZv ⟨["self","taken","word"],(L2.defScope zZN).names,true,[],false⟩ (L2.defBody zZN) = true:=by decide +kernel
abbrev zZJ : PySem.Stmt:=inClass (top 15) 4
theorem zZC0 : L2.FnScope ["self","least","most","number"] ["self","least","most"] (L2.defScope zZJ):=⟨rfl,rfl,rfl,by decide +kernel,rfl,by decide +kernel,by decide +kernel⟩
theorem zZCy : chkSs Z zZd ⟨["self","least","most","number"],(L2.defScope zZJ).names,true,[],false⟩ (L2.defBody zZJ) = true:=by decide +kernel
abbrev zZQ : PySem.Stmt:=inClass (top 15) 5
theorem zZF4 : L2.FnScope ["self","without","found","name","kind","_","pair","value"] ["self","without"] (L2.defScope zZQ):=⟨rfl,rfl,rfl,by decide +kernel,rfl,by decide +kernel,by decide +kernel⟩
theorem zZFw : chkSs Z zZc ⟨["self","without","found","name","kind","_","pair","value"],(L2.defScope zZQ).names,true,[],false⟩ (L2.defBody zZQ) = true:=by decide +kernel
abbrev zZH : PySem.Stmt:=inClass (top 15) 6
theorem zZDl : L2.FnScope ["self","without","pairs","card","pair"] ["self","without"] (L2.defScope zZH):=⟨rfl,rfl,rfl,by decide +kernel,rfl,by decide +kernel,by decide +kernel⟩
theorem zZC5 : chkSs Z yZG ⟨["self","without","pairs","card","pair"],(L2.defScope zZH).names,true,[],false⟩ (L2.defBody zZH) = true:=by decide +kernel
abbrev zZf : PySem.Stmt:=inClass (top 15) 7
theorem zZGH : L2.FnScope ["self","pair","kinds","name","kind","_"] ["self","pair"] (L2.defScope zZf):=⟨rfl,rfl,rfl,by decide +kernel,rfl,by decide +kernel,by decide +kernel⟩
theorem zZGJ : chkSs Z zZBQ ⟨["self","pair","kinds","name","kind","_"],(L2.defScope zZf).names,true,[],false⟩ (L2.defBody zZf) = true:=by decide +kernel
abbrev zZj : PySem.Stmt:=inClass (top 15) 8
theorem zZGK : L2.FnScope ["self","name","kind","issuers","row","own"] ["self"] (L2.defScope zZj):=⟨rfl,rfl,rfl,by decide +kernel,rfl,by decide +kernel,by decide +kernel⟩
theorem zZGL : chkSs Z xZJ ⟨["self","name","kind","issuers","row","own"],(L2.defScope zZj).names,true,[],false⟩ (L2.defBody zZj) = true:=by decide +kernel
abbrev zZM : PySem.Stmt:=inClass (top 15) 9
theorem zZEN : L2.FnScope ["self","word","count","pair","numbers"] ["self"] (L2.defScope zZM):=⟨rfl,rfl,rfl,by decide +kernel,rfl,by decide +kernel,by decide +kernel⟩
theorem zZEQ : chkSs Z zZF ⟨["self","word","count","pair","numbers"],(L2.defScope zZM).names,true,[],false⟩ (L2.defBody zZM) = true:=by decide +kernel
abbrev zZk : PySem.Stmt:=top 16
theorem zZGO : L2.FnScope ["text","kinds","reader","conditions"] ["text","kinds"] (L2.defScope zZk):=⟨rfl,rfl,rfl,by decide +kernel,rfl,by decide +kernel,by decide +kernel⟩
theorem zZGC : chkSs Z yZc ⟨["text","kinds","reader","conditions"],(L2.defScope zZk).names,true,[],false⟩ (L2.defBody zZk) = true:=by decide +kernel
abbrev zZh : PySem.Stmt:=top 17
theorem zZGF : L2.FnScope ["policy","words","condition","name","kind","issuers","part","number"] ["policy"] (L2.defScope zZh):=⟨rfl,rfl,rfl,by decide +kernel,rfl,by decide +kernel,by decide +kernel⟩
theorem zZGM : chkSs Z zZp ⟨["policy","words","condition","name","kind","issuers","part","number"],(L2.defScope zZh).names,true,[],false⟩ (L2.defBody zZh) = true:=by decide +kernel
abbrev zZ3 : PySem.Stmt:=top 19
theorem zZG8 : L2.FnScope ["_law_script","_law_budget"] ["_law_script","_law_budget"] (L2.defScope zZ3):=⟨rfl,rfl,rfl,by decide +kernel,rfl,by decide +kernel,by decide +kernel⟩
theorem zZHj : chkSs Z zZCp ⟨["_law_script","_law_budget"],(L2.defScope zZ3).names,true,[],false⟩ (L2.defBody zZ3) = true:=by decide +kernel
abbrev zZ5 : PySem.Stmt:=top 20
theorem zZHi : L2.FnScope ["_law_pool_here","_law_size","_law_cell","_law_value"] ["_law_pool_here","_law_size"] (L2.defScope zZ5):=⟨rfl,rfl,rfl,by decide +kernel,rfl,by decide +kernel,by decide +kernel⟩
theorem zZHY : chkSs Z zZCn ⟨["_law_pool_here","_law_size","_law_cell","_law_value"],(L2.defScope zZ5).names,true,[],false⟩ (L2.defBody zZ5) = true:=by decide +kernel
abbrev zZ6 : PySem.Stmt:=top 21
theorem zZHh : L2.FnScope ["_law_actual","_law_due","_law_k"] ["_law_actual","_law_due"] (L2.defScope zZ6):=⟨rfl,rfl,rfl,by decide +kernel,rfl,by decide +kernel,by decide +kernel⟩
theorem zZHM : chkSs Z yZA ⟨["_law_actual","_law_due","_law_k"],(L2.defScope zZ6).names,true,[],false⟩ (L2.defBody zZ6) = true:=by decide +kernel
abbrev zZ4 : PySem.Stmt:=top 22
theorem zZHP : L2.FnScope ["_law_pool_here","_law_name_here","_law_k"] ["_law_pool_here"] (L2.defScope zZ4):=⟨rfl,rfl,rfl,by decide +kernel,rfl,by decide +kernel,by decide +kernel⟩
theorem zZHO : chkSs Z zZu ⟨["_law_pool_here","_law_name_here","_law_k"],(L2.defScope zZ4).names,true,[],false⟩ (L2.defBody zZ4) = true:=by decide +kernel
abbrev zZg : PySem.Stmt:=top 23
theorem zZF9 : L2.FnScope ["_law_pool_here","_law_count","_law_names","_law_k","_law_name_here","_law_other"] ["_law_pool_here","_law_count"] (L2.defScope zZg):=⟨rfl,rfl,rfl,by decide +kernel,rfl,by decide +kernel,by decide +kernel⟩
theorem zZGG : chkSs Z zZo ⟨["_law_pool_here","_law_count","_law_names","_law_k","_law_name_here","_law_other"],(L2.defScope zZg).names,true,[],false⟩ (L2.defBody zZg) = true:=by decide +kernel
abbrev zZT : PySem.Stmt:=top 24
theorem zZE1 : L2.FnScope ["_law_pool_here","_law_kinds","_law_name_here","_law_fields","_law_field"] ["_law_pool_here"] (L2.defScope zZT):=⟨rfl,rfl,rfl,by decide +kernel,rfl,by decide +kernel,by decide +kernel⟩
theorem zZE2 : chkSs Z zZV ⟨["_law_pool_here","_law_kinds","_law_name_here","_law_fields","_law_field"],(L2.defScope zZT).names,true,[],false⟩ (L2.defBody zZT) = true:=by decide +kernel
abbrev zZz : PySem.Stmt:=top 25
theorem zZGu : L2.FnScope ["_law_kinds","_law_cards","_law_found","_law_name_here","_law_kind","_law_issuers","_law_fields","_law_own","_law_field","_law_size"] ["_law_kinds","_law_cards"] (L2.defScope zZz):=⟨rfl,rfl,rfl,by decide +kernel,rfl,by decide +kernel,by decide +kernel⟩
theorem zZGq : chkSs Z yZR ⟨["_law_kinds","_law_cards","_law_found","_law_name_here","_law_kind","_law_issuers","_law_fields","_law_own","_law_field","_law_size"],(L2.defScope zZz).names,true,[],false⟩ (L2.defBody zZz) = true:=by decide +kernel
abbrev zZl : PySem.Stmt:=top 26
theorem zZGT : L2.FnScope ["_law_pool_here","_law_kinds","_law_cards","_law_name_here","_law_conditions","_law_pairs_here","_law_k","_law_kind","_law_way","_law_others","_law_pair","_law_size","_law_numbers","_law_other","_law_more","_law_number"] ["_law_pool_here","_law_kinds"] (L2.defScope zZl):=⟨rfl,rfl,rfl,by decide +kernel,rfl,by decide +kernel,by decide +kernel⟩
theorem zZF7 : chkSs Z zZW ⟨["_law_pool_here","_law_kinds","_law_cards","_law_name_here","_law_conditions","_law_pairs_here","_law_k","_law_kind","_law_way","_law_others","_law_pair","_law_size","_law_numbers","_law_other","_law_more","_law_number"],(L2.defScope zZl).names,true,[],false⟩ (L2.defBody zZl) = true:=by decide +kernel
abbrev zZx : PySem.Stmt:=top 27
theorem zZGt : L2.FnScope ["_law_policy_here","_law_words_here","_law_row","_law_name_here","_law_kind","_law_issuers","_law_number"] ["_law_policy_here"] (L2.defScope zZx):=⟨rfl,rfl,rfl,by decide +kernel,rfl,by decide +kernel,by decide +kernel⟩
theorem zZGp : chkSs Z zZy ⟨["_law_policy_here","_law_words_here","_law_row","_law_name_here","_law_kind","_law_issuers","_law_number"],(L2.defScope zZx).names,true,[],false⟩ (L2.defBody zZx) = true:=by decide +kernel
abbrev zZCg : PySem.Stmt:=top 28
theorem zZJ1 : L2.FnScope ["_law_script","_law_pool_here","_law_kinds","_law_made","_law_policy_here","_law_text","_law_actual","_law_again","_law_other","_law_strange","_law_cards","_law_pairs_here","_law_more","_law_name_here","_law_kind","_law_issuers","_law_fields","_law_row"] ["_law_script"] (L2.defScope zZCg):=⟨rfl,rfl,rfl,by decide +kernel,rfl,by decide +kernel,by decide +kernel⟩
theorem zZJi : chkSs Z zZCj ⟨["_law_script","_law_pool_here","_law_kinds","_law_made","_law_policy_here","_law_text","_law_actual","_law_again","_law_other","_law_strange","_law_cards","_law_pairs_here","_law_more","_law_name_here","_law_kind","_law_issuers","_law_fields","_law_row"],(L2.defScope zZCg).names,true,[],false⟩ (L2.defBody zZCg) = true:=by decide +kernel
abbrev yZ4 : PySem.Stmt:=inClass (top 2) 0
theorem zZIo : ∃ (p0 p1 p2 p3 p4 p5 p6 p7 p8 p9 : PySem.Pos) (j : Nat) (m : PySem.Str),L2.defBody yZ4 = supBody p0 p1 p2 p3 p4 p5 p6 p7 p8 p9 j m "at" "at" ∧ (p2.endLine == p4.line) = true:=⟨_,_,_,_,_,_,_,_,_,_,_,_,rfl,rfl⟩
theorem zZIu : ∀ x ∈ (L2.defScope yZ4).names,x.2 ≠ .cell:=by decide +kernel
theorem zZIl : ∀ y ∈ (L2.defScope yZ4).names,y.2 = .free → y.1 = "__class__" := by decide +kernel
end Gen
namespace Gen
open DL
theorem xZS (n : Nat) : (cfgN T n).fld 0 12 = true:=by
 rw [xZ5]; rfl
theorem xZv (n : Nat) : (cfgN T n).fld 0 13 = true:=by
 rw [xZ5]; rfl
theorem xZR (n : Nat) : (cfgN T n).fld 1 28 = true:=by
 rw [xZ5]; rfl
theorem xZ1 (n : Nat) : (cfgN T n).fld 1 29 = true:=by
 rw [xZ5]; rfl
theorem xZt (n : Nat) : (cfgN T n).fld 2 31 = true:=by
 rw [xZ5]; rfl
theorem xZV (n : Nat) : (cfgN T n).fld 2 32 = true:=by
 rw [xZ5]; rfl
theorem xZk (n : Nat) : (cfgN T n).fld 2 20 = true:=by
 rw [xZ5]; rfl
theorem xZn (n : Nat) : (cfgN T n).fld 2 28 = true:=by
 rw [xZ5]; rfl
theorem xZ0 (n : Nat) : (cfgN T n).meth 2 40 = some zZBW:=by
 rw [yZV]; rfl
theorem xZN (n : Nat) : (cfgN T n).meth 2 33 = some zZBX:=by
 rw [yZV]; rfl
theorem xZd (n : Nat) : (cfgN T n).meth 2 41 = some yZu:=by
 rw [yZV]; rfl
theorem xZY (n : Nat) : (cfgN T n).meth 2 34 = some zZBR:=by
 rw [yZV]; rfl
theorem xZl (n : Nat) : (cfgN T n).meth 2 35 = some yZy:=by
 rw [yZV]; rfl
theorem xZ3 (n : Nat) : (cfgN T n).meth 2 37 = some xZB:=by
 rw [yZV]; rfl
theorem xZc (n : Nat) : (cfgN T n).meth 2 38 = some yZH:=by
 rw [yZV]; rfl
theorem xZf (n : Nat) : (cfgN T n).meth 2 36 = some yZY:=by
 rw [yZV]; rfl
theorem xZm (n : Nat) : (cfgN T n).meth 2 39 = some xZM:=by
 rw [yZV]; rfl
theorem zZDq (n : Nat) : (cfgN T n).cellc 0 = false:=by
 cases n <;> rfl
theorem zZEJ (n : Nat) : (cfgN T n).cellc 1 = false:=by
 cases n <;> rfl
theorem zZDL (n : Nat) : (cfgN T n).cellc 2 = true:=by
 cases n <;> rfl
theorem zZDz (n : Nat) : (cfgN T n).isc 1 1 = some true:=by
 cases n <;> rfl
theorem zZC1 (n : Nat) : (cfgN T n).eqm 1 1 = some yZL:=by
 cases n <;> rfl
theorem zZCE (n : Nat) : (cfgN T n).xf 3 = some 32:=by
 cases n <;> rfl
end Gen
set_option maxRecDepth 100000
set_option maxHeartbeats 4000000
namespace Gen
open DL
open PySem PySem.Spec PyProof.Rows L2
theorem inj : ∀ i j,i < 67 → j < 67 → anm i = anm j → i = j:=fun i j hi hj=>(by decide +kernel : ∀ i,i < 67 → ∀ j,j < 67 → anm i = anm j → i = j) i hi j hj
abbrev FL (l : List Addr) (i : Nat) : Addr:=l.getD i 0
def Bt (K : PySem.W.Frag) (l : List Addr) : Tb0:=⟨FL l,anm,67,fun a ns => ∀ H,SqL K H a (ns.map V.int),fun a ws => ∀ H,SqT K H a (ws.map V.str),inj,fun c=>(xfL.lookup c).getD 0⟩
def AllD (B : Tb0) (Z : Zs) (K : PySem.W.Frag) (fa : Nat → Addr) : Nat → List FnD → Prop
 | _,[]=>True
 | i,F :: r=>DefAt B Z K F (fa i) ∧ AllD B Z K fa (i + 1) r
theorem AllD.get {B : Tb0} {Z : Zs} {K : PySem.W.Frag} {fa : Nat → Addr} : ∀ {l : List FnD} {i j : Nat} {F : FnD},AllD B Z K fa i l → l[j]? = some F → DefAt B Z K F (fa (i + j))
 | [],i,j,F,_,h=>by simp at h
 | G :: r,i,0,F,⟨a,_⟩,h=>by simp at h; subst h; exact a
 | G :: r,i,j + 1,F,⟨_,b⟩,h=>by
  have q:=AllD.get (j:=j) (F:=F) b (by simpa using h)
  rw [show i + (j + 1) = i + 1 + j by omega]
  exact q
def AllP {A : Type} (P : A → Prop) : List A → Prop
 | []=>True
 | a :: r=>P a ∧ AllP P r
theorem AllP.mem {A : Type} {P : A → Prop} : ∀ {l : List A} {a : A},AllP P l → a ∈ l → P a
 | b :: r,a,⟨h,t⟩,m=>by
  rcases List.mem_cons.mp m with e | m
  ·rw [e]; exact h
  ·exact AllP.mem t m
def AllN (P : Nat → Str → Prop) : Nat → List (Option Str) → Prop
 | _,[]=>True
 | i,none :: r=>AllN P (i + 1) r
 | i,some x :: r=>P i x ∧ AllN P (i + 1) r
theorem AllN.get {P : Nat → Str → Prop} : ∀ {l : List (Option Str)} {i j : Nat} {x : Str},AllN P i l → l.getD j none = some x → P (i + j) x
 | [],i,j,x,_,h=>by simp at h
 | none :: r,i,0,x,_,h=>by simp at h
 | some y :: r,i,0,x,⟨a,_⟩,h=>by simp at h; subst h; exact a
 | none :: r,i,j + 1,x,b,h=>by
  have q:=AllN.get (j:=j) (x:=x) (i:=i + 1) (l:=r) b (by simpa using h)
  rw [show i + (j + 1) = i + 1 + j by omega]
  exact q
 | some y :: r,i,j + 1,x,⟨_,b⟩,h=>by
  have q:=AllN.get (j:=j) (x:=x) b (by simpa using h)
  rw [show i + (j + 1) = i + 1 + j by omega]
  exact q
theorem zZL {A V : Type} [BEq A] [LawfulBEq A] : ∀ {l : List (A × V)} {k : A} {v : V},l.lookup k = some v → (k,v) ∈ l
 | [],k,v,h=>by simp at h
 | (a,b) :: r,k,v,h=>by
  rw [List.lookup_cons] at h
  cases e : k == a with
  | true =>
   rw [e] at h
   cases h
   rw [eq_of_beq e]
   exact List.mem_cons_self
  | false =>
   rw [e] at h
   exact List.mem_cons_of_mem _ (zZL h)
theorem zZKI {K : PySem.W.Frag} {c : Addr} (h1 : PySem.W.typeIn K (.ref c) = some (.type "type")) (h2 : PySem.W.hasDictIn K c = true) : PySem.W.kitOne K (.type "NoneType") (.ref c) = some false:=by
 unfold PySem.W.kitOne
 rw [if_neg (by simp)]
 have hd : (PySem.W.clsIn K c).isSome = true:=by
  unfold PySem.W.hasDictIn at h2
  cases q : PySem.W.clsIn K c with
  | none=>rw [q] at h2; simp at h2
  | some _=>rfl
 show (if ((PySem.W.clsIn K c).isSome && PySem.W.typeIn K (.ref c) == some (.type "type")) = true then PySem.W.subIn K (.type "NoneType") (.ref c) else none) = some false
 rw [if_pos (by rw [hd,h1]; rfl)]
 have e : fastBuiltinMro "NoneType" = some [.type "NoneType",.type "object"]:=by decide +kernel
 show (fastBuiltinMro "NoneType").map (·.contains (.ref c)) = some false
 rw [e]
 simp
theorem zZJ7 {K : PySem.W.Frag} {C : Addr} : PySem.W.kitOne K (.ref C) (.ref C) = some true:=by
 unfold PySem.W.kitOne
 rw [if_pos (by simp)]
set_option maxHeartbeats 0 in
theorem all_mk {l : PySem.W.OpenLaw} {w : World} {K : PySem.W.Frag} {h : Heap} {mg : Str → Option Value} {fa : Addr} (X : K.In h) (G : h.Ns mainGlobals mg) (hfa : mg "law" = some (.ref fa))
  {a0 a1 a2 a3 a4 a5 a6 a7 a8 a9 a10 a11 a12 a13 a14 a15 a16 a17 a18 a19 a20 a21 a22 a23 a24 a25 a26 a27 : Addr}
  {C0 C1 C2 : Addr}
  {E3 : Addr}
  {zf3 zd3 zc3 : Addr} {zo3 zn3 zdd3 zcl3 : Option Addr} {zs3 zds3 zcs3 : Array (Option Value)} {zoc3 zkV3 zdo3 zpm3 zct3 zdc3 zcc3 : Value} {zw3 : Array Value} {zfi3 : Str} {zt3 : Tok}
  {od0 an0 : Option Addr} {sl0 : Array (Option Value)} {oc0 kV0 dc0 pm0 cd0 ct0 : Value}
  {od1 an1 : Option Addr} {sl1 : Array (Option Value)} {oc1 kV1 dc1 pm1 cd1 ct1 : Value}
  {od2 an2 : Option Addr} {sl2 : Array (Option Value)} {oc2 kV2 dc2 pm2 cd2 ct2 : Value}
  {od3 an3 : Option Addr} {sl3 : Array (Option Value)} {oc3 kV3 dc3 pm3 cd3 ct3 : Value}
  {od4 an4 : Option Addr} {sl4 : Array (Option Value)} {oc4 kV4 dc4 pm4 cd4 ct4 : Value}
  {od5 an5 : Option Addr} {sl5 : Array (Option Value)} {oc5 kV5 dc5 pm5 cd5 ct5 : Value}
  {od6 an6 : Option Addr} {sl6 : Array (Option Value)} {oc6 kV6 dc6 pm6 cd6 ct6 : Value}
  {od7 an7 : Option Addr} {sl7 : Array (Option Value)} {oc7 kV7 dc7 pm7 cd7 ct7 : Value}
  {od8 an8 : Option Addr} {sl8 : Array (Option Value)} {oc8 kV8 dc8 pm8 cd8 ct8 : Value}
  {od9 an9 : Option Addr} {sl9 : Array (Option Value)} {oc9 kV9 dc9 pm9 cd9 ct9 : Value}
  {od10 an10 : Option Addr} {sl10 : Array (Option Value)} {oc10 kV10 dc10 pm10 cd10 ct10 : Value}
  {od11 an11 : Option Addr} {sl11 : Array (Option Value)} {oc11 kV11 dc11 pm11 cd11 ct11 : Value}
  {dT11 dP11 : Addr} {dT111 dP111 : Option Addr} {dTn11 dPn11 : Nat} {dT311 dP311 : Array (Option Value)} {dT011 : Value}
  {od12 an12 : Option Addr} {sl12 : Array (Option Value)} {oc12 kV12 dc12 pm12 cd12 ct12 : Value}
  {dT12 dP12 : Addr} {dT112 dP112 : Option Addr} {dTn12 dPn12 : Nat} {dT312 dP312 : Array (Option Value)} {dT012 : Value}
  {od13 an13 : Option Addr} {sl13 : Array (Option Value)} {oc13 kV13 dc13 pm13 cd13 ct13 : Value}
  {od14 an14 : Option Addr} {sl14 : Array (Option Value)} {oc14 kV14 dc14 pm14 cd14 ct14 : Value}
  {od15 an15 : Option Addr} {sl15 : Array (Option Value)} {oc15 kV15 dc15 pm15 cd15 ct15 : Value}
  {od16 an16 : Option Addr} {sl16 : Array (Option Value)} {oc16 kV16 dc16 pm16 cd16 ct16 : Value}
  {od17 an17 : Option Addr} {sl17 : Array (Option Value)} {oc17 kV17 dc17 pm17 cd17 ct17 : Value}
  {od18 an18 : Option Addr} {sl18 : Array (Option Value)} {oc18 kV18 dc18 pm18 cd18 ct18 : Value}
  {od19 an19 : Option Addr} {sl19 : Array (Option Value)} {oc19 kV19 dc19 pm19 cd19 ct19 : Value}
  {od20 an20 : Option Addr} {sl20 : Array (Option Value)} {oc20 kV20 dc20 pm20 cd20 ct20 : Value}
  {od21 an21 : Option Addr} {sl21 : Array (Option Value)} {oc21 kV21 dc21 pm21 cd21 ct21 : Value}
  {od22 an22 : Option Addr} {sl22 : Array (Option Value)} {oc22 kV22 dc22 pm22 cd22 ct22 : Value}
  {od23 an23 : Option Addr} {sl23 : Array (Option Value)} {oc23 kV23 dc23 pm23 cd23 ct23 : Value}
  {od24 an24 : Option Addr} {sl24 : Array (Option Value)} {oc24 kV24 dc24 pm24 cd24 ct24 : Value}
  {od25 an25 : Option Addr} {sl25 : Array (Option Value)} {oc25 kV25 dc25 pm25 cd25 ct25 : Value}
  {od26 an26 : Option Addr} {sl26 : Array (Option Value)} {oc26 kV26 dc26 pm26 cd26 ct26 : Value}
  {od27 an27 : Option Addr} {sl27 : Array (Option Value)} {oc27 kV27 dc27 pm27 cd27 ct27 : Value}
  {gk0 : Addr} {gk10 : Option Addr} {gkn0 : Nat} {gk30 : Array (Option Value)} {gkt0_0 gkt0_1 gkt0_2 gkt0_3 gkt0_4 gkt0_5 gkt0_6 : Tok}
  (qc0 : PySem.W.nsIn K mainGlobals "Kind" = some (some (.ref C0)))
  (pg0 : PySem.W.plainGet K C0 Str.empty = true)
  (hd0 : PySem.W.hasDictIn K C0 = true)
  (po0 : PySem.W.plainOver K C0 = true)
  (sa0 : PySem.W.findIn K (.ref C0) "__setattr__" = some (some (.builtin "object.__setattr__")))
  (mk0 : PySem.W.makesIn K C0 = true)
  (kc0 : PySem.W.keepIn K (.ref C0) = true)
  (qc1 : PySem.W.nsIn K mainGlobals "Policy" = some (some (.ref C1)))
  (pg1 : PySem.W.plainGet K C1 Str.empty = true)
  (hd1 : PySem.W.hasDictIn K C1 = true)
  (po1 : PySem.W.plainOver K C1 = true)
  (sa1 : PySem.W.findIn K (.ref C1) "__setattr__" = some (some (.builtin "object.__setattr__")))
  (mk1 : PySem.W.makesIn K C1 = true)
  (kc1 : PySem.W.keepIn K (.ref C1) = true)
  (qc2 : PySem.W.nsIn K mainGlobals "Reader" = some (some (.ref C2)))
  (pg2 : PySem.W.plainGet K C2 Str.empty = true)
  (hd2 : PySem.W.hasDictIn K C2 = true)
  (po2 : PySem.W.plainOver K C2 = true)
  (sa2 : PySem.W.findIn K (.ref C2) "__setattr__" = some (some (.builtin "object.__setattr__")))
  (mk2 : PySem.W.makesIn K C2 = true)
  (kc2 : PySem.W.keepIn K (.ref C2) = true)
  (ja1 : PySem.W.findIn K (.ref C1) "__class__" = some (some (.builtin "object.__class__")))
  (jm1 : PySem.W.mroIn K C1 (.type "object") = some true)
  (jy1 : PySem.W.typeIn K (.ref C1) = some (.type "type"))
  (en3 : PySem.W.nsIn K mainGlobals "BadText" = some (some (.ref E3)))
  (et3 : PySem.W.typeIn K (.ref E3) = some (.type "type"))
  (ed3 : PySem.W.hasDictIn K E3 = true)
  (eb3 : PySem.W.subIn K (.ref E3) (.type "BaseException") = some true)
  (ek3 : PySem.W.keepIn K (.ref E3) = true)
  (eg3 : PySem.W.findIn K (.ref E3) "__getattribute__" = some (some (.builtin "BaseException.__getattribute__")))
  (ea3 : PySem.W.findIn K (.ref E3) "__getattr__" = some none)
  (ec3 : PySem.W.findIn K (.ref E3) "__class__" = some (some (.builtin "object.__class__")))
  (em3 : PySem.W.mroIn K E3 (.type "object") = some true)
  (zi3 : PySem.W.findIn K (.ref E3) "__init__" = some (some (.ref zf3)))
  (zty3 : PySem.W.typeIn K (.ref zf3) = some (.type "function"))
  (zl3 : K.lookup zf3 = some ⟨zoc3,zo3,.func (PySem.W.ksFn "__init__" "BadText.__init__" (defArgs yZ4) (defBody yZ4) (defScope yZ4) .none zkV3 zdo3 zpm3 zn3 (.ref zd3) zct3 zc3),zs3⟩)
  (zco3 : PySem.W.codeIn K (.ref zd3) "BadText.__init__" = true)
  (zk3 : K.lookup zd3 = some ⟨zdc3,zdd3,.fields zw3,zds3⟩)
  (zw2_3 : zw3[2]? = some (.str zfi3 zt3))
  (zfl3 : ((l.prog.main.file : Str) == zfi3) = true)
  (zce3 : K.lookup zc3 = some ⟨zcc3,zcl3,.cell (some (.ref E3)),zcs3⟩)
  (zm3 : PySem.W.mroIn K E3 (.ref E3) = some true)
  (zsu3 : PySem.W.ks_superIn K E3 E3 "__init__" = some (some (.builtin "ValueError.__init__")))
  (zoe3 : ∃ nm q N bs bm sn sub ab col dd k0 k1 k2 k3 k5,K.lookup E3 = some (excClassObj nm q E3 N bs bm true sn sub ab col dd k0 k1 k2 k3 k5 "ValueError.__new__") ∧ PySem.HandSPX.refsVE bm = true)
  (zsa3 : PySem.W.findIn K (.ref E3) "__setattr__" = some (some (.builtin "object.__setattr__")))
  (zwh3 : PySem.W.findIn K (.ref E3) "at" = some none)
  (zsp : PySem.W.nsIn K mainGlobals "super" = some none)
  (zst : PySem.W.nsIn K cStatics "thirdparty.any" = some none)
  (ztp : (l.prog.main.scope.names.lookup ("super" : Str)).isSome = false)
  (zB3 : PySem.W.subIn K (.ref E3) (.type "ValueError") = some true)
  (jn : PySem.W.specialIn K (.builtin "object.__class__") "__get__" = some (some (.builtin "getset_descriptor.__get__")))
  (jt : PySem.W.takesIn K (.builtin "object.__class__") = some true)
  (jf1 : PySem.W.notFirst K C1 (.ref C1) = true)
  (na0_12 : PySem.W.findIn K (.ref C0) "name" = some none)
  (na0_13 : PySem.W.findIn K (.ref C0) "fields" = some none)
  (na1_28 : PySem.W.findIn K (.ref C1) "cards" = some none)
  (na1_29 : PySem.W.findIn K (.ref C1) "conditions" = some none)
  (na2_31 : PySem.W.findIn K (.ref C2) "words" = some none)
  (na2_32 : PySem.W.findIn K (.ref C2) "at" = some none)
  (na2_20 : PySem.W.findIn K (.ref C2) "kinds" = some none)
  (na2_28 : PySem.W.findIn K (.ref C2) "cards" = some none)
  (q0 : PySem.W.findIn K (.ref C0) "__init__" = some (some (.ref a0)))
  (i0 : PySem.W.isFn K (.ref a0) = true)
  (l0 : K.lookup a0 = some ⟨oc0,od0,.func (PySem.W.fnOf "__init__" "Kind.__init__" (defArgs zZY) (defBody zZY) (defScope zZY) .none kV0 dc0 pm0 an0 cd0 ct0),sl0⟩)
  (c0 : PySem.W.codeIn K cd0 "Kind.__init__" = true)
  (k0 : PySem.W.keepIn K (.ref a0) = true)
  (q1 : PySem.W.nsIn K mainGlobals "kind_named" = some (some (.ref a1)))
  (l1 : K.lookup a1 = some ⟨oc1,od1,.func (PySem.W.fnOf "kind_named" "kind_named" (defArgs zZw) (defBody zZw) (defScope zZw) .none kV1 dc1 pm1 an1 cd1 ct1),sl1⟩)
  (c1 : PySem.W.codeIn K cd1 "kind_named" = true)
  (k1 : PySem.W.keepIn K (.ref a1) = true)
  (q2 : PySem.W.findIn K (.ref C1) "__init__" = some (some (.ref a2)))
  (i2 : PySem.W.isFn K (.ref a2) = true)
  (l2 : K.lookup a2 = some ⟨oc2,od2,.func (PySem.W.fnOf "__init__" "Policy.__init__" (defArgs zZS) (defBody zZS) (defScope zZS) .none kV2 dc2 pm2 an2 cd2 ct2),sl2⟩)
  (c2 : PySem.W.codeIn K cd2 "Policy.__init__" = true)
  (k2 : PySem.W.keepIn K (.ref a2) = true)
  (q3 : PySem.W.findIn K (.ref C1) "__eq__" = some (some (.ref a3)))
  (i3 : PySem.W.isFn K (.ref a3) = true)
  (l3 : K.lookup a3 = some ⟨oc3,od3,.func (PySem.W.fnOf "__eq__" "Policy.__eq__" (defArgs zZZ) (defBody zZZ) (defScope zZZ) .none kV3 dc3 pm3 an3 cd3 ct3),sl3⟩)
  (c3 : PySem.W.codeIn K cd3 "Policy.__eq__" = true)
  (k3 : PySem.W.keepIn K (.ref a3) = true)
  (q4 : PySem.W.nsIn K mainGlobals "is_name" = some (some (.ref a4)))
  (l4 : K.lookup a4 = some ⟨oc4,od4,.func (PySem.W.fnOf "is_name" "is_name" (defArgs yZT) (defBody yZT) (defScope yZT) .none kV4 dc4 pm4 an4 cd4 ct4),sl4⟩)
  (c4 : PySem.W.codeIn K cd4 "is_name" = true)
  (k4 : PySem.W.keepIn K (.ref a4) = true)
  (q5 : PySem.W.nsIn K mainGlobals "number_of" = some (some (.ref a5)))
  (l5 : K.lookup a5 = some ⟨oc5,od5,.func (PySem.W.fnOf "number_of" "number_of" (defArgs zZ8) (defBody zZ8) (defScope zZ8) .none kV5 dc5 pm5 an5 cd5 ct5),sl5⟩)
  (c5 : PySem.W.codeIn K cd5 "number_of" = true)
  (k5 : PySem.W.keepIn K (.ref a5) = true)
  (q6 : PySem.W.findIn K (.ref C2) "__init__" = some (some (.ref a6)))
  (i6 : PySem.W.isFn K (.ref a6) = true)
  (l6 : K.lookup a6 = some ⟨oc6,od6,.func (PySem.W.fnOf "__init__" "Reader.__init__" (defArgs zZR) (defBody zZR) (defScope zZR) .none kV6 dc6 pm6 an6 cd6 ct6),sl6⟩)
  (c6 : PySem.W.codeIn K cd6 "Reader.__init__" = true)
  (k6 : PySem.W.keepIn K (.ref a6) = true)
  (q7 : PySem.W.findIn K (.ref C2) "word" = some (some (.ref a7)))
  (i7 : PySem.W.isFn K (.ref a7) = true)
  (l7 : K.lookup a7 = some ⟨oc7,od7,.func (PySem.W.fnOf "word" "Reader.word" (defArgs zZi) (defBody zZi) (defScope zZi) .none kV7 dc7 pm7 an7 cd7 ct7),sl7⟩)
  (c7 : PySem.W.codeIn K cd7 "Reader.word" = true)
  (k7 : PySem.W.keepIn K (.ref a7) = true)
  (q8 : PySem.W.findIn K (.ref C2) "take" = some (some (.ref a8)))
  (i8 : PySem.W.isFn K (.ref a8) = true)
  (l8 : K.lookup a8 = some ⟨oc8,od8,.func (PySem.W.fnOf "take" "Reader.take" (defArgs zZn) (defBody zZn) (defScope zZn) .none kV8 dc8 pm8 an8 cd8 ct8),sl8⟩)
  (c8 : PySem.W.codeIn K cd8 "Reader.take" = true)
  (k8 : PySem.W.keepIn K (.ref a8) = true)
  (q9 : PySem.W.findIn K (.ref C2) "take_name" = some (some (.ref a9)))
  (i9 : PySem.W.isFn K (.ref a9) = true)
  (l9 : K.lookup a9 = some ⟨oc9,od9,.func (PySem.W.fnOf "take_name" "Reader.take_name" (defArgs zZN) (defBody zZN) (defScope zZN) .none kV9 dc9 pm9 an9 cd9 ct9),sl9⟩)
  (c9 : PySem.W.codeIn K cd9 "Reader.take_name" = true)
  (k9 : PySem.W.keepIn K (.ref a9) = true)
  (q10 : PySem.W.findIn K (.ref C2) "take_number" = some (some (.ref a10)))
  (i10 : PySem.W.isFn K (.ref a10) = true)
  (l10 : K.lookup a10 = some ⟨oc10,od10,.func (PySem.W.fnOf "take_number" "Reader.take_number" (defArgs zZJ) (defBody zZJ) (defScope zZJ) .none kV10 dc10 pm10 an10 cd10 ct10),sl10⟩)
  (c10 : PySem.W.codeIn K cd10 "Reader.take_number" = true)
  (k10 : PySem.W.keepIn K (.ref a10) = true)
  (dl11 : K.lookup dT11 = some ⟨dT011,dT111,.seq #[.ref dP11] dTn11,dT311⟩)
  (dp11 : K.lookup dP11 = some ⟨.type "tuple",dP111,.seq #[] dPn11,dP311⟩)
  (q11 : PySem.W.findIn K (.ref C2) "pairs" = some (some (.ref a11)))
  (i11 : PySem.W.isFn K (.ref a11) = true)
  (l11 : K.lookup a11 = some ⟨oc11,od11,.func (PySem.W.fnOf "pairs" "Reader.pairs" (defArgs zZQ) (defBody zZQ) (defScope zZQ) (.ref dT11) kV11 dc11 pm11 an11 cd11 ct11),sl11⟩)
  (c11 : PySem.W.codeIn K cd11 "Reader.pairs" = true)
  (k11 : PySem.W.keepIn K (.ref a11) = true)
  (dl12 : K.lookup dT12 = some ⟨dT012,dT112,.seq #[.ref dP12] dTn12,dT312⟩)
  (dp12 : K.lookup dP12 = some ⟨.type "tuple",dP112,.seq #[] dPn12,dP312⟩)
  (q12 : PySem.W.findIn K (.ref C2) "take_value" = some (some (.ref a12)))
  (i12 : PySem.W.isFn K (.ref a12) = true)
  (l12 : K.lookup a12 = some ⟨oc12,od12,.func (PySem.W.fnOf "take_value" "Reader.take_value" (defArgs zZH) (defBody zZH) (defScope zZH) (.ref dT12) kV12 dc12 pm12 an12 cd12 ct12),sl12⟩)
  (c12 : PySem.W.codeIn K cd12 "Reader.take_value" = true)
  (k12 : PySem.W.keepIn K (.ref a12) = true)
  (q13 : PySem.W.findIn K (.ref C2) "size" = some (some (.ref a13)))
  (i13 : PySem.W.isFn K (.ref a13) = true)
  (l13 : K.lookup a13 = some ⟨oc13,od13,.func (PySem.W.fnOf "size" "Reader.size" (defArgs zZf) (defBody zZf) (defScope zZf) .none kV13 dc13 pm13 an13 cd13 ct13),sl13⟩)
  (c13 : PySem.W.codeIn K cd13 "Reader.size" = true)
  (k13 : PySem.W.keepIn K (.ref a13) = true)
  (q14 : PySem.W.findIn K (.ref C2) "card" = some (some (.ref a14)))
  (i14 : PySem.W.isFn K (.ref a14) = true)
  (l14 : K.lookup a14 = some ⟨oc14,od14,.func (PySem.W.fnOf "card" "Reader.card" (defArgs zZj) (defBody zZj) (defScope zZj) .none kV14 dc14 pm14 an14 cd14 ct14),sl14⟩)
  (c14 : PySem.W.codeIn K cd14 "Reader.card" = true)
  (k14 : PySem.W.keepIn K (.ref a14) = true)
  (q15 : PySem.W.findIn K (.ref C2) "condition" = some (some (.ref a15)))
  (i15 : PySem.W.isFn K (.ref a15) = true)
  (l15 : K.lookup a15 = some ⟨oc15,od15,.func (PySem.W.fnOf "condition" "Reader.condition" (defArgs zZM) (defBody zZM) (defScope zZM) .none kV15 dc15 pm15 an15 cd15 ct15),sl15⟩)
  (c15 : PySem.W.codeIn K cd15 "Reader.condition" = true)
  (k15 : PySem.W.keepIn K (.ref a15) = true)
  (q16 : PySem.W.nsIn K mainGlobals "read_policy" = some (some (.ref a16)))
  (l16 : K.lookup a16 = some ⟨oc16,od16,.func (PySem.W.fnOf "read_policy" "read_policy" (defArgs zZk) (defBody zZk) (defScope zZk) .none kV16 dc16 pm16 an16 cd16 ct16),sl16⟩)
  (c16 : PySem.W.codeIn K cd16 "read_policy" = true)
  (k16 : PySem.W.keepIn K (.ref a16) = true)
  (q17 : PySem.W.nsIn K mainGlobals "policy_text" = some (some (.ref a17)))
  (l17 : K.lookup a17 = some ⟨oc17,od17,.func (PySem.W.fnOf "policy_text" "policy_text" (defArgs zZh) (defBody zZh) (defScope zZh) .none kV17 dc17 pm17 an17 cd17 ct17),sl17⟩)
  (c17 : PySem.W.codeIn K cd17 "policy_text" = true)
  (k17 : PySem.W.keepIn K (.ref a17) = true)
  (q18 : PySem.W.nsIn K mainGlobals "_law_pool" = some (some (.ref a18)))
  (l18 : K.lookup a18 = some ⟨oc18,od18,.func (PySem.W.fnOf "_law_pool" "_law_pool" (defArgs zZ3) (defBody zZ3) (defScope zZ3) .none kV18 dc18 pm18 an18 cd18 ct18),sl18⟩)
  (c18 : PySem.W.codeIn K cd18 "_law_pool" = true)
  (k18 : PySem.W.keepIn K (.ref a18) = true)
  (q19 : PySem.W.nsIn K mainGlobals "_law_draw" = some (some (.ref a19)))
  (l19 : K.lookup a19 = some ⟨oc19,od19,.func (PySem.W.fnOf "_law_draw" "_law_draw" (defArgs zZ5) (defBody zZ5) (defScope zZ5) .none kV19 dc19 pm19 an19 cd19 ct19),sl19⟩)
  (c19 : PySem.W.codeIn K cd19 "_law_draw" = true)
  (k19 : PySem.W.keepIn K (.ref a19) = true)
  (q20 : PySem.W.nsIn K mainGlobals "_law_same" = some (some (.ref a20)))
  (l20 : K.lookup a20 = some ⟨oc20,od20,.func (PySem.W.fnOf "_law_same" "_law_same" (defArgs zZ6) (defBody zZ6) (defScope zZ6) .none kV20 dc20 pm20 an20 cd20 ct20),sl20⟩)
  (c20 : PySem.W.codeIn K cd20 "_law_same" = true)
  (k20 : PySem.W.keepIn K (.ref a20) = true)
  (q21 : PySem.W.nsIn K mainGlobals "_law_name" = some (some (.ref a21)))
  (l21 : K.lookup a21 = some ⟨oc21,od21,.func (PySem.W.fnOf "_law_name" "_law_name" (defArgs zZ4) (defBody zZ4) (defScope zZ4) .none kV21 dc21 pm21 an21 cd21 ct21),sl21⟩)
  (c21 : PySem.W.codeIn K cd21 "_law_name" = true)
  (k21 : PySem.W.keepIn K (.ref a21) = true)
  (q22 : PySem.W.nsIn K mainGlobals "_law_unlike" = some (some (.ref a22)))
  (l22 : K.lookup a22 = some ⟨oc22,od22,.func (PySem.W.fnOf "_law_unlike" "_law_unlike" (defArgs zZg) (defBody zZg) (defScope zZg) .none kV22 dc22 pm22 an22 cd22 ct22),sl22⟩)
  (c22 : PySem.W.codeIn K cd22 "_law_unlike" = true)
  (k22 : PySem.W.keepIn K (.ref a22) = true)
  (q23 : PySem.W.nsIn K mainGlobals "_law_all_kinds" = some (some (.ref a23)))
  (l23 : K.lookup a23 = some ⟨oc23,od23,.func (PySem.W.fnOf "_law_all_kinds" "_law_all_kinds" (defArgs zZT) (defBody zZT) (defScope zZT) .none kV23 dc23 pm23 an23 cd23 ct23),sl23⟩)
  (c23 : PySem.W.codeIn K cd23 "_law_all_kinds" = true)
  (k23 : PySem.W.keepIn K (.ref a23) = true)
  (q24 : PySem.W.nsIn K mainGlobals "_law_pairs" = some (some (.ref a24)))
  (l24 : K.lookup a24 = some ⟨oc24,od24,.func (PySem.W.fnOf "_law_pairs" "_law_pairs" (defArgs zZz) (defBody zZz) (defScope zZz) .none kV24 dc24 pm24 an24 cd24 ct24),sl24⟩)
  (c24 : PySem.W.codeIn K cd24 "_law_pairs" = true)
  (k24 : PySem.W.keepIn K (.ref a24) = true)
  (q25 : PySem.W.nsIn K mainGlobals "_law_policy" = some (some (.ref a25)))
  (l25 : K.lookup a25 = some ⟨oc25,od25,.func (PySem.W.fnOf "_law_policy" "_law_policy" (defArgs zZl) (defBody zZl) (defScope zZl) .none kV25 dc25 pm25 an25 cd25 ct25),sl25⟩)
  (c25 : PySem.W.codeIn K cd25 "_law_policy" = true)
  (k25 : PySem.W.keepIn K (.ref a25) = true)
  (q26 : PySem.W.nsIn K mainGlobals "_law_words" = some (some (.ref a26)))
  (l26 : K.lookup a26 = some ⟨oc26,od26,.func (PySem.W.fnOf "_law_words" "_law_words" (defArgs zZx) (defBody zZx) (defScope zZx) .none kV26 dc26 pm26 an26 cd26 ct26),sl26⟩)
  (c26 : PySem.W.codeIn K cd26 "_law_words" = true)
  (k26 : PySem.W.keepIn K (.ref a26) = true)
  (q27 : PySem.W.nsIn K mainGlobals "law" = some (some (.ref a27)))
  (l27 : K.lookup a27 = some ⟨oc27,od27,.func (PySem.W.fnOf "law" "law" (defArgs zZCg) (defBody zZCg) (defScope zZCg) .none kV27 dc27 pm27 an27 cd27 ct27),sl27⟩)
  (c27 : PySem.W.codeIn K cd27 "law" = true)
  (k27 : PySem.W.keepIn K (.ref a27) = true)
  (z0 : PySem.W.nsIn K mainGlobals "all" = some none)
  (z1 : PySem.W.nsIn K mainGlobals "bool" = some none)
  (z2 : PySem.W.nsIn K mainGlobals "dict" = some none)
  (z3 : PySem.W.nsIn K mainGlobals "int" = some none)
  (z4 : PySem.W.nsIn K mainGlobals "isinstance" = some none)
  (z5 : PySem.W.nsIn K mainGlobals "len" = some none)
  (z6 : PySem.W.nsIn K mainGlobals "list" = some none)
  (z7 : PySem.W.nsIn K mainGlobals "range" = some none)
  (z8 : PySem.W.nsIn K mainGlobals "str" = some none)
  (z9 : PySem.W.nsIn K mainGlobals "tuple" = some none)
  (gi0 : ∃ t,PySem.W.nsIn K mainGlobals "MOST_CARDS" = some (some (.int 3 t)))
  (gi1 : ∃ t,PySem.W.nsIn K mainGlobals "MOST_CONDITIONS" = some (some (.int 6 t)))
  (gi2 : ∃ t,PySem.W.nsIn K mainGlobals "MOST_ISSUERS" = some (some (.int 3 t)))
  (gs0 : ∃ t,PySem.W.nsIn K mainGlobals "LETTERS" = some (some (.str "abcdefghijklmnopqrstuvwxyz" t)))
  (gka0 : PySem.W.nsIn K mainGlobals "KEYS" = some (some (.ref gk0)))
  (gkb0 : K.lookup gk0 = some ⟨.type "tuple",gk10,.seq #[.str "card" gkt0_0,.str "from" gkt0_1,.str "tell" gkt0_2,.str "equal" gkt0_3,.str "least" gkt0_4,.str "among" gkt0_5,.str "same" gkt0_6] gkn0,gk30⟩)
  (hx : ∀ ns : List Int,ns.length ≤ 63 → ∃ W,(cfgN T 40).call zZIw [.ext ns] [] = .ok (.bl true) W) :
  ∃ fd : FuncData,(∀ (s : Shared) (v : Value),BindsTo s fd ⟨[v],[]⟩ [("_law_script",v)]) ∧ ∀ base : Heap,K.In base → base.Ns mainGlobals mg → FnOk l.prog w K mg base CX0 80 fa fd ["_law_script"] (spLaw K 63):=by
 have e:=hfa.symm.trans (PySem.W.mg_of X G q27)
 cases e
 have K0 : Cls K C0:=⟨pg0,hd0,po0,sa0⟩
 have K1 : Cls K C1:=⟨pg1,hd1,po1,sa1⟩
 have K2 : Cls K C2:=⟨pg2,hd2,po2,sa2⟩
 have F0:=fun_mk (st:=zZY) l0 c0 k0
 have b0:=F0.binds (ps:=["self","name","fields"]) fun _ _ _ _ _ _ us hl=>match us,hl with | [_,_,_],_=>rfl
 have D0 : DefAt (Bt K [C0,C1,C2,E3]) Z K yZf a0:=⟨_,_,zZY,_,["self","name","fields"],["self","name","fields"],.of F0,zZFI,rfl,rfl,b0,.inl rfl,zZFY⟩
 have F1:=fun_mk (st:=zZw) l1 c1 k1
 have b1:=F1.binds (ps:=["kinds","name"]) fun _ _ _ _ _ _ us hl=>match us,hl with | [_,_],_=>rfl
 have D1 : DefAt (Bt K [C0,C1,C2,E3]) Z K zZAF a1:=⟨_,_,zZw,_,["kinds","name","kind"],["kinds","name"],.of F1,zZGv,rfl,rfl,b1,.inl rfl,zZGs⟩
 have F2:=fun_mk (st:=zZS) l2 c2 k2
 have b2:=F2.binds (ps:=["self","cards","conditions"]) fun _ _ _ _ _ _ us hl=>match us,hl with | [_,_,_],_=>rfl
 have D2 : DefAt (Bt K [C0,C1,C2,E3]) Z K zZe a2:=⟨_,_,zZS,_,["self","cards","conditions"],["self","cards","conditions"],.of F2,zZEV,rfl,rfl,b2,.inl rfl,zZEt⟩
 have F3:=fun_mk (st:=zZZ) l3 c3 k3
 have b3:=F3.binds (ps:=["self","other"]) fun _ _ _ _ _ _ us hl=>match us,hl with | [_,_],_=>rfl
 have D3 : DefAt (Bt K [C0,C1,C2,E3]) Z K yZe a3:=⟨_,_,zZZ,_,["self","other"],["self","other"],.of F3,zZFH,rfl,rfl,b3,.inl rfl,zZFc⟩
 have F4:=fun_mk (st:=yZT) l4 c4 k4
 have b4:=F4.binds (ps:=["word"]) fun _ _ _ _ _ _ us hl=>match us,hl with | [_],_=>rfl
 have D4 : DefAt (Bt K [C0,C1,C2,E3]) Z K zZCi a4:=⟨_,_,yZT,_,["word","char"],["word"],.of F4,zZIn,rfl,rfl,b4,.inl rfl,zZIf⟩
 have F5:=fun_mk (st:=zZ8) l5 c5 k5
 have b5:=F5.binds (ps:=["word"]) fun _ _ _ _ _ _ us hl=>match us,hl with | [_],_=>rfl
 have D5 : DefAt (Bt K [C0,C1,C2,E3]) Z K zZBH a5:=⟨_,_,zZ8,_,["word","char"],["word"],.of F5,zZHe,rfl,rfl,b5,.inl rfl,zZG6⟩
 have F6:=fun_mk (st:=zZR) l6 c6 k6
 have b6:=F6.binds (ps:=["self","text","kinds"]) fun _ _ _ _ _ _ us hl=>match us,hl with | [_,_,_],_=>rfl
 have D6 : DefAt (Bt K [C0,C1,C2,E3]) Z K yZP a6:=⟨_,_,zZR,_,["self","text","kinds"],["self","text","kinds"],.of F6,zZEY,rfl,rfl,b6,.inl rfl,zZEa⟩
 have F7:=fun_mk (st:=zZi) l7 c7 k7
 have b7:=F7.binds (ps:=["self"]) fun _ _ _ _ _ _ us hl=>match us,hl with | [_],_=>rfl
 have D7 : DefAt (Bt K [C0,C1,C2,E3]) Z K xZI a7:=⟨_,_,zZi,_,["self"],["self"],.of F7,zZGD,rfl,rfl,b7,.inl rfl,zZGI⟩
 have F8:=fun_mk (st:=zZn) l8 c8 k8
 have b8:=F8.binds (ps:=["self","allowed"]) fun _ _ _ _ _ _ us hl=>match us,hl with | [_,_],_=>rfl
 have D8 : DefAt (Bt K [C0,C1,C2,E3]) Z K zZm a8:=⟨_,_,zZn,_,["self","allowed","word"],["self","allowed"],.of F8,zZGR,rfl,rfl,b8,.inl rfl,zZGN⟩
 have F9:=fun_mk (st:=zZN) l9 c9 k9
 have b9:=F9.binds (ps:=["self","taken"]) fun _ _ _ _ _ _ us hl=>match us,hl with | [_,_],_=>rfl
 have D9 : DefAt (Bt K [C0,C1,C2,E3]) Z K zZO a9:=⟨_,_,zZN,_,["self","taken","word"],["self","taken"],.of F9,zZEO,rfl,rfl,b9,.inl rfl,zZEP⟩
 have F10:=fun_mk (st:=zZJ) l10 c10 k10
 have b10:=F10.binds (ps:=["self","least","most"]) fun _ _ _ _ _ _ us hl=>match us,hl with | [_,_,_],_=>rfl
 have D10 : DefAt (Bt K [C0,C1,C2,E3]) Z K zZK a10:=⟨_,_,zZJ,_,["self","least","most","number"],["self","least","most"],.of F10,zZC0,rfl,rfl,b10,.inl rfl,zZCy⟩
 have S11 : ∀ H,SqT K H dP11 (([] : List Str).map V.str):=fun H=>.inr ⟨_,_,_,dp11,rfl,rfl,by decide,.nil⟩
 have F11 : FunD K "pairs" "Reader.pairs" (defArgs zZQ) (defBody zZQ) (defScope zZQ) [V.ref dP11] [] a11 _:=⟨⟨_,_,_,_,_,_,_,_,_,_,rfl,l11,c11,.inr ⟨by simp,dT11,_,[.ref dP11],_,rfl,dl11,rfl,.cons rfl .nil⟩,.inl rfl⟩,k11⟩
 obtain ⟨ds11,v11,b11⟩:=F11.binds1 (ps:=["self","without"]) 2 1 (by simp) rfl fun _ _ _ _ _ _ _ us its hu hi=>match us,its,hu,hi with | [_,_],[_],_,_=>⟨_,rfl,rfl⟩
 cases v11
 obtain ⟨es11,u11,e11⟩:=F11.binds1 (ps:=["self","without"]) 1 0 (by simp) rfl fun _ _ _ _ _ _ _ us its hu hi=>match us,its,hu,hi with | [_],[_],_,_=>⟨_,rfl,rfl⟩
 have D11 : DefAt (Bt K [C0,C1,C2,E3]) Z K yZ9 a11:=⟨_,_,zZQ,_,["self","without","found","name","kind","_","pair","value"],["self","without"],.ofD F11,zZF4,rfl,rfl,b11,.inr ⟨[V.ref dP11],es11,e11,u11,fun FF eta=>.cons (.kt S11) .nil⟩,zZFw⟩
 have S12 : ∀ H,SqT K H dP12 (([] : List Str).map V.str):=fun H=>.inr ⟨_,_,_,dp12,rfl,rfl,by decide,.nil⟩
 have F12 : FunD K "take_value" "Reader.take_value" (defArgs zZH) (defBody zZH) (defScope zZH) [V.ref dP12] [] a12 _:=⟨⟨_,_,_,_,_,_,_,_,_,_,rfl,l12,c12,.inr ⟨by simp,dT12,_,[.ref dP12],_,rfl,dl12,rfl,.cons rfl .nil⟩,.inl rfl⟩,k12⟩
 obtain ⟨ds12,v12,b12⟩:=F12.binds1 (ps:=["self","without"]) 2 1 (by simp) rfl fun _ _ _ _ _ _ _ us its hu hi=>match us,its,hu,hi with | [_,_],[_],_,_=>⟨_,rfl,rfl⟩
 cases v12
 obtain ⟨es12,u12,e12⟩:=F12.binds1 (ps:=["self","without"]) 1 0 (by simp) rfl fun _ _ _ _ _ _ _ us its hu hi=>match us,its,hu,hi with | [_],[_],_,_=>⟨_,rfl,rfl⟩
 have D12 : DefAt (Bt K [C0,C1,C2,E3]) Z K yZI a12:=⟨_,_,zZH,_,["self","without","pairs","card","pair"],["self","without"],.ofD F12,zZDl,rfl,rfl,b12,.inr ⟨[V.ref dP12],es12,e12,u12,fun FF eta=>.cons (.kt S12) .nil⟩,zZC5⟩
 have F13:=fun_mk (st:=zZf) l13 c13 k13
 have b13:=F13.binds (ps:=["self","pair"]) fun _ _ _ _ _ _ us hl=>match us,hl with | [_,_],_=>rfl
 have D13 : DefAt (Bt K [C0,C1,C2,E3]) Z K xZL a13:=⟨_,_,zZf,_,["self","pair","kinds","name","kind","_"],["self","pair"],.of F13,zZGH,rfl,rfl,b13,.inl rfl,zZGJ⟩
 have F14:=fun_mk (st:=zZj) l14 c14 k14
 have b14:=F14.binds (ps:=["self"]) fun _ _ _ _ _ _ us hl=>match us,hl with | [_],_=>rfl
 have D14 : DefAt (Bt K [C0,C1,C2,E3]) Z K zZBT a14:=⟨_,_,zZj,_,["self","name","kind","issuers","row","own"],["self"],.of F14,zZGK,rfl,rfl,b14,.inl rfl,zZGL⟩
 have F15:=fun_mk (st:=zZM) l15 c15 k15
 have b15:=F15.binds (ps:=["self"]) fun _ _ _ _ _ _ us hl=>match us,hl with | [_],_=>rfl
 have D15 : DefAt (Bt K [C0,C1,C2,E3]) Z K yZ2 a15:=⟨_,_,zZM,_,["self","word","count","pair","numbers"],["self"],.of F15,zZEN,rfl,rfl,b15,.inl rfl,zZEQ⟩
 have F16:=fun_mk (st:=zZk) l16 c16 k16
 have b16:=F16.binds (ps:=["text","kinds"]) fun _ _ _ _ _ _ us hl=>match us,hl with | [_,_],_=>rfl
 have D16 : DefAt (Bt K [C0,C1,C2,E3]) Z K zZBU a16:=⟨_,_,zZk,_,["text","kinds","reader","conditions"],["text","kinds"],.of F16,zZGO,rfl,rfl,b16,.inl rfl,zZGC⟩
 have F17:=fun_mk (st:=zZh) l17 c17 k17
 have b17:=F17.binds (ps:=["policy"]) fun _ _ _ _ _ _ us hl=>match us,hl with | [_],_=>rfl
 have D17 : DefAt (Bt K [C0,C1,C2,E3]) Z K xZH a17:=⟨_,_,zZh,_,["policy","words","condition","name","kind","issuers","part","number"],["policy"],.of F17,zZGF,rfl,rfl,b17,.inl rfl,zZGM⟩
 have F18:=fun_mk (st:=zZ3) l18 c18 k18
 have b18:=F18.binds (ps:=["_law_script","_law_budget"]) fun _ _ _ _ _ _ us hl=>match us,hl with | [_,_],_=>rfl
 have D18 : DefAt (Bt K [C0,C1,C2,E3]) Z K zZBK a18:=⟨_,_,zZ3,_,["_law_script","_law_budget"],["_law_script","_law_budget"],.of F18,zZG8,rfl,rfl,b18,.inl rfl,zZHj⟩
 have F19:=fun_mk (st:=zZ5) l19 c19 k19
 have b19:=F19.binds (ps:=["_law_pool_here","_law_size"]) fun _ _ _ _ _ _ us hl=>match us,hl with | [_,_],_=>rfl
 have D19 : DefAt (Bt K [C0,C1,C2,E3]) Z K zZBI a19:=⟨_,_,zZ5,_,["_law_pool_here","_law_size","_law_cell","_law_value"],["_law_pool_here","_law_size"],.of F19,zZHi,rfl,rfl,b19,.inl rfl,zZHY⟩
 have F20:=fun_mk (st:=zZ6) l20 c20 k20
 have b20:=F20.binds (ps:=["_law_actual","_law_due"]) fun _ _ _ _ _ _ us hl=>match us,hl with | [_,_],_=>rfl
 have D20 : DefAt (Bt K [C0,C1,C2,E3]) Z K zZ7 a20:=⟨_,_,zZ6,_,["_law_actual","_law_due","_law_k"],["_law_actual","_law_due"],.of F20,zZHh,rfl,rfl,b20,.inl rfl,zZHM⟩
 have F21:=fun_mk (st:=zZ4) l21 c21 k21
 have b21:=F21.binds (ps:=["_law_pool_here"]) fun _ _ _ _ _ _ us hl=>match us,hl with | [_],_=>rfl
 have D21 : DefAt (Bt K [C0,C1,C2,E3]) Z K zZ9 a21:=⟨_,_,zZ4,_,["_law_pool_here","_law_name_here","_law_k"],["_law_pool_here"],.of F21,zZHP,rfl,rfl,b21,.inl rfl,zZHO⟩
 have F22:=fun_mk (st:=zZg) l22 c22 k22
 have b22:=F22.binds (ps:=["_law_pool_here","_law_count"]) fun _ _ _ _ _ _ us hl=>match us,hl with | [_,_],_=>rfl
 have D22 : DefAt (Bt K [C0,C1,C2,E3]) Z K xZK a22:=⟨_,_,zZg,_,["_law_pool_here","_law_count","_law_names","_law_k","_law_name_here","_law_other"],["_law_pool_here","_law_count"],.of F22,zZF9,rfl,rfl,b22,.inl rfl,zZGG⟩
 have F23:=fun_mk (st:=zZT) l23 c23 k23
 have b23:=F23.binds (ps:=["_law_pool_here"]) fun _ _ _ _ _ _ us hl=>match us,hl with | [_],_=>rfl
 have D23 : DefAt (Bt K [C0,C1,C2,E3]) Z K zZs a23:=⟨_,_,zZT,_,["_law_pool_here","_law_kinds","_law_name_here","_law_fields","_law_field"],["_law_pool_here"],.of F23,zZE1,rfl,rfl,b23,.inl rfl,zZE2⟩
 have F24:=fun_mk (st:=zZz) l24 c24 k24
 have b24:=F24.binds (ps:=["_law_kinds","_law_cards"]) fun _ _ _ _ _ _ us hl=>match us,hl with | [_,_],_=>rfl
 have D24 : DefAt (Bt K [C0,C1,C2,E3]) Z K zZAI a24:=⟨_,_,zZz,_,["_law_kinds","_law_cards","_law_found","_law_name_here","_law_kind","_law_issuers","_law_fields","_law_own","_law_field","_law_size"],["_law_kinds","_law_cards"],.of F24,zZGu,rfl,rfl,b24,.inl rfl,zZGq⟩
 have F25:=fun_mk (st:=zZl) l25 c25 k25
 have b25:=F25.binds (ps:=["_law_pool_here","_law_kinds"]) fun _ _ _ _ _ _ us hl=>match us,hl with | [_,_],_=>rfl
 have D25 : DefAt (Bt K [C0,C1,C2,E3]) Z K xZF a25:=⟨_,_,zZl,_,["_law_pool_here","_law_kinds","_law_cards","_law_name_here","_law_conditions","_law_pairs_here","_law_k","_law_kind","_law_way","_law_others","_law_pair","_law_size","_law_numbers","_law_other","_law_more","_law_number"],["_law_pool_here","_law_kinds"],.of F25,zZGT,rfl,rfl,b25,.inl rfl,zZF7⟩
 have F26:=fun_mk (st:=zZx) l26 c26 k26
 have b26:=F26.binds (ps:=["_law_policy_here"]) fun _ _ _ _ _ _ us hl=>match us,hl with | [_],_=>rfl
 have D26 : DefAt (Bt K [C0,C1,C2,E3]) Z K zZAD a26:=⟨_,_,zZx,_,["_law_policy_here","_law_words_here","_law_row","_law_name_here","_law_kind","_law_issuers","_law_number"],["_law_policy_here"],.of F26,zZGt,rfl,rfl,b26,.inl rfl,zZGp⟩
 have F27:=fun_mk (st:=zZCg) l27 c27 k27
 have b27:=F27.binds (ps:=["_law_script"]) fun _ _ _ _ _ _ us hl=>match us,hl with | [_],_=>rfl
 have D27 : DefAt (Bt K [C0,C1,C2,E3]) Z K f_law fa:=⟨_,_,zZCg,_,["_law_script","_law_pool_here","_law_kinds","_law_made","_law_policy_here","_law_text","_law_actual","_law_again","_law_other","_law_strange","_law_cards","_law_pairs_here","_law_more","_law_name_here","_law_kind","_law_issuers","_law_fields","_law_row"],["_law_script"],.of F27,zZJ1,rfl,rfl,b27,.inl rfl,zZJi⟩
 have H3 : ∀ (w : World) (base : Heap),RaeAt (Bt K [C0,C1,C2,E3]) l.prog w K mg base 3 (PySem.Str.ofString "BadText"):=by
  intro w base
  obtain ⟨p0,p1,p2,p3,p4,p5,p6,p7,p8,p9,j,m,e1,e2⟩:=zZIo
  have lk:=zl3
  rw [e1] at lk
  exact ⟨PySem.W.mg_of X G en3,⟨zoe3,zsa3,eb3,et3,ek3⟩,zf3,_,["self","at"],zi3,zty3,zZKJ e2 lk zco3 rfl rfl rfl rfl rfl rfl rfl zZIu zZIl rfl rfl rfl rfl rfl zk3 zw2_3 zfl3 zce3 zm3 (PySem.W.mg_none_of X G zsp) ztp zst zsu3 zB3 ⟨zoe3,zsa3,eb3,et3,ek3⟩ zwh3,.all fun us hl=>match us,hl with | [_,_],_=>rfl⟩
 have S : Sets l.prog Z T (Bt K [C0,C1,C2,E3]) K mg (FL [a1,a3,a4,a5,a7,a8,a9,a10,a11,a12,a13,a14,a15,a16,a17,a18,a19,a20,a21,a22,a23,a24,a25,a26,fa]) (FL [a0,a2,a6]):=by
  refine ⟨fun f F hf => ?_,fun c F hc => ?_,fun f x hf => ?_,fun c m f hm => ?_,fun c x hc => ?_,fun c f hf => ?_,fun x hx => ?_,fun x i hi => ?_,fun x s hs => ?_,fun x ws hw => ?_,fun a ws H q=>q H,rfl,fun a ns H q=>q H,fun c c' r hr => ?_,fun c c' f hf => ?_,fun c c' f hf => ?_,fun k c b hb => ?_,fun k c b hb => ?_,fun c x hx => ?_,fun c x hx => ?_,fun c x hx w base => ?_,fun f x hf => ?_,fun k f hf => ?_,fun k b hb => ?_⟩
  ·have A : AllD (Bt K [C0,C1,C2,E3]) Z K (FL [a1,a3,a4,a5,a7,a8,a9,a10,a11,a12,a13,a14,a15,a16,a17,a18,a19,a20,a21,a22,a23,a24,a25,a26,fa]) 0 fnL:=⟨D1,D3,D4,D5,D7,D8,D9,D10,D11,D12,D13,D14,D15,D16,D17,D18,D19,D20,D21,D22,D23,D24,D25,D26,D27,trivial⟩
   have q:=A.get (j:=f) (F:=F) hf
   rwa [Nat.zero_add] at q
  ·have A : AllD (Bt K [C0,C1,C2,E3]) Z K (FL [a0,a2,a6]) 0 iniL:=⟨D0,D2,D6,trivial⟩
   have q:=A.get (j:=c) (F:=F) hc
   rwa [Nat.zero_add] at q
  ·have A : AllN (fun i x=>mg x = some (.ref (FL [a1,a3,a4,a5,a7,a8,a9,a10,a11,a12,a13,a14,a15,a16,a17,a18,a19,a20,a21,a22,a23,a24,a25,a26,fa] i)) ∧ PySem.W.keepIn K (.ref (FL [a1,a3,a4,a5,a7,a8,a9,a10,a11,a12,a13,a14,a15,a16,a17,a18,a19,a20,a21,a22,a23,a24,a25,a26,fa] i)) = true) 0 fnmL:=⟨⟨PySem.W.mg_of X G q1,k1⟩,⟨PySem.W.mg_of X G q4,k4⟩,⟨PySem.W.mg_of X G q5,k5⟩,⟨PySem.W.mg_of X G q16,k16⟩,⟨PySem.W.mg_of X G q17,k17⟩,⟨PySem.W.mg_of X G q18,k18⟩,⟨PySem.W.mg_of X G q19,k19⟩,⟨PySem.W.mg_of X G q20,k20⟩,⟨PySem.W.mg_of X G q21,k21⟩,⟨PySem.W.mg_of X G q22,k22⟩,⟨PySem.W.mg_of X G q23,k23⟩,⟨PySem.W.mg_of X G q24,k24⟩,⟨PySem.W.mg_of X G q25,k25⟩,⟨PySem.W.mg_of X G q26,k26⟩,⟨PySem.W.mg_of X G q27,k27⟩,trivial⟩
   have q:=A.get (j:=f) (x:=x) hf
   rwa [Nat.zero_add] at q
  ·have A : AllP (fun e=>e.1.2 < 67 ∧ Cls K (FL [C0,C1,C2,E3] e.1.1) ∧ Meth K (FL [C0,C1,C2,E3] e.1.1) (anm e.1.2) (FL [a1,a3,a4,a5,a7,a8,a9,a10,a11,a12,a13,a14,a15,a16,a17,a18,a19,a20,a21,a22,a23,a24,a25,a26,fa] e.2)) methL:=⟨⟨by decide,K2,⟨q14,i14,k14⟩⟩,⟨by decide,K2,⟨q7,i7,k7⟩⟩,⟨by decide,K2,⟨q15,i15,k15⟩⟩,⟨by decide,K2,⟨q8,i8,k8⟩⟩,⟨by decide,K2,⟨q9,i9,k9⟩⟩,⟨by decide,K2,⟨q11,i11,k11⟩⟩,⟨by decide,K2,⟨q12,i12,k12⟩⟩,⟨by decide,K2,⟨q10,i10,k10⟩⟩,⟨by decide,K2,⟨q13,i13,k13⟩⟩,trivial⟩
   exact A.mem (a:=((c,m),f)) (zZL hm)
  ·have A : AllN (fun i x=>mg x = some (.ref (FL [C0,C1,C2,E3] i)) ∧ Mk K (FL [C0,C1,C2,E3] i) (FL [a0,a2,a6] i)) 0 cnmL:=⟨⟨PySem.W.mg_of X G qc0,⟨mk0,q0,i0,kc0⟩⟩,⟨PySem.W.mg_of X G qc1,⟨mk1,q2,i2,kc1⟩⟩,⟨PySem.W.mg_of X G qc2,⟨mk2,q6,i6,kc2⟩⟩,trivial⟩
   have q:=A.get (j:=c) (x:=x) hc
   rwa [Nat.zero_add] at q
  ·have A : AllP (fun e=>e.2 < 67 ∧ Cls K (FL [C0,C1,C2,E3] e.1) ∧ NoAttr K (FL [C0,C1,C2,E3] e.1) (anm e.2)) fldL:=⟨⟨by decide,K0,na0_12⟩,⟨by decide,K0,na0_13⟩,⟨by decide,K1,na1_28⟩,⟨by decide,K1,na1_29⟩,⟨by decide,K2,na2_31⟩,⟨by decide,K2,na2_32⟩,⟨by decide,K2,na2_20⟩,⟨by decide,K2,na2_28⟩,trivial⟩
   exact A.mem (a:=(c,f)) (List.contains_iff_mem.mp hf)
  ·have A : AllP (fun x=>mg x = none) bltL:=⟨PySem.W.mg_none_of X G z0,PySem.W.mg_none_of X G z1,PySem.W.mg_none_of X G z2,PySem.W.mg_none_of X G z3,PySem.W.mg_none_of X G z4,PySem.W.mg_none_of X G z5,PySem.W.mg_none_of X G z6,PySem.W.mg_none_of X G z7,PySem.W.mg_none_of X G z8,PySem.W.mg_none_of X G z9,trivial⟩
   exact A.mem hx
  ·have A : AllP (fun e : Str × Int => ∃ t,mg e.1 = some (.int e.2 t)) giL:=⟨(gi0).imp fun _ z=>PySem.W.mg_of X G z,(gi1).imp fun _ z=>PySem.W.mg_of X G z,(gi2).imp fun _ z=>PySem.W.mg_of X G z,trivial⟩
   exact A.mem (a:=(x,i)) (zZL hi)
  ·have A : AllP (fun e : Str × Str => ∃ t,mg e.1 = some (.str e.2 t)) gsL:=⟨(gs0).imp fun _ z=>PySem.W.mg_of X G z,trivial⟩
   exact A.mem (a:=(x,s)) (zZL hs)
  ·have A : AllP (fun e : Str × List Str => ∃ a,mg e.1 = some (.ref a) ∧ (Bt K [C0,C1,C2,E3]).kt a e.2) gkL:=⟨⟨gk0,PySem.W.mg_of X G gka0,fun H=>.inr ⟨_,_,_,gkb0,rfl,rfl,(by show (7 : Nat) ≤ sizeLine; decide),(.cons ⟨_,rfl⟩ (.cons ⟨_,rfl⟩ (.cons ⟨_,rfl⟩ (.cons ⟨_,rfl⟩ (.cons ⟨_,rfl⟩ (.cons ⟨_,rfl⟩ (.cons ⟨_,rfl⟩ .nil)))))))⟩⟩,trivial⟩
   exact A.mem (a:=(x,ws)) (zZL hw)
  ·have A : AllP (fun e : (Nat × Nat) × Bool=>IscAt K (FL [C0,C1,C2,E3] e.1.1) (FL [C0,C1,C2,E3] e.1.2) e.2) iscL:=⟨⟨K1,ja1,jn,jt,jm1,zZJ7,zZKI jy1 hd1⟩,trivial⟩
   exact A.mem (a:=((c,c'),r)) (zZL hr)
  ·have A : AllP (fun e : (Nat × Nat) × Nat=>(PySem.W.findIn K (.ref (FL [C0,C1,C2,E3] e.1.1)) "__ne__" = some (some (.builtin "object.__ne__")) ∧ PySem.W.mroIn K (FL [C0,C1,C2,E3] e.1.1) (.type "object") = some true ∧ PySem.W.subIn K (.ref (FL [C0,C1,C2,E3] e.1.1)) (.type "NoneType") = some false) ∧ PySem.W.findIn K (.ref (FL [C0,C1,C2,E3] e.1.1)) "__eq__" = some (some (.ref (FL [a1,a3,a4,a5,a7,a8,a9,a10,a11,a12,a13,a14,a15,a16,a17,a18,a19,a20,a21,a22,a23,a24,a25,a26,fa] e.2))) ∧ PySem.W.isFn K (.ref (FL [a1,a3,a4,a5,a7,a8,a9,a10,a11,a12,a13,a14,a15,a16,a17,a18,a19,a20,a21,a22,a23,a24,a25,a26,fa] e.2)) = true ∧ PySem.W.notFirst K (FL [C0,C1,C2,E3] e.1.1) (.ref (FL [C0,C1,C2,E3] e.1.2)) = true) nemL:=trivial
   exact A.mem (a:=((c,c'),f)) (zZL hf)
  ·have A : AllP (fun e : (Nat × Nat) × Nat=>PySem.W.findIn K (.ref (FL [C0,C1,C2,E3] e.1.1)) "__eq__" = some (some (.ref (FL [a1,a3,a4,a5,a7,a8,a9,a10,a11,a12,a13,a14,a15,a16,a17,a18,a19,a20,a21,a22,a23,a24,a25,a26,fa] e.2))) ∧ PySem.W.isFn K (.ref (FL [a1,a3,a4,a5,a7,a8,a9,a10,a11,a12,a13,a14,a15,a16,a17,a18,a19,a20,a21,a22,a23,a24,a25,a26,fa] e.2)) = true ∧ PySem.W.notFirst K (FL [C0,C1,C2,E3] e.1.1) (.ref (FL [C0,C1,C2,E3] e.1.2)) = true) eqmL:=⟨⟨q3,i3,jf1⟩,trivial⟩
   exact A.mem (a:=((c,c'),f)) (zZL hf)
  ·have A : AllP (fun e : (Nat × Nat) × Bool=>PySem.W.exmOne K (.ref (FL [C0,C1,C2,E3] e.1.1)) (.ref (FL [C0,C1,C2,E3] e.1.2)) = some e.2) xmL:=trivial
   exact A.mem (a:=((k,c),b)) (zZL hb)
  ·have A : AllP (fun e : (Nat × Nat) × Bool=>L2.ExcC K (FL [C0,C1,C2,E3] e.1.1) ∧ PySem.W.kitOne K (.ref (FL [C0,C1,C2,E3] e.1.1)) (.ref (FL [C0,C1,C2,E3] e.1.2)) = some e.2) xisTL:=trivial
   exact A.mem (a:=((k,c),b)) (zZL hb)
  ·have A : AllP (fun e : Nat × Str=>mg e.2 = some (.ref (FL [C0,C1,C2,E3] e.1))) xnmL:=trivial
   exact A.mem (a:=(c,x)) (zZL hx)
  ·have A : AllP (fun e : Nat × Str=>RaiAt K mg (FL [C0,C1,C2,E3] e.1) e.2) rnmL:=trivial
   exact A.mem (a:=(c,x)) (zZL hx)
  ·have A : AllP (fun e : Nat × Str => ∀ (w : World) (base : Heap),RaeAt (Bt K [C0,C1,C2,E3]) l.prog w K mg base e.1 e.2) enmL:=⟨H3,trivial⟩
   exact A.mem (a:=(c,x)) (zZL hx) w base
  ·have A : AllP (fun e : Nat × Str=>mg e.2 = some (.ref (FL [a1,a3,a4,a5,a7,a8,a9,a10,a11,a12,a13,a14,a15,a16,a17,a18,a19,a20,a21,a22,a23,a24,a25,a26,fa] e.1)) ∧ ∃ F,fnL[e.1]? = some F ∧ DefAtH Z K F (FL [a1,a3,a4,a5,a7,a8,a9,a10,a11,a12,a13,a14,a15,a16,a17,a18,a19,a20,a21,a22,a23,a24,a25,a26,fa] e.1)) hnmL:=trivial
   exact A.mem (a:=(f,x)) (zZL hf)
  ·have A : AllP (fun e : Nat × Nat=>(Bt K [C0,C1,C2,E3]).xf e.1 = e.2 ∧ XfC K (FL [C0,C1,C2,E3] e.1) ∧ PySem.W.findIn K (.ref (FL [C0,C1,C2,E3] e.1)) (anm e.2) = some none) xfL:=⟨⟨rfl,⟨eg3,ea3,eb3,ed3⟩,zwh3⟩,trivial⟩
   exact A.mem (a:=(k,f)) (zZL hf)
  ·have A : AllP (fun e : Nat × Bool=>L2.ExcC K (FL [C0,C1,C2,E3] e.1) ∧ PySem.W.kitOne K (.ref (FL [C0,C1,C2,E3] e.1)) (.type "ValueError") = some e.2) xivL:=trivial
   exact A.mem (a:=(k,b)) (zZL hb)
 exact ⟨_,fun s v=>.of_eq rfl,fun base _ _=>zZNM (fa:=FL [a1,a3,a4,a5,a7,a8,a9,a10,a11,a12,a13,a14,a15,a16,a17,a18,a19,a20,a21,a22,a23,a24,a25,a26,fa]) (ia:=FL [a0,a2,a6]) (f:=zZIw) S 39 rfl F27 zZJ1 rfl rfl zZJi rfl rfl hx⟩
theorem walk {l : PySem.W.OpenLaw} {q : Program} {loose : List Str} {XP : (Str → Option Value) → Heap → Prop} {YP : World → Heap → Prop} {d : DefRec} {K : Params → PySem.W.Frag} (hn : l.most = some 63) (hdf : d.params.defaults = [])
  (hY : ∀ (w : World) (h : Heap),YP w h → (K w.params).In h)
  (F : ∀ (w : World) (mg : Str → Option Value) (fa : Addr) (h : Heap),(K w.params).In h → h.Ns mainGlobals mg → mg d.name = some (.ref fa) →
   ∃ fd : FuncData,(∀ (s : Shared) (u : Value),BindsTo s fd ⟨[u],[]⟩ [("_law_script",u)]) ∧ ∀ base : Heap,(K w.params).In base → base.Ns mainGlobals mg → FnOk l.prog w (K w.params) mg base CX0 80 fa fd ["_law_script"] (spLaw (K w.params) 63)) :
  PySem.W.WalkO q loose XP YP l.row.toRowW d [] (fun f vs=>PySem.call f vs) :=
 L2.walk_of (n:=63) (k:=80) (x := "_law_script") (CX:=fun _=>CX0) (sp:=fun w=>spLaw (K w.params) 63) hn (by decide) hdf ⟨rfl,by decide,by decide⟩ hY F (fun _ _ a ns hl hO hS=>⟨a,ns,rfl,hS,hl,hO,fun _=>rfl⟩) fun _ _ _ _ _ z=>z
end Gen
namespace PL
open DL Gen
open PySem (Str PyData)
local macro_rules | `(tactic| walk_at "ev0") => `(tactic| simp -implicitDefEqProofs (disch:=first | assumption | omega | (simp only [List.length_cons,List.length_nil,List.length_append,List.length_map]; done) | (simp only [List.length_cons,List.length_nil,List.length_append,List.length_map,limI,cap]; omega) | decide) only [yZS,zZAe,zZBE,zZEK,v_bl,zZDX,zZDv,zZDF,zZC6,zZC2,xZq,v_in,zZBC,v_eq,v_ne,v_lt,v_le,v_gt,v_ge,v_is,zZBB,
 zZEA,zZBA,zZDs,v_or,zZCZ,zZD7,zZCI,zZDc,zZDf,zZEI,zZEH,zZDh,v_sl,zZDU,zZAb,zZDr,zZBy,zZBu,zZCB,zZBf,zZBl,zZDu,zZAu,zZEC,zZDW,zZD6,zZD5,zZAi,zZAm,zZDy,zZDb,yZn,zZBt,yZ1,zZB9,zZAc,xZy,xZw,zZDM,zZDT,E.isVar,zZA3,xZT,zZAv,zZCa,zZA2,xZW,zZCU,
 v_of,zZD8,zZDV,zZB2,zZB0,zZDP,zZBk,zZAU,zZAz,zZAV,zZA8,yZ3,zZEE,zZA5,zZCH,xZ2,zZBw,zZDD,zZC7,zZAj,zZDp,zZt,zZCP,xZb,xZZ,zZA0,zZD3,xZu,yZj,zZBo,zZCY,zZCA,zZBg,zZBp,zZBv,zZCX,zZCd,xZ8,zZDt,xZr,zZCN,zZCF,
 zZAy,xZs,yZN,yZb,zZDE,zZCW,zZAp,zZAs,xZx,zZDI,zZDR,zZD4,zZBh,zZDJ,zZDK,c_lt,c_le,c_gt,c_ge,zZDd,zZDe,zZDB,zZD0,zZC8,zZDn,zZD1,zZDa,t_bl,zZDN,zZDm,zZDi,zZDG,zZDO,zZDY,zZC4,zZDx,yZC,yZt,zZED,zZCO,zZEG,zZEF,k_bl,
 zZCe,xZP,xZh,zZ1,zZA7,zZAa,zZAY,zZX,Option.bind_some,Option.map_some,List.getElem?_cons_zero,List.getElem?_cons_succ,List.set_cons_zero,List.set_cons_succ,List.map_cons,List.map_nil,List.length_cons,List.length_nil,List.cons_append,List.nil_append,List.replicate,
 decide_eq_true_eq,Int.reduceSub,Int.reduceAdd,Int.reduceNeg,Int.reduceLT,Int.reduceLE,Int.reduceEq,Nat.reduceAdd,Nat.reduceSub,List.getElem?_set,List.length_set,List.length_map,List.set_set,eq_self,Bool.false_eq_true,Int.reduceToNat,Int.toNat_natCast,Int.reducePow,Option.map_some,tyD,decide_true,decide_false,if_true,if_false,Bool.not_true,Bool.not_false,zZA9,zZAd,zZBx,xZg,zZCL,zZAS,yZ0,zZAL,zZAr,yZz,yZU,zZAg,zZAX,zZDg,zZAW,zZAf,xZQ,xZo,zZA1,yZs,zZBn,zZCS,zZAl,xZj,zZAt,yZi,zZAQ,Option.isNone_none,Option.isNone_some,Nat.reduceEqDiff,Nat.reduceLT,xZA,yZZ,zZCJ,zZAw,yZo,yZg,zZAx,zZAR,zZDw,zZAk,zZAZ,yZq,R.calm_ok,zZB3,zZDS,zZCV,zZAn,zZAO,zZDA,zZB8,yZh,yZl,zZCG,zZDC,zZDH,zZAT,zZAq,zZAN,zZAo,zZAP,zZBj,zZBe,xZO,xZ4,xZa,yZw,xZX,xZz,zZAK,xZe,zZCR,zZB7,yZx,yZr,yZX,v_gs,v_gk,zZEB,zZDo,zZDZ,zZB1,xZi,zZDQ,zZCQ,zZA6,zZBs,yZp,yZm,yZk,xZS,xZv,xZR,xZ1,xZt,xZV,xZk,xZn,xZ0,xZN,xZd,xZY,xZl,xZ3,xZc,xZf,xZm,zZDq,zZEJ,zZDL,zZDz,zZC1,zZCE, *])
def poolC (ns : List Int) (i a s k : Int) (b : D) : Cell:=.lst [.lst (ns.map D.int),.int i,.int a,.int s,.int k,b]
theorem zZ0 {W : Wd} {p : Nat} {c : Cell} (h : W[p]? = some c) : p < W.length:=(List.getElem?_eq_some_iff.mp h).1
theorem zZJ8 (n : Nat) (W : Wd) (p : Nat) (z : Int) (ns : List Int) (i a s k : Int) (b : D) (h : W[p]? = some (poolC ns i a s k b)) (h0 : 0 ≤ i) (h1 : 0 < z) (h2 : z < 1073741824) :
  ∃ v i' a' s' k',(cfgN T (n + 1)).call zZB [.own p,.int z] W = .ok (.int v) (W.set p (poolC ns i' a' s' k' b)) ∧ 0 ≤ v ∧ v < z ∧ 0 ≤ i':=by
 rw [zZE (F:=zZBI) rfl]
 have hp:=zZ0 h
 unfold poolC at h ⊢
 simp only [zZBI,zZCn]
 have hz : 0 < z ∧ z < 1073741824:=⟨h1,h2⟩
 have fin : ∀ (x : Int) (i' a' s' k' : Int),0 ≤ i' → ∃ v j a2 s2 k2,(R.ok (D.int (x % z)) (W.set p (poolC ns i' a' s' k' b)) : R D) = .ok (.int v) (W.set p (poolC ns j a2 s2 k2 b)) ∧ 0 ≤ v ∧ v < z ∧ 0 ≤ j :=
  fun x i' a' s' k' hi=>⟨_,i',a',s',k',rfl,Int.emod_nonneg _ (by omega),Int.emod_lt_of_pos _ h1,hi⟩
 by_cases ca : a ≤ 0
 ·have na : ¬ 0 < a:=by omega
  by_cases ck : k ≤ 0
  ·by_cases ci : i < (ns.length : Int)
   ·by_cases cb : 1000000000000000000 ≤ ns.getD i.toNat 0
    ·have pb : 0 < ns.getD i.toNat 0:=by omega
     walk_at "ev0"
     exact fin _ _ _ _ _ (by omega)
    ·walk_at "ev0"
     exact fin _ _ _ _ _ (by omega)
   ·walk_at "ev0"
    exact fin _ _ _ _ _ (by omega)
  ·walk_at "ev0"
   exact fin _ _ _ _ _ (by omega)
 ·have na : 0 < a:=by omega
  walk_at "ev0"
  exact fin _ _ _ _ _ (by omega)
def Pool (W : Wd) (p : Nat) : Prop := ∃ ns i a s k b,W[p]? = some (poolC ns i a s k b) ∧ 0 ≤ i
theorem zZKB (n : Nat) (ns : List Int) (W : Wd) : (cfgN T (n + 1)).call zZE8 [.ext ns,.int 0] W = .ok (.own W.length) (W ++ [poolC ns 0 0 1 0 (.int 0)]):=by
 rw [zZE (F:=zZBK) rfl]
 unfold poolC
 simp only [zZBK,zZCp]
 have e1 : evF (cfgN T n) (.scr 0) [Slot.val (D.ext ns),Slot.val (D.int 0)] W = .ok (ns.map D.int) W:=zZNq rfl
 walk_at "ev0"
 rfl
theorem zZEx (n : Nat) (a b : Bool) (W : Wd) : (cfgN T (n + 1)).call zZI [.bl a,.bl b] W = .ok (.bl (decide (a = b))) W:=by
 rw [zZE (F:=zZ7) rfl]
 simp only [zZ7,yZA]
 walk_at "ev0"
def plainD : Nat → D → Bool
 | _,.non=>true
 | _,.bl _=>true
 | _,.int _=>true
 | _,.str _=>true
 | n + 1,.tup xs=>decide (xs.length ≤ cap) && xs.all (plainD n)
 | n + 1,.lst xs=>decide (xs.length ≤ cap) && xs.all (plainD n)
 | _,_=>false
def foS : S → S
 | .seq (.forS _ _ b) _=>b
 | .seq (.ite _ a _) _=>foS a
 | .seq _ b=>foS b
 | _=>.skip
def foS2 : S → S
 | .seq _ (.seq _ (.seq (.forS _ _ b) _))=>b
 | .seq (.ite _ a _) _=>foS2 a
 | _=>.skip
theorem zZBN (n : Nat) (d : D) (W : Wd) (h : plainD 0 d = true) : (cfgN T (n + 1)).call zZI [d,d] W = .ok (.bl true) W:=by
 rw [zZE (F:=zZ7) rfl]
 simp only [zZ7,yZA]
 cases d with
 | non=>walk_at "ev0"
 | bl b=>walk_at "ev0"
 | int i=>walk_at "ev0"
 | str s=>walk_at "ev0"
 | _=>cases h
theorem zZJ3 (n : Nat) (d : D) (xs : List D) (W : Wd) (hd : d = .tup xs ∨ d = .lst xs) (ih : ∀ x ∈ xs,(cfgN T (n + 1)).call zZI [x,x] W = .ok (.bl true) W) :
  ∀ (k i : Nat) (z : Slot),i + k = xs.length → ∃ z',forL (tgD (.nm 2)) (exS (cfgN T (n + 1)) (foS2 yZA)) (rangeD (i : Int) k) [.val d,.val d,z] W = .ok (.nx [.val d,.val d,z']) W:=by
 intro k
 induction k with
 | zero=>intro i z h; exact ⟨z,rfl⟩
 | succ k ihk =>
  intro i z h
  obtain ⟨z',hz⟩:=ihk (i + 1) (.val (.int i)) (by omega)
  have hi : i < xs.length:=by omega
  have hx : xs[i]? = some xs[i]:=List.getElem?_eq_getElem hi
  have ha:=yZF hx
  have hs:=ih xs[i] (List.getElem_mem hi)
  generalize xs[i] = x at *
  clear ih ihk
  refine ⟨z', ?_⟩
  rw [yZ8,zZP]
  have e1 : ((i : Int) + 1) = ((i + 1 : Nat) : Int):=by omega
  rw [e1]
  simp only [yZA,foS2,foS] at hz ⊢
  rcases hd with rfl | rfl
  ·walk_at "ev0"
  ·walk_at "ev0"
theorem zZHU (m : Nat) (d : D) (xs : List D) (W : Wd) (hd : d = .tup xs ∨ d = .lst xs) (hc : xs.length ≤ cap) (ih : ∀ x ∈ xs,(cfgN T (m + 1)).call zZI [x,x] W = .ok (.bl true) W) :
  (cfgN T (m + 1 + 1)).call zZI [d,d] W = .ok (.bl true) W:=by
 obtain ⟨z',hz⟩:=zZJ3 m d xs W hd ih xs.length 0 .no (by omega)
 have h1:=zZI7 hc
 clear hc
 have e0 : ((0 : Nat) : Int) = 0:=rfl
 rw [e0] at hz
 clear ih
 rw [zZE (F:=zZ7) rfl]
 simp only [yZA,foS2,foS] at hz
 simp only [zZ7,yZA]
 rcases hd with rfl | rfl
 ·walk_at "ev0"
 ·walk_at "ev0"
theorem zZGl (W : Wd) (k : Nat) : ∀ (n : Nat) (d : D),plainD k d = true → k ≤ n → (cfgN T (n + 1)).call zZI [d,d] W = .ok (.bl true) W:=by
 induction k with
 | zero=>exact fun n d h _=>zZBN n d W h
 | succ k ih =>
  intro n d h hn
  cases n with
  | zero=>omega
  | succ m =>
   have hm : k ≤ m:=by omega
   cases d with
   | tup xs =>
    simp only [plainD,Bool.and_eq_true,decide_eq_true_eq] at h
    exact zZHU m _ xs W (.inl rfl) h.1 fun x hx=>ih m x (List.all_eq_true.mp h.2 x hx) hm
   | lst xs =>
    simp only [plainD,Bool.and_eq_true,decide_eq_true_eq] at h
    exact zZHU m _ xs W (.inr rfl) h.1 fun x hx=>ih m x (List.all_eq_true.mp h.2 x hx) hm
   | non=>exact zZBN _ _ W rfl
   | bl b=>exact zZBN _ _ W rfl
   | int i=>exact zZBN _ _ W rfl
   | str i=>exact zZBN _ _ W rfl
   | _=>simp [plainD] at h
def KEYL : List Str:=[(PySem.Str.ofString "card"),(PySem.Str.ofString "from"),(PySem.Str.ofString "tell"),(PySem.Str.ofString "equal"),(PySem.Str.ofString "least"),(PySem.Str.ofString "among"),(PySem.Str.ofString "same")]
def lowC (c : Nat) : Bool:=decide (97 ≤ c) && decide (c ≤ 122)
def digC (c : Nat) : Bool:=decide (48 ≤ c) && decide (c ≤ 57)
def ltrs : Str := "abcdefghijklmnopqrstuvwxyz"
def digs : Str := "0123456789"
theorem zZJH : ltrs.cps.toList = (List.range 26).map (· + 97):=by decide +kernel
theorem zZNS : digs.cps.toList = (List.range 10).map (· + 48):=by decide +kernel
theorem zZKX (c : Nat) : decide (c ∈ ltrs.cps.toList) = lowC c:=by
 rw [zZJH]
 unfold lowC
 rw [Bool.eq_iff_iff,Bool.and_eq_true,decide_eq_true_eq,decide_eq_true_eq,decide_eq_true_eq,List.mem_map]
 constructor
 ·rintro ⟨a,h,rfl⟩
  rw [List.mem_range] at h
  omega
 ·rintro ⟨h1,h2⟩
  exact ⟨c - 97,by rw [List.mem_range]; omega,by omega⟩
theorem zZKR (c : Nat) : decide (c ∈ digs.cps.toList) = digC c:=by
 rw [zZNS]
 unfold digC
 rw [Bool.eq_iff_iff,Bool.and_eq_true,decide_eq_true_eq,decide_eq_true_eq,decide_eq_true_eq,List.mem_map]
 constructor
 ·rintro ⟨a,h,rfl⟩
  rw [List.mem_range] at h
  omega
 ·rintro ⟨h1,h2⟩
  exact ⟨c - 48,by rw [List.mem_range]; omega,by omega⟩
def isNm (w : Str) : Bool:=(decide (1 ≤ w.length) && decide (w.length ≤ 8)) && (!decide (w ∈ KEYL) && w.cps.toList.all lowC)
theorem zZJt {α : Type} (W : Wd) (f : α → Bool) (xs : List α) (d : D) : b1D W .all (.frz (xs.map fun x=>D.bl (f x)) d) = some (.bl (xs.all f)):=by
 show (boolsD (xs.map fun x=>D.bl (f x))).map _ = _
 have : boolsD (xs.map fun x=>D.bl (f x)) = some (xs.map f):=by
  induction xs with
  | nil=>rfl
  | cons x xs ih=>simp only [List.map_cons,boolsD,truFl,ih]
 rw [this]
 simp only [Option.map_some,List.all_map]
 rfl
theorem zZLi (w : Str) (h : PySem.PyData.strOk w = true) : kinD true (.str w) (.kt KEYL) = some (.bl (!decide (w ∈ KEYL))):=by
 show (some (KEYL.map D.str)).bind (fun xs=>(indD (.str w) xs).map fun k=>D.bl (if true = true then !k else k)) = _
 have hk : ∀ x : Str,x ∈ KEYL → PySem.PyData.strOk x = true:=by decide +kernel
 have key : ∀ l : List Str,(∀ x ∈ l,PySem.PyData.strOk x = true) → ∃ ds,(l.map D.str).mapM (pd 59) = some ds ∧ (ds.any fun z=>PySem.PyData.eqv z (.str w)) = decide (w ∈ l):=by
  intro l
  induction l with
  | nil=>intro _; exact ⟨[],rfl,by simp⟩
  | cons x l ih =>
   intro hl
   obtain ⟨ds,h1,h2⟩:=ih fun y hy=>hl y (List.mem_cons_of_mem _ hy)
   have hx : pd 59 (.str x) = some (.str x):=by
    show (if PySem.PyData.strOk x = true then some (PyData.str x) else none) = _
    rw [if_pos (hl x List.mem_cons_self)]
   refine ⟨.str x :: ds, ?_, ?_⟩
   ·rw [List.map_cons,List.mapM_cons,hx,h1]
    rfl
   ·rw [List.any_cons,h2]
    have : PySem.PyData.eqv (.str x) (.str w) = decide (x = w):=by
     show (x == w) = _
     rw [Bool.eq_iff_iff,beq_iff_eq,decide_eq_true_eq]
    rw [this,Bool.eq_iff_iff,Bool.or_eq_true,decide_eq_true_eq,decide_eq_true_eq,decide_eq_true_eq,List.mem_cons,eq_comm]
 obtain ⟨ds,h1,h2⟩:=key KEYL hk
 have hw : pd 60 (.str w) = some (.str w):=by
  show (if PySem.PyData.strOk w = true then some (PyData.str w) else none) = _
  rw [if_pos h]
 show ((indD (.str w) (KEYL.map D.str)).map fun k=>D.bl (!k)) = _
 unfold indD
 rw [hw,Option.bind_some,h1,Option.map_some,h2]
 rfl
theorem zZIP (c : Nat) (b : Str) : signD false (.str ⟨#[c]⟩) (.str b) = some (.bl (decide (c ∈ b.cps.toList))):=rfl
theorem zZHA {w : Str} (h : w.length ≤ 1000) : charsD (.str w) = some (w.cps.toList.map fun c=>.str ⟨#[c]⟩):=by
 show (if w.length ≤ cap then _ else _) = _
 rw [if_pos (by unfold cap; omega)]
def chs (w : Str) : List D:=w.cps.toList.map fun c=>.str ⟨#[c]⟩
theorem zZER {w : Str} (W : Wd) (h : w.length ≤ 1000) : items W (.str w) = some (chs w):=by
 show (if w.length ≤ cap then _ else _) = _
 rw [if_pos (by unfold cap; omega)]
 rfl
theorem zZIe (w : Str) : (chs w).length = w.length:=by simp [chs,PySem.Str.length]
theorem zZEX (w : Str) : w.cps.toList.length = w.length:=by simp [PySem.Str.length]
theorem zZFr (n : Nat) (w : Str) (W : Wd) (h1 : PySem.PyData.strOk w = true) (h2 : w.length ≤ 1000) : (cfgN T (n + 1)).call zZCf [.str w] W = .ok (.bl (isNm w)) W:=by
 have hkey:=zZLi w h1
 have hch:=zZHA h2
 have hc : ∀ (b : Bool),compR (cfgN T n) (.inS false (.var 1) (.gs "LETTERS" ltrs)) (.nm 1) .nil [.val (.str w),.no] (w.cps.toList.map fun c=>D.str ⟨#[c]⟩,b) W = .ok (w.cps.toList.map fun c=>D.bl (lowC c)) W:=by
  intro b
  refine yZK (fun c=>D.str ⟨#[c]⟩) (fun c=>D.bl (lowC c)) w.cps.toList (by rw [zZEX]; unfold cap; omega) fun c _=>⟨_,rfl, ?_⟩
  show evE _ _ [.val (.str w),.val (.str ⟨#[c]⟩)] W = _
  have hs:=zZIP c ltrs
  rw [zZKX] at hs
  clear hkey hch
  walk_at "ev0"
 have hal:=zZJt W lowC w.cps.toList (.lst (w.cps.toList.map fun c=>D.bl (lowC c)))
 have hlen:=zZER W h2
 have hcl:=zZIe w
 have hgk : KEYL = [(PySem.Str.ofString "card"),(PySem.Str.ofString "from"),(PySem.Str.ofString "tell"),(PySem.Str.ofString "equal"),(PySem.Str.ofString "least"),(PySem.Str.ofString "among"),(PySem.Str.ofString "same")]:=rfl
 have hlt : ("abcdefghijklmnopqrstuvwxyz" : Str) = ltrs:=rfl
 rw [zZE (F:=zZCi) rfl]
 simp only [zZCi,zZEj]
 rw [← hgk,hlt]
 clear hgk hlt h1 h2
 unfold isNm
 rw [← hcl]
 clear hcl
 unfold chs at *
 generalize decide (w ∈ KEYL) = b3 at *
 generalize w.cps.toList.all lowC = b4 at *
 generalize (w.cps.toList.map fun c=>D.str ⟨#[c]⟩) = CH at *
 generalize (w.cps.toList.map fun c=>D.bl (lowC c)) = BL at *
 by_cases g1 : (1 : Int) ≤ (CH.length : Int)
 ·rw [decide_eq_true (show 1 ≤ CH.length by omega)]
  by_cases g2 : (CH.length : Int) ≤ 8
  ·rw [decide_eq_true (show CH.length ≤ 8 by omega)]
   cases b3 <;> cases b4 <;> walk_at "ev0" <;> rfl
  ·rw [decide_eq_false (show ¬ CH.length ≤ 8 by omega)]
   walk_at "ev0" <;> rfl
 ·rw [decide_eq_false (show ¬ 1 ≤ CH.length by omega)]
  walk_at "ev0" <;> rfl
def numS (v : Nat) : Str:=PySem.Str.ofString (toString ((v : Nat) : Int))
theorem zZBO (v : Nat) : (numS v).cps.toList = TL.numL v:=TL.tl_num v
theorem zZLB {a b : Nat} (h : numS a = numS b) : a = b:=TL.numL_inj (by rw [← zZBO,← zZBO,h])
theorem zZHZ {v : Nat} (h : v < 10) : TL.numL v = [48 + v]:=TL.numL_lt h
theorem zZJ2 {v : Nat} (h : 10 ≤ v) (h2 : v < 100) : TL.numL v = [48 + v / 10,48 + v % 10]:=by
 rw [TL.numL_step h,TL.numL_lt (by omega)]
 rfl
theorem zZGw {x y : Str} (h : x.cps.toList = y.cps.toList) : x = y:=TL.ext_tl h
def numOf (w : Str) : Option Int:=((List.range 100).find? fun v=>decide (numS v = w)).map fun v : Nat=>(v : Int)
def optI : Option Int → D
 | none=>.non
 | some v=>.int v
theorem zZGi {v : Nat} (h : v < 100) : numOf (numS v) = some (v : Int):=by
 unfold numOf
 cases hf : (List.range 100).find? fun u=>decide (numS u = numS v) with
 | none =>
  rw [List.find?_eq_none] at hf
  exact absurd (decide_eq_true rfl) (hf v (List.mem_range.mpr h))
 | some u =>
  have hq:=List.find?_some hf
  rw [zZLB (of_decide_eq_true hq)]
  rfl
theorem yZa {w : Str} (h : ∀ v,v < 100 → numS v ≠ w) : numOf w = none:=by
 unfold numOf
 have : (List.range 100).find? (fun v=>decide (numS v = w)) = none:=by
  rw [List.find?_eq_none]
  intro v hv e
  exact h v (List.mem_range.mp hv) (of_decide_eq_true e)
 rw [this]
 rfl
def zeroS : Str := "0"
theorem zZEz : zeroS.cps.toList = [48]:=by decide +kernel
theorem zZI9 : zeroS = numS 0:=zZGw (by rw [zZEz,zZBO,zZHZ (by omega)])
/-- what looks like a number is one -/
theorem zZK6 {w : Str} {c : Nat} {r : List Nat} (hl : w.cps.toList = c :: r) (h2 : r.length ≤ 1) (hd : (c :: r).all digC = true) (h0 : ¬ (c = 48 ∧ w ≠ zeroS)) : ∃ v,v < 100 ∧ w = numS v:=by
 have dg : ∀ x ∈ c :: r,48 ≤ x ∧ x ≤ 57:=fun x hx=>by
  have:=List.all_eq_true.mp hd x hx
  unfold digC at this
  simp only [Bool.and_eq_true,decide_eq_true_eq] at this
  exact this
 have hc:=dg c List.mem_cons_self
 match r,h2 with
 | [],_ =>
  exact ⟨c - 48,by omega,zZGw (by rw [hl,zZBO,zZHZ (by omega),show 48 + (c - 48) = c by omega])⟩
 | [b],_ =>
  have hb:=dg b (by simp)
  have hn : c ≠ 48:=fun e=>h0 ⟨e,fun z=>by
   rw [z,zZEz] at hl
   simp at hl⟩
  refine ⟨(c - 48) * 10 + (b - 48),by omega,zZGw ?_⟩
  rw [hl,zZBO,zZJ2 (by omega) (by omega),show 48 + ((c - 48) * 10 + (b - 48)) / 10 = c by omega,show 48 + ((c - 48) * 10 + (b - 48)) % 10 = b by omega]
theorem xZp {v : Nat} (h : v < 100) : ∃ c r,(numS v).cps.toList = c :: r ∧ r.length ≤ 1 ∧ (c :: r).all digC = true ∧ ¬ (c = 48 ∧ numS v ≠ zeroS):=by
 by_cases h1 : v < 10
 ·refine ⟨48 + v,[],by rw [zZBO,zZHZ h1],by simp, ?_,fun ⟨e,z⟩=>z ?_⟩
  ·simp [digC]; omega
  ·rw [zZI9,show v = 0 by omega]
 ·refine ⟨48 + v / 10,[48 + v % 10],by rw [zZBO,zZJ2 (by omega) h],by simp, ?_,fun ⟨e,z⟩ => ?_⟩
  ·simp [digC]; omega
  ·omega
theorem zZK1 {v : Nat} (h : v < 100) : conv .int (.str (numS v)) = some (.int (v : Int)):=by
 show (if (numS v).length ≤ 640 then (PySem.intText? (numS v)).map D.int else none) = _
 have hl : (TL.numL v).length ≤ 2:=TL.numL_len (by omega) (by omega)
 have h2 : (numS v).length = (TL.numL v).length:=by rw [← zZBO]; simp [PySem.Str.length]
 rw [if_pos (by rw [h2]; omega)]
 show (PySem.intText? (PySem.Str.ofString (toString ((v : Nat) : Int)))).map D.int = _
 rw [TL.int_num (by omega)]
 rfl
theorem zZEf (n : Nat) (w : Str) (W : Wd) (h2 : w.length ≤ 1000) : (cfgN T (n + 1)).call zZBJ [.str w] W = .ok (optI (numOf w)) W:=by
 have hch:=zZHA h2
 have hc : ∀ (b : Bool),compR (cfgN T n) (.inS false (.var 1) (.str "0123456789")) (.nm 1) .nil [.val (.str w),.no] (w.cps.toList.map fun c=>D.str ⟨#[c]⟩,b) W = .ok (w.cps.toList.map fun c=>D.bl (digC c)) W:=by
  intro b
  refine yZK (fun c=>D.str ⟨#[c]⟩) (fun c=>D.bl (digC c)) w.cps.toList (by rw [zZEX]; unfold cap; omega) fun c _=>⟨_,rfl, ?_⟩
  show evE _ _ [.val (.str w),.val (.str ⟨#[c]⟩)] W = _
  have hs:=zZIP c digs
  rw [zZKR] at hs
  have hdg : ("0123456789" : Str) = digs:=rfl
  rw [hdg]
  clear hch
  walk_at "ev0"
 have hal:=zZJt W digC w.cps.toList (.lst (w.cps.toList.map fun c=>D.bl (digC c)))
 have hlen:=zZER W h2
 have hcl:=zZIe w
 have hz : ("0" : Str) = zeroS:=rfl
 rw [zZE (F:=zZBH) rfl]
 simp only [zZBH,zZCm]
 rw [hz]
 clear hz
 have hcl2 : w.cps.toList.length = w.length:=zZEX w
 cases hw : w.cps.toList with
 | nil =>
  have hn : numOf w = none:=yZa fun v hv e=>by
   obtain ⟨c,r,h1,_⟩:=xZp hv
   rw [e,hw] at h1
   cases h1
  rw [hn]
  rw [hw] at hcl2
  simp only [List.length_nil] at hcl2
  have g1 : ¬ (1 : Int) ≤ ((chs w).length : Int):=by rw [hcl]; omega
  clear hw hn hcl2 hcl hal hc hch h2
  generalize chs w = CH at *
  simp only [optI]
  walk_at "ev0"
 | cons c r =>
  have hat : atD (chs w) (.int 0) = some (.str ⟨#[c]⟩):=yZF (n:=0) (by unfold chs; rw [hw]; rfl)
  have hc0 : cmpD .eq (.str ⟨#[c]⟩) (.str zeroS) = some (.bl (decide (c = 48))):=by
   have : cmpD .eq (.str ⟨#[c]⟩) (.str zeroS) = some (.bl (decide ((⟨#[c]⟩ : Str) = zeroS))):=rfl
   rw [this]
   congr 2
   rw [decide_eq_decide]
   constructor
   ·intro e
    have:=zZEz
    rw [← e] at this
    simpa using this
   ·rintro rfl
    exact zZGw (by rw [zZEz])
  have hwz : cmpD .ne (.str w) (.str zeroS) = some (.bl (!decide (w = zeroS))):=rfl
  rw [hw] at hcl2
  simp only [List.length_cons] at hcl2
  have g1 : (1 : Int) ≤ ((chs w).length : Int):=by rw [hcl]; omega
  by_cases hr : r.length ≤ 1
  ·have g2 : ((chs w).length : Int) ≤ 2:=by rw [hcl]; omega
   cases hd : (c :: r).all digC with
   | false =>
    have hn : numOf w = none:=yZa fun v hv e=>by
     obtain ⟨c',r',h1,_,h3,_⟩:=xZp hv
     rw [e,hw] at h1
     cases h1
     rw [hd] at h3
     cases h3
    rw [hn]
    rw [hw,hd] at hal
    rw [hw] at hc hch
    clear hw hn hcl2 hcl h2 hd hr hc0 hat hwz
    generalize ((c :: r).map fun c=>D.str ⟨#[c]⟩) = CHS at *
    generalize ((c :: r).map fun c=>D.bl (digC c)) = BL at *
    generalize chs w = CH at *
    simp only [optI]
    walk_at "ev0"
   | true =>
    rw [hw,hd] at hal
    rw [hw] at hc hch
    by_cases h0 : c = 48 ∧ w ≠ zeroS
    ·have hn : numOf w = none:=yZa fun v hv e=>by
      obtain ⟨c',r',h1,_,_,h3⟩:=xZp hv
      rw [e,hw] at h1
      cases h1
      rw [e] at h3
      exact h3 h0
     rw [hn]
     rw [decide_eq_true h0.1] at hc0
     rw [decide_eq_false h0.2] at hwz
     clear hw hn hcl2 hcl h2 hd hr h0
     generalize ((c :: r).map fun c=>D.str ⟨#[c]⟩) = CHS at *
     generalize ((c :: r).map fun c=>D.bl (digC c)) = BL at *
     generalize chs w = CH at *
     generalize (⟨#[c]⟩ : Str) = C0 at *
     simp only [optI]
     walk_at "ev0"
    ·obtain ⟨v,hv,hwv⟩:=zZK6 hw hr hd h0
     have hcv:=zZK1 hv
     have hn : numOf w = some (v : Int):=by rw [hwv]; exact zZGi hv
     rw [hn]
     rw [← hwv] at hcv
     clear hw hn hcl2 hcl h2 hd hr hwv
     generalize ((c :: r).map fun c=>D.str ⟨#[c]⟩) = CHS at *
     generalize ((c :: r).map fun c=>D.bl (digC c)) = BL at *
     generalize chs w = CH at *
     generalize (⟨#[c]⟩ : Str) = C0 at *
     simp only [optI]
     by_cases e1 : c = 48
     ·rw [decide_eq_true e1] at hc0
      have e2 : w = zeroS:=Classical.byContradiction fun z=>h0 ⟨e1,z⟩
      rw [decide_eq_true e2] at hwz
      clear e1 e2 h0
      walk_at "ev0"
     ·rw [decide_eq_false e1] at hc0
      clear e1 h0 hwz
      walk_at "ev0"
  ·have hn : numOf w = none:=yZa fun v hv e=>by
    obtain ⟨c',r',h1,h3,_,_⟩:=xZp hv
    rw [e,hw] at h1
    cases h1
    exact hr h3
   have g2 : ¬ ((chs w).length : Int) ≤ 2:=by rw [hcl]; omega
   rw [hn]
   clear hw hn hcl2 hcl hal hc hch h2 hr hat hc0 hwz
   generalize chs w = CH at *
   simp only [optI]
   walk_at "ev0"
theorem cast0 : ((0 : Nat) : Int) = 0:=rfl
theorem cast1 : ((1 : Nat) : Int) = 1:=rfl
theorem cast2 : ((2 : Nat) : Int) = 2:=rfl
theorem cast3 : ((3 : Nat) : Int) = 3:=rfl
theorem cast4 : ((4 : Nat) : Int) = 4:=rfl
theorem cast5 : ((5 : Nat) : Int) = 5:=rfl
abbrev Kd:=Str × List (Str × Int)
def flD (f : Str × Int) : D:=.tup [.str f.1,.int f.2]
def flsD (fs : List (Str × Int)) : D:=.tup (fs.map flD)
def kT (k : Kd) : D:=.tup [.str k.1,flsD k.2]
def kI (k : Kd) : D:=.ins zZEh [(12,.str k.1),(13,flsD k.2)]
theorem zZJK (n : Nat) (nm : Str) (fs : List (Str × Int)) (d : D) (W : Wd) (hd : d = flsD fs ∨ d = .lst (fs.map flD)) : (cfgN T (n + 1)).init zZEh [.str nm,d] W = .ok [(12,.str nm),(13,flsD fs)] W:=by
 rw [zZEv (F:=yZf) rfl]
 simp only [yZf,zZAG,flsD] at *
 rcases hd with rfl | rfl <;> walk_at "ev0"
def kfind (ks : List Kd) (nm : Str) : Option Kd:=ks.find? fun k=>decide (k.1 = nm)
def kopt : Option Kd → D
 | none=>.non
 | some k=>kI k
theorem zZH4 (n : Nat) (nm : Str) (s0 : Slot) (W : Wd) : ∀ (ks : List Kd) (z : Slot),∃ z',forL (tgD (.nm 2)) (exS (cfgN T n) ((forsS yZQ).getD 0 .skip)) (ks.map kI) [s0,.val (.str nm),z] W =
  (match kfind ks nm with | none=>.ok (.nx [s0,.val (.str nm),z']) W | some k=>.ok (.rt (kI k)) W):=by
 simp only [yZQ,forsS,List.getD_cons_zero]
 intro ks
 induction ks with
 | nil=>intro z; exact ⟨z,rfl⟩
 | cons k ks ih =>
  intro z
  obtain ⟨z',h⟩:=ih (.val (kI k))
  refine ⟨z', ?_⟩
  by_cases e : k.1 = nm
  ·have hk : kfind (k :: ks) nm = some k:=by simp [kfind,e]
   rw [hk,List.map_cons,zZP]
   clear ih h
   simp only [kI]
   walk_at "ev0"
  ·have hk : kfind (k :: ks) nm = kfind ks nm:=by simp [kfind,e]
   rw [hk,List.map_cons,zZP]
   clear ih
   simp only [kI] at h ⊢
   walk_at "ev0"
theorem zZFp (n : Nat) (ks : List Kd) (nm : Str) (d : D) (W : Wd) (hd : d = .tup (ks.map kI) ∨ d = .lst (ks.map kI)) : (cfgN T (n + 1)).call zZCC [d,.str nm] W = .ok (kopt (kfind ks nm)) W:=by
 rw [zZE (F:=zZAF) rfl]
 obtain ⟨z',h⟩:=zZH4 n nm (.val d) W ks .no
 simp only [yZQ,forsS,List.getD_cons_zero] at h
 simp only [zZAF,yZQ]
 cases hk : kfind ks nm with
 | none =>
  rw [hk] at h
  simp only [kopt]
  rcases hd with rfl | rfl <;> walk_at "ev0"
 | some k =>
  rw [hk] at h
  simp only [kopt]
  rcases hd with rfl | rfl <;> walk_at "ev0"
theorem zZFt {g : Cfg} {e : Env} {W : Wd} {a : E} : evE g (.b1 .min a) e W = bnd (srcOf a (evE g a) e W) (fun s W=>opt (b1D W .min s) W) .mk:=rfl
theorem zZEW {g : Cfg} {e : Env} {W : Wd} {a : E} : evE g (.b1 .str a) e W = bnd (evE g a e W) (fun x W=>opt (conv .str x) W) .mk:=zZMx rfl
theorem zZCw {xs ys : List D} {m : Nat} {W : Wd} : addR (.frz xs (.lst ys)) (.cell m) W = bnd (opt (cellO W[m]?) W) (fun zs W=>catR xs zs W) .mk:=by
 show bnd (opt (items W (.cell m)) W) (fun ys W=>if xs.length + ys.length ≤ cap then R.ok (xs ++ ys) W else .st) .mk = _
 rw [yZC]
 rfl
theorem zZEk {n : Nat} {W : Wd} : b1D W .tuple (.cell n) = (cellO W[n]?).map D.tup:=by
 show (items W (.cell n)).map D.tup = _
 rw [yZC]
theorem zZCc (s : Nat) (xs : List D) (d i : D) (e : Env) (W : Wd) : idxR d (.slot s xs) i e W = bnd (opt (setAt xs i d) W) (fun ys W=>.ok (.nx (e.set s (.ol ys))) W) .mk:=rfl
theorem s_te : (("tell" : Str) = "equal") = False:=eq_false (by decide)
theorem s_tl : (("tell" : Str) = "least") = False:=eq_false (by decide)
theorem s_ta : (("tell" : Str) = "among") = False:=eq_false (by decide)
theorem s_ts : (("tell" : Str) = "same") = False:=eq_false (by decide)
theorem s_et : (("equal" : Str) = "tell") = False:=eq_false (by decide)
theorem s_el : (("equal" : Str) = "least") = False:=eq_false (by decide)
theorem s_ea : (("equal" : Str) = "among") = False:=eq_false (by decide)
theorem s_es : (("equal" : Str) = "same") = False:=eq_false (by decide)
theorem s_lt : (("least" : Str) = "tell") = False:=eq_false (by decide)
theorem s_le : (("least" : Str) = "equal") = False:=eq_false (by decide)
theorem s_la : (("least" : Str) = "among") = False:=eq_false (by decide)
theorem s_ls : (("least" : Str) = "same") = False:=eq_false (by decide)
theorem s_at : (("among" : Str) = "tell") = False:=eq_false (by decide)
theorem s_ae : (("among" : Str) = "equal") = False:=eq_false (by decide)
theorem s_al : (("among" : Str) = "least") = False:=eq_false (by decide)
theorem s_as : (("among" : Str) = "same") = False:=eq_false (by decide)
theorem s_st : (("same" : Str) = "tell") = False:=eq_false (by decide)
theorem s_se : (("same" : Str) = "equal") = False:=eq_false (by decide)
theorem s_sl : (("same" : Str) = "least") = False:=eq_false (by decide)
theorem s_sa : (("same" : Str) = "among") = False:=eq_false (by decide)
theorem zZEn (W : Wd) (d : D) : inG false W (.str "least") (.frz [.str "least",.str "among"] d) = some (.bl true):=rfl
theorem zZEU (W : Wd) (d : D) : inG false W (.str "among") (.frz [.str "least",.str "among"] d) = some (.bl true):=rfl
theorem zZEZ (W : Wd) (d : D) : inG false W (.str "tell") (.frz [.str "least",.str "among"] d) = some (.bl false):=rfl
theorem zZES (W : Wd) (d : D) : inG false W (.str "equal") (.frz [.str "least",.str "among"] d) = some (.bl false):=rfl
theorem zZET (W : Wd) (d : D) : inG false W (.str "same") (.frz [.str "least",.str "among"] d) = some (.bl false):=rfl
def extR (s s2 : Src) (e : Env) (W : Wd) : R Fl:=(opt (items W s) W).bind fun xs W=>match s2 with
  | .frz ys _=>if xs.length + ys.length ≤ cap then putList s (xs ++ ys) e W else .st
  | _=>.st
theorem zZBm {g : Cfg} {e : Env} {W : Wd} {a x : E} : exS g (.extend a x) e W = bnd (srcOf a (evE g a) e W) (fun s W=>if !lstSrc W s then .st else bnd (srcOf x (evE g x) e W) (fun s2 W=>extR s s2 e W) .mk) .mk:=rfl
theorem zZCr {e : Env} {W : Wd} {i : Nat} {xs ys : List D} {d : D} (h : xs.length + ys.length ≤ cap) : extR (.slot i xs) (.frz ys d) e W = .ok (.nx (e.set i (.ol (xs ++ ys)))) W:=if_pos h
structure Cd where
 nm : Str
 k : Str
 ns : List Str
def cdD (c : Cd) : D:=.tup [.str c.nm,.str c.k,.tup (c.ns.map .str)]
def forCB : S → S
 | .seq (.forC _ _ _ b) _=>b
 | .seq _ b=>forCB b
 | s=>s
def headS : S → S
 | .seq a _=>a
 | s=>s
def dropS : Nat → S → S
 | n + 1,.seq _ b=>dropS n b
 | _,s=>s
local macro_rules | `(tactic| walk_at "ev1") => `(tactic| simp -implicitDefEqProofs (disch:=first | assumption | omega | (simp only [List.length_cons,List.length_nil,List.length_append,List.length_map]; done) | (simp only [List.length_cons,List.length_nil,List.length_append,List.length_map,limI,cap]; omega) | decide) only [yZS,zZAe,zZBE,zZEK,v_bl,zZDX,zZDv,zZDF,zZC6,zZC2,xZq,v_in,zZBC,v_eq,v_ne,v_lt,v_le,v_gt,v_ge,v_is,zZBB,
 zZEA,zZBA,zZDs,v_or,zZCZ,zZD7,zZCI,zZDc,zZDf,zZEI,zZEH,zZDh,v_sl,zZDU,zZAb,zZDr,zZBy,zZBu,zZCB,zZBf,zZBl,zZDu,zZAu,zZEC,zZDW,zZD6,zZD5,zZAi,zZAm,zZDy,zZDb,yZn,zZBt,yZ1,zZB9,zZAc,xZy,xZw,zZDM,zZDT,E.isVar,zZA3,xZT,zZAv,zZCa,zZA2,xZW,zZCU,
 v_of,zZD8,zZDV,zZB2,zZB0,zZDP,zZBk,zZAU,zZAz,zZAV,zZA8,yZ3,zZEE,zZA5,zZCH,xZ2,zZBw,zZDD,zZC7,zZAj,zZDp,zZt,zZCP,xZb,xZZ,zZA0,zZD3,xZu,yZj,zZBo,zZCY,zZCA,zZBg,zZBp,zZBv,zZCX,zZCd,xZ8,zZDt,xZr,zZCN,zZCF,
 zZAy,xZs,yZN,yZb,zZDE,zZCW,zZAp,zZAs,xZx,zZDI,zZDR,zZD4,zZBh,zZDJ,zZDK,c_lt,c_le,c_gt,c_ge,zZDd,zZDe,zZDB,zZD0,zZC8,zZDn,zZD1,zZDa,t_bl,zZDN,zZDm,zZDi,zZDG,zZDO,zZDY,zZC4,zZDx,yZC,yZt,zZED,zZCO,zZEG,zZEF,k_bl,
 zZCe,xZP,xZh,zZ1,zZA7,zZAa,zZAY,zZX,Option.bind_some,Option.map_some,List.getElem?_cons_zero,List.getElem?_cons_succ,List.set_cons_zero,List.set_cons_succ,List.map_cons,List.map_nil,List.length_cons,List.length_nil,List.cons_append,List.nil_append,List.replicate,
 decide_eq_true_eq,Int.reduceSub,Int.reduceAdd,Int.reduceNeg,Int.reduceLT,Int.reduceLE,Int.reduceEq,Nat.reduceAdd,Nat.reduceSub,List.getElem?_set,List.length_set,List.length_map,List.set_set,eq_self,Bool.false_eq_true,Int.reduceToNat,Int.toNat_natCast,Int.reducePow,Option.map_some,tyD,decide_true,decide_false,if_true,if_false,Bool.not_true,Bool.not_false,zZA9,zZAd,zZBx,xZg,zZCL,zZAS,yZ0,zZAL,zZAr,yZz,yZU,zZAg,zZAX,zZDg,zZAW,zZAf,xZQ,xZo,zZA1,yZs,zZBn,zZCS,zZAl,xZj,zZAt,yZi,zZAQ,Option.isNone_none,Option.isNone_some,Nat.reduceEqDiff,Nat.reduceLT,xZA,yZZ,zZCJ,zZAw,yZo,yZg,zZAx,zZAR,zZDw,zZAk,zZAZ,yZq,R.calm_ok,zZB3,zZDS,zZCV,zZAn,zZAO,zZDA,zZB8,yZh,yZl,zZCG,zZDC,zZDH,zZAT,zZAq,zZAN,zZAo,zZAP,zZBj,zZBe,xZO,xZ4,xZa,yZw,xZX,xZz,zZAK,xZe,zZCR,zZB7,yZx,yZr,yZX,v_gs,v_gk,zZEB,zZDo,zZDZ,zZB1,xZi,zZDQ,zZCQ,zZA6,zZBs,yZp,yZm,yZk,xZS,xZv,xZR,xZ1,xZt,xZV,xZk,xZn,xZ0,xZN,xZd,xZY,xZl,xZ3,xZc,xZf,xZm,zZDq,zZEJ,zZDL,zZDz,zZC1,zZCE,List.append_nil, *])
structure RS where
 i : Nat
 cs : List Cd
inductive RO (A : Type) where
 | ok (a : A) (s : RS)
 | bad (i : Nat)
def RO.bind {A B : Type} (r : RO A) (f : A → RS → RO B) : RO B:=match r with
 | .ok a s=>f a s
 | .bad i=>.bad i
def rdC (ws : List Str) (i : Nat) (ks : List Kd) (ca : Nat) : Cell:=.ins zZCD [(31,.lst (ws.map .str)),(32,.int (i : Int)),(20,.lst (ks.map kI)),(28,.own ca)]
structure RdAt (W : Wd) (rd ca : Nat) (ws : List Str) (ks : List Kd) (s : RS) : Prop where
 rd_ : W[rd]? = some (rdC ws s.i ks ca)
 ca_ : W[ca]? = some (.lst (s.cs.map cdD))
 ne : rd ≠ ca
structure Stay (W W' : Wd) (rd ca : Nat) : Prop where
 l : W.length ≤ W'.length
 g : ∀ a,a < W.length → a ≠ rd → a ≠ ca → W'[a]? = W[a]?
theorem Stay.refl (W : Wd) (rd ca : Nat) : Stay W W rd ca:=⟨Nat.le_refl _,fun _ _ _ _=>rfl⟩
theorem Stay.trans {A B C : Wd} {rd ca : Nat} (h1 : Stay A B rd ca) (h2 : Stay B C rd ca) : Stay A C rd ca:=⟨Nat.le_trans h1.l h2.l,fun a z x y=>(h2.g a (Nat.lt_of_lt_of_le z h1.l) x y).trans (h1.g a z x y)⟩
theorem RdAt.step {W : Wd} {rd ca : Nat} {ws : List Str} {ks : List Kd} {s : RS} (h : RdAt W rd ca ws ks s) : RdAt (W.set rd (rdC ws (s.i + 1) ks ca)) rd ca ws ks { s with i:=s.i + 1 } ∧ Stay W (W.set rd (rdC ws (s.i + 1) ks ca)) rd ca:=by
 have hl:=zZ0 h.rd_
 refine ⟨⟨List.getElem?_set_self hl, ?_,h.ne⟩,by simp,fun a _ h1 _=>List.getElem?_set_ne (Ne.symm h1)⟩
 rw [List.getElem?_set_ne h.ne]
 exact h.ca_
def Runs {A : Type} (r : R D) (W : Wd) (rd ca : Nat) (ws : List Str) (ks : List Kd) (f : A → D) : RO A → Prop
 | .ok a s => ∃ W',RdAt W' rd ca ws ks s ∧ Stay W W' rd ca ∧ r = .ok (f a) W'
 | .bad i => ∃ W',Stay W W' rd ca ∧ r = .ex zZC (.tup [.int (i : Int)]) W'
def wordA (ws : List Str) (i : Nat) : Str:=(ws[i]?).getD ""
structure WsOK (ws : List Str) : Prop where
 l : ws.length ≤ 1000
 w : ∀ x ∈ ws,x.length ≤ 1000 ∧ PySem.PyData.strOk x = true
theorem zZBq {ws : List Str} (h : WsOK ws) (i : Nat) : (wordA ws i).length ≤ 1000 ∧ PySem.PyData.strOk (wordA ws i) = true:=by
 unfold wordA
 cases hq : ws[i]? with
 | none=>exact ⟨by decide +kernel,by decide +kernel⟩
 | some x=>exact h.w x (List.mem_of_getElem? hq)
theorem xZU (n : Nat) (W : Wd) (rd ca : Nat) (ws : List Str) (ks : List Kd) (s : RS) (h : RdAt W rd ca ws ks s) : (cfgN T (n + 1)).call zZBX [.own rd] W = .ok (.str (wordA ws s.i)) W:=by
 have hr:=h.rd_
 unfold rdC at hr
 have hl : ((ws.map D.str).length : Int) = (ws.length : Int):=by rw [List.length_map]
 rw [zZE (F:=xZI) rfl]
 simp only [xZI,zZBS]
 by_cases hi : s.i < ws.length
 ·have hg : ws[s.i]? = some ws[s.i]:=List.getElem?_eq_getElem hi
  have hat : atD (ws.map D.str) (.int (s.i : Int)) = some (.str ws[s.i]):=yZF (by rw [List.getElem?_map,hg]; rfl)
  have hw : wordA ws s.i = ws[s.i]:=by unfold wordA; rw [hg]; rfl
  rw [hw]
  have g1 : (s.i : Int) < ((ws.map D.str).length : Int):=by rw [hl]; omega
  clear hl hg hw h
  generalize ws[s.i] = w at *
  generalize ws.map D.str = WS at *
  generalize ks.map kI = KI at *
  clear hi
  walk_at "ev1"
 ·have hw : wordA ws s.i = "" := by unfold wordA; rw [List.getElem?_eq_none (by omega)]; rfl
  rw [hw]
  have g1 : ¬ (s.i : Int) < ((ws.map D.str).length : Int):=by rw [hl]; omega
  clear hl hw h hi
  generalize ws.map D.str = WS at *
  generalize ks.map kI = KI at *
  walk_at "ev1"
theorem zZKF (w : Str) (al : List Str) : inD (.str w) (al.map .str) = some (decide (w ∈ al)):=by
 have h1 : (flatD (.str w) && (al.map D.str).all flatD) = true:=by
  rw [Bool.and_eq_true,List.all_eq_true]
  refine ⟨rfl,fun x hx => ?_⟩
  obtain ⟨y,_,rfl⟩:=List.mem_map.mp hx
  rfl
 unfold inD
 rw [if_pos h1]
 congr 1
 rw [List.any_map,Bool.eq_iff_iff,List.any_eq_true,decide_eq_true_eq]
 constructor
 ·rintro ⟨x,hx,e⟩
  have e : (x == w) = true:=e
  rw [beq_iff_eq] at e
  rw [← e]
  exact hx
 ·exact fun h=>⟨w,h,by show (w == w) = true; simp⟩
theorem zZFT (neg : Bool) (W : Wd) (w : Str) (al : List Str) (d : D) : inG neg W (.str w) (.frz (al.map .str) d) = some (.bl (if neg then !decide (w ∈ al) else decide (w ∈ al))):=by
 show (inD (.str w) (al.map .str)).map _ = _
 rw [zZKF]
 rfl
def takeA (ws : List Str) (al : List Str) (s : RS) : RO Str:=if s.i < ws.length ∧ wordA ws s.i ∈ al then .ok (wordA ws s.i) { s with i:=s.i + 1 } else .bad s.i
theorem zZCK (n : Nat) (W : Wd) (rd ca : Nat) (ws : List Str) (ks : List Kd) (s : RS) (h : RdAt W rd ca ws ks s) (al : List Str) (ad : D) (had : ad = .tup (al.map .str) ∨ ad = .lst (al.map .str)) :
  Runs ((cfgN T (n + 2)).call zZBR [.own rd,ad] W) W rd ca ws ks D.str (takeA ws al s):=by
 have hw:=xZU n W rd ca ws ks s h
 have hr:=h.rd_
 unfold rdC at hr
 have hl : ((ws.map D.str).length : Int) = (ws.length : Int):=by rw [List.length_map]
 have hin:=fun d=>zZFT true W (wordA ws s.i) al d
 simp only [if_true] at hin
 have e1 : (((s.i + 1 : Nat)) : Int) = (s.i : Int) + 1:=by omega
 unfold takeA
 by_cases hi : s.i < ws.length
 ·have g1 : ¬ ((ws.map D.str).length : Int) ≤ (s.i : Int):=by rw [hl]; omega
  by_cases hm : wordA ws s.i ∈ al
  ·rw [if_pos ⟨hi,hm⟩]
   simp only [decide_eq_true hm,Bool.not_true] at hin
   obtain ⟨q1,q2⟩:=h.step
   refine ⟨_,q1,q2, ?_⟩
   rw [zZE (F:=zZm) rfl]
   simp only [zZm,yZd]
   unfold rdC
   rw [e1]
   clear q1 q2 h hl hi hm e1
   generalize wordA ws s.i = w at *
   generalize ws.map D.str = WS at *
   generalize ks.map kI = KI at *
   generalize al.map D.str = AL at *
   rcases had with rfl | rfl <;> walk_at "ev1"
  ·rw [if_neg (fun z=>hm z.2)]
   simp only [decide_eq_false hm,Bool.not_false] at hin
   refine ⟨W,.refl _ _ _, ?_⟩
   rw [zZE (F:=zZm) rfl]
   simp only [zZm,yZd]
   clear h hl hi hm e1
   generalize wordA ws s.i = w at *
   generalize ws.map D.str = WS at *
   generalize ks.map kI = KI at *
   generalize al.map D.str = AL at *
   rcases had with rfl | rfl <;> walk_at "ev1"
 ·have g1 : ((ws.map D.str).length : Int) ≤ (s.i : Int):=by rw [hl]; omega
  rw [if_neg (fun z=>hi z.1)]
  refine ⟨W,.refl _ _ _, ?_⟩
  rw [zZE (F:=zZm) rfl]
  simp only [zZm,yZd]
  clear h hl hi e1 hin
  generalize wordA ws s.i = w at *
  generalize ws.map D.str = WS at *
  generalize ks.map kI = KI at *
  generalize al.map D.str = AL at *
  rcases had with rfl | rfl <;> walk_at "ev1"
def takeNmA (ws : List Str) (tk : List Str) (s : RS) : RO Str:=if isNm (wordA ws s.i) = true ∧ wordA ws s.i ∉ tk then .ok (wordA ws s.i) { s with i:=s.i + 1 } else .bad s.i
theorem zZCT (n : Nat) (W : Wd) (rd ca : Nat) (ws : List Str) (ks : List Kd) (s : RS) (hws : WsOK ws) (h : RdAt W rd ca ws ks s) (tk : List Str) (td : D) (htd : td = .tup (tk.map .str) ∨ td = .lst (tk.map .str) ∨ ∃ ia,td = .own ia ∧ W[ia]? = some (.lst (tk.map .str))) :
  Runs ((cfgN T (n + 2)).call yZy [.own rd,td] W) W rd ca ws ks D.str (takeNmA ws tk s):=by
 have hw:=xZU n W rd ca ws ks s h
 obtain ⟨o1,o2⟩:=zZBq hws s.i
 have hnm:=zZFr n (wordA ws s.i) W o2 o1
 have hr:=h.rd_
 unfold rdC at hr
 have hin:=fun d=>zZFT false W (wordA ws s.i) tk d
 simp only [Bool.false_eq_true,if_false] at hin
 have hic : ∀ ia,W[ia]? = some (.lst (tk.map D.str)) → inG false W (.str (wordA ws s.i)) (.cell ia) = some (.bl (decide (wordA ws s.i ∈ tk))):=fun ia hh=>by
  rw [← hin (.lst (tk.map D.str))]
  unfold inG
  rw [yZC,hh]
  rfl
 have e1 : (((s.i + 1 : Nat)) : Int) = (s.i : Int) + 1:=by omega
 unfold takeNmA
 cases hb : isNm (wordA ws s.i) with
 | true =>
  rw [hb] at hnm
  by_cases hm : wordA ws s.i ∈ tk
  ·rw [if_neg (fun z=>z.2 hm)]
   simp only [decide_eq_true hm] at hin hic
   refine ⟨W,.refl _ _ _, ?_⟩
   rw [zZE (F:=zZO) rfl]
   simp only [zZO,zZv]
   clear h hm e1 hb o1 o2 hws
   generalize wordA ws s.i = w at *
   generalize ws.map D.str = WS at *
   generalize ks.map kI = KI at *
   generalize tk.map D.str = AL at *
   rcases htd with rfl | rfl | ⟨ia,rfl,hia⟩
   ·clear hic; walk_at "ev1"
   ·clear hic; walk_at "ev1"
   ·have hic2:=hic ia hia; clear hic; walk_at "ev1"
  ·rw [if_pos ⟨rfl,hm⟩]
   simp only [decide_eq_false hm] at hin hic
   obtain ⟨q1,q2⟩:=h.step
   refine ⟨_,q1,q2, ?_⟩
   rw [zZE (F:=zZO) rfl]
   simp only [zZO,zZv]
   unfold rdC
   rw [e1]
   clear q1 q2 h hm e1 hb o1 o2 hws
   generalize wordA ws s.i = w at *
   generalize ws.map D.str = WS at *
   generalize ks.map kI = KI at *
   generalize tk.map D.str = AL at *
   rcases htd with rfl | rfl | ⟨ia,rfl,hia⟩
   ·clear hic; walk_at "ev1"
   ·clear hic; walk_at "ev1"
   ·have hic2:=hic ia hia; clear hic; walk_at "ev1"
 | false =>
  rw [hb] at hnm
  rw [if_neg (fun z=>Bool.false_ne_true z.1)]
  refine ⟨W,.refl _ _ _, ?_⟩
  rw [zZE (F:=zZO) rfl]
  simp only [zZO,zZv]
  clear h e1 hb o1 o2 hws hin hic
  generalize wordA ws s.i = w at *
  generalize ws.map D.str = WS at *
  generalize ks.map kI = KI at *
  generalize tk.map D.str = AL at *
  rcases htd with rfl | rfl | ⟨ia,rfl,hia⟩ <;> walk_at "ev1"
def takeNumA (ws : List Str) (lo hi : Int) (s : RS) : RO Int:=match numOf (wordA ws s.i) with
 | some v=>if lo ≤ v ∧ v ≤ hi then .ok v { s with i:=s.i + 1 } else .bad s.i
 | none=>.bad s.i
theorem zZCv (n : Nat) (W : Wd) (rd ca : Nat) (ws : List Str) (ks : List Kd) (s : RS) (hws : WsOK ws) (h : RdAt W rd ca ws ks s) (lo hi : Int) :
  Runs ((cfgN T (n + 2)).call yZY [.own rd,.int lo,.int hi] W) W rd ca ws ks D.int (takeNumA ws lo hi s):=by
 have hw:=xZU n W rd ca ws ks s h
 obtain ⟨o1,o2⟩:=zZBq hws s.i
 have hnm:=zZEf n (wordA ws s.i) W o1
 have hr:=h.rd_
 unfold rdC at hr
 have e1 : (((s.i + 1 : Nat)) : Int) = (s.i : Int) + 1:=by omega
 unfold takeNumA
 cases hb : numOf (wordA ws s.i) with
 | some v =>
  rw [hb] at hnm
  by_cases hm : lo ≤ v ∧ v ≤ hi
  ·dsimp only
   rw [if_pos hm]
   obtain ⟨g1,g2⟩:=hm
   obtain ⟨q1,q2⟩:=h.step
   refine ⟨_,q1,q2, ?_⟩
   rw [zZE (F:=zZK) rfl]
   simp only [zZK,zZd]
   unfold rdC
   rw [e1]
   clear q1 q2 h e1 hb o1 o2 hws
   simp only [optI] at *
   generalize wordA ws s.i = w at *
   generalize ws.map D.str = WS at *
   generalize ks.map kI = KI at *
   walk_at "ev1"
  ·dsimp only
   rw [if_neg hm]
   refine ⟨W,.refl _ _ _, ?_⟩
   rw [zZE (F:=zZK) rfl]
   simp only [zZK,zZd]
   clear h e1 hb o1 o2 hws
   simp only [optI] at *
   generalize wordA ws s.i = w at *
   generalize ws.map D.str = WS at *
   generalize ks.map kI = KI at *
   by_cases g1 : lo ≤ v
   ·have g2 : ¬ v ≤ hi:=fun z=>hm ⟨g1,z⟩
    clear hm
    walk_at "ev1"
   ·clear hm
    walk_at "ev1"
 | none =>
  rw [hb] at hnm
  refine ⟨W,.refl _ _ _, ?_⟩
  rw [zZE (F:=zZK) rfl]
  simp only [zZK,zZd]
  clear h e1 hb o1 o2 hws
  simp only [optI] at *
  generalize wordA ws s.i = w at *
  generalize ws.map D.str = WS at *
  generalize ks.map kI = KI at *
  walk_at "ev1"
local macro_rules | `(tactic| walk_at "ev2") => `(tactic| simp -implicitDefEqProofs (disch:=first | assumption | omega | (simp only [List.length_cons,List.length_nil,List.length_append,List.length_map]; done) | (simp only [List.length_cons,List.length_nil,List.length_append,List.length_map,limI,cap]; omega) | decide) only [yZS,zZAe,zZBE,zZEK,v_bl,zZDX,zZDv,zZDF,zZC6,zZC2,xZq,v_in,zZBC,v_eq,v_ne,v_lt,v_le,v_gt,v_ge,v_is,zZBB,
 zZEA,zZBA,zZDs,v_or,zZCZ,zZD7,zZCI,zZDc,zZDf,zZEI,zZEH,zZDh,v_sl,zZDU,zZAb,zZDr,zZBy,zZBu,zZCB,zZBf,zZBl,zZDu,zZAu,zZEC,zZDW,zZD6,zZD5,zZAi,zZAm,zZDy,zZDb,yZn,zZBt,yZ1,zZB9,zZAc,xZy,xZw,zZDM,zZDT,E.isVar,zZA3,xZT,zZAv,zZCa,zZA2,xZW,zZCU,
 v_of,zZD8,zZDV,zZB2,zZB0,zZDP,zZBk,zZAU,zZAz,zZAV,zZA8,yZ3,zZEE,zZA5,zZCH,xZ2,zZBw,zZDD,zZC7,zZAj,zZDp,zZt,zZCP,xZb,xZZ,zZA0,zZD3,xZu,yZj,zZBo,zZCY,zZCA,zZBg,zZBp,zZBv,zZCX,zZCd,xZ8,zZDt,xZr,zZCN,zZCF,
 zZAy,xZs,yZN,yZb,zZDE,zZCW,zZAp,zZAs,xZx,zZDI,zZDR,zZD4,zZBh,zZDJ,zZDK,c_lt,c_le,c_gt,c_ge,zZDd,zZDe,zZDB,zZD0,zZC8,zZDn,zZD1,zZDa,t_bl,zZDN,zZDm,zZDi,zZDG,zZDO,zZDY,zZC4,zZDx,yZC,yZt,zZED,zZCO,zZEG,zZEF,k_bl,
 zZCe,xZP,xZh,zZ1,zZA7,zZAa,zZAY,zZX,Option.bind_some,Option.map_some,List.getElem?_cons_zero,List.getElem?_cons_succ,List.set_cons_zero,List.set_cons_succ,List.map_cons,List.map_nil,List.length_cons,List.length_nil,List.cons_append,List.nil_append,List.replicate,
 decide_eq_true_eq,Int.reduceSub,Int.reduceAdd,Int.reduceNeg,Int.reduceLT,Int.reduceLE,Int.reduceEq,Nat.reduceAdd,Nat.reduceSub,List.getElem?_set,List.length_set,List.length_map,List.set_set,eq_self,Bool.false_eq_true,Int.reduceToNat,Int.toNat_natCast,Int.reducePow,Option.map_some,tyD,decide_true,decide_false,if_true,if_false,Bool.not_true,Bool.not_false,zZA9,zZAd,zZBx,xZg,zZCL,zZAS,yZ0,zZAL,zZAr,yZz,yZU,zZAg,zZAX,zZDg,zZAW,zZAf,xZQ,xZo,zZA1,yZs,zZBn,zZCS,zZAl,xZj,zZAt,yZi,zZAQ,Option.isNone_none,Option.isNone_some,Nat.reduceEqDiff,Nat.reduceLT,xZA,yZZ,zZCJ,zZAw,yZo,yZg,zZAx,zZAR,zZDw,zZAk,zZAZ,yZq,R.calm_ok,zZB3,zZDS,zZCV,zZAn,zZAO,zZDA,zZB8,yZh,yZl,zZCG,zZDC,zZDH,zZAT,zZAq,zZAN,zZAo,zZAP,zZBj,zZBe,xZO,xZ4,xZa,yZw,xZX,xZz,zZAK,xZe,zZCR,zZB7,yZx,yZr,yZX,v_gs,v_gk,zZEB,zZDo,zZDZ,zZB1,xZi,zZDQ,zZCQ,zZA6,zZBs,yZp,yZm,yZk,xZS,xZv,xZR,xZ1,xZt,xZV,xZk,xZn,xZ0,xZN,xZd,xZY,xZl,xZ3,xZc,xZf,xZm,zZDq,zZEJ,zZDL,zZDz,zZC1,zZCE,zZFt,zZEW,zZCw,zZEk,zZBm,zZCr,Option.map_some,cast0,cast1,cast2,cast3,cast4,cast5,List.append_nil,zZCc,zZ1,Int.zero_sub,s_te,s_tl,s_ta,s_ts,s_et,s_el,s_ea,s_es,s_lt,s_le,s_la,s_ls,s_at,s_ae,s_al,s_as,s_st,s_se,s_sl,s_sa,Option.isSome_none,Option.isSome_some,Bool.not_true,Bool.not_false,zZEn,zZEU,zZEZ,zZES,zZET,Bool.or_false,Bool.or_self,Bool.true_or,Bool.true_eq_false,zZP,xZ8, *])
def kfs (ks : List Kd) (k : Str) : List (Str × Int):=((kfind ks k).map fun k=>k.2).getD []
def prD (p : Str × Str) : D:=.tup [.str p.1,.str p.2]
def cdP (ks : List Kd) (c : Cd) : List (Str × Str):=(kfs ks c.k).map fun f=>(c.nm,f.1)
def allP (ks : List Kd) (cs : List Cd) : List (Str × Str):=cs.flatMap (cdP ks)
def pairsA (ks : List Kd) (cs : List Cd) (wo : List (Str × Str)) : List (Str × Str):=(allP ks cs).filter fun p => !decide (p ∈ wo)
structure CardsOK (ks : List Kd) (cs : List Cd) : Prop where
 l : cs.length ≤ 10
 k : ∀ c ∈ cs,∃ k,kfind ks c.k = some k ∧ k.2.length ≤ 10
 s : ∀ c ∈ cs,PySem.PyData.strOk c.nm = true
structure KindsOK (ks : List Kd) : Prop where
 l : ks.length ≤ 100
 f : ∀ k ∈ ks,∀ f ∈ k.2,PySem.PyData.strOk f.1 = true
theorem zZAM {ks : List Kd} {k : Str} {x : Kd} (h : kfind ks k = some x) : kfs ks k = x.2:=by
 unfold kfs
 rw [h]
 rfl
theorem CardsOK.tail {ks : List Kd} {c : Cd} {cs : List Cd} (h : CardsOK ks (c :: cs)) : CardsOK ks cs :=
 ⟨by have:=h.l; rw [List.length_cons] at this; omega,fun x hx=>h.k x (List.mem_cons_of_mem _ hx),fun x hx=>h.s x (List.mem_cons_of_mem _ hx)⟩
theorem zZFB {ks : List Kd} : ∀ {cs : List Cd},CardsOK ks cs → (allP ks cs).length ≤ 10 * cs.length
 | [],_=>by simp [allP]
 | c :: cs,h=>by
  obtain ⟨k,h1,h2⟩:=h.k c List.mem_cons_self
  have:=zZFB h.tail
  unfold allP at *
  rw [List.flatMap_cons,List.length_append,List.length_cons]
  have : (cdP ks c).length ≤ 10:=by unfold cdP; rw [List.length_map,zZAM h1]; exact h2
  omega
theorem zZF5 {ks : List Kd} {cs : List Cd} (K : KindsOK ks) (h : CardsOK ks cs) : ∀ p ∈ allP ks cs,PySem.PyData.strOk p.1 = true ∧ PySem.PyData.strOk p.2 = true:=by
 intro p hp
 obtain ⟨c,hc,hp⟩:=List.mem_flatMap.mp hp
 obtain ⟨f,hf,rfl⟩:=List.mem_map.mp hp
 obtain ⟨k,h1,_⟩:=h.k c hc
 rw [zZAM h1] at hf
 exact ⟨h.s c hc,K.f k (List.mem_of_find?_eq_some h1) f hf⟩
theorem zZLY {p : Str × Str} (h : PySem.PyData.strOk p.1 = true ∧ PySem.PyData.strOk p.2 = true) (n : Nat) : pd (n + 1) (prD p) = some (.tuple [.str p.1,.str p.2]):=by
 have e : ∀ s : Str,PySem.PyData.strOk s = true → pd n (.str s) = some (.str s):=fun s hs=>by
  cases n <;> (show (if PySem.PyData.strOk s = true then some (PyData.str s) else none) = _; rw [if_pos hs])
 show ([D.str p.1,.str p.2].mapM (pd n)).map PyData.tuple = _
 rw [List.mapM_cons,e _ h.1,List.mapM_cons,e _ h.2,List.mapM_nil]
 rfl
theorem zZNI (p q : Str × Str) : PySem.PyData.eqv (.tuple [.str p.1,.str p.2]) (.tuple [.str q.1,.str q.2]) = decide (p = q):=by
 obtain ⟨a,b⟩:=p
 obtain ⟨c,d⟩:=q
 have : PySem.PyData.eqv (.tuple [.str a,.str b]) (.tuple [.str c,.str d]) = ((a == c) && ((b == d) && true)):=by
  simp [PySem.PyData.eqv,PySem.PyData.eqvAll]
 rw [this,Bool.eq_iff_iff]
 simp
theorem zZLy {p : Str × Str} (hp : PySem.PyData.strOk p.1 = true ∧ PySem.PyData.strOk p.2 = true) (l : List (Str × Str)) (hl : ∀ x ∈ l,PySem.PyData.strOk x.1 = true ∧ PySem.PyData.strOk x.2 = true) : indD (prD p) (l.map prD) = some (decide (p ∈ l)):=by
 have key : ∀ l : List (Str × Str),(∀ x ∈ l,PySem.PyData.strOk x.1 = true ∧ PySem.PyData.strOk x.2 = true) → ∃ ds,(l.map prD).mapM (pd 59) = some ds ∧ (ds.any fun z=>PySem.PyData.eqv z (.tuple [.str p.1,.str p.2])) = decide (p ∈ l):=by
  intro l
  induction l with
  | nil=>intro _; exact ⟨[],rfl,by simp⟩
  | cons x l ih =>
   intro hl
   obtain ⟨ds,h1,h2⟩:=ih fun y hy=>hl y (List.mem_cons_of_mem _ hy)
   refine ⟨.tuple [.str x.1,.str x.2] :: ds, ?_, ?_⟩
   ·rw [List.map_cons,List.mapM_cons,zZLY (hl x List.mem_cons_self) 58,h1]
    rfl
   ·rw [List.any_cons,h2,zZNI,Bool.eq_iff_iff,Bool.or_eq_true,decide_eq_true_eq,decide_eq_true_eq,decide_eq_true_eq,List.mem_cons,eq_comm]
 obtain ⟨ds,h1,h2⟩:=key l hl
 unfold indD
 rw [zZLY hp 59,Option.bind_some,h1,Option.map_some,h2]
/-- what is left out: nothing,or one pair -/
def woD : List (Str × Str) → D
 | []=>.kt []
 | l=>.tup (l.map prD)
theorem zZM2 {p : Str × Str} (hp : PySem.PyData.strOk p.1 = true ∧ PySem.PyData.strOk p.2 = true) (wo : List (Str × Str)) (hl : ∀ x ∈ wo,PySem.PyData.strOk x.1 = true ∧ PySem.PyData.strOk x.2 = true) : kinD true (prD p) (woD wo) = some (.bl (!decide (p ∈ wo))):=by
 have h:=zZLy hp wo hl
 have : kinL (woD wo) = some (wo.map prD):=by cases wo <;> rfl
 unfold kinD
 rw [this,Option.bind_some,h]
 rfl
theorem zZMj (n : Nat) (W : Wd) (rd ca : Nat) (ws : List Str) (ks : List Kd) (s : RS) (h : RdAt W rd ca ws ks s) (wd : D) : ∀ (l : List Cd) (acc : List (Str × Str)) (z3 z4 z5 : Slot),CardsOK ks l → acc.length + 10 * l.length ≤ 1000 → ∃ z3' z4' z5',
  forK (ckL (cfgN T (n + 1)) ca (s.cs.map cdD)) (tgD (.tup (.cons (.nm 3) (.cons (.nm 4) (.cons (.nm 5) .nil))))) (exS (cfgN T (n + 1)) (forCB zZc)) (l.map cdD) [.val (.own rd),.val wd,.ol (acc.map prD),z3,z4,z5,.no,.no] W =
   .ok (.nx [.val (.own rd),.val wd,.ol ((acc ++ allP ks l).map prD),z3',z4',z5',.no,.no]) W:=by
 have hck : ckL (cfgN T (n + 1)) ca (s.cs.map cdD) W = true:=zZLW h.ca_
 have hr:=h.rd_
 unfold rdC at hr
 simp only [zZc,forCB]
 intro l
 induction l with
 | nil =>
  intro acc z3 z4 z5 _ _
  refine ⟨z3,z4,z5, ?_⟩
  unfold allP
  rw [List.flatMap_nil,List.append_nil]
  exact zZLG hck
 | cons c l ih =>
  intro acc z3 z4 z5 hk hb
  rw [List.length_cons] at hb
  obtain ⟨k,h1,h2⟩:=hk.k c List.mem_cons_self
  have hkf:=zZAM h1
  have hle : (cdP ks c).length ≤ 10:=by unfold cdP; rw [List.length_map,hkf]; exact h2
  obtain ⟨y3,y4,y5,hz⟩:=ih (acc ++ cdP ks c) (.val (.str c.nm)) (.val (.str c.k)) (.val (.tup (c.ns.map .str))) hk.tail (by rw [List.length_append]; omega)
  refine ⟨y3,y4,y5, ?_⟩
  have e : acc ++ allP ks (c :: l) = (acc ++ cdP ks c) ++ allP ks l:=by
   unfold allP
   rw [List.flatMap_cons,List.append_assoc]
  rw [e,← hz,List.map_cons,zZJm hck,List.map_append]
  have hkn:=zZFp n ks c.k (.lst (ks.map kI)) W (.inr rfl)
  rw [h1] at hkn
  have ek : kopt (some k) = kI k:=rfl
  rw [ek] at hkn
  have hcomp : ∀ (y0 y1 y2 y4 y6 : Slot) (b : Bool),compR (cfgN T (n + 1)) (.tup (.cons (.var 3) (.cons (.var 7) .nil))) (.tup (.cons (.nm 7) (.cons (.nm 5) .nil))) .nil [y0,y1,y2,.val (.str c.nm),y4,.val (.tup (c.ns.map .str)),y6,.no] (k.2.map flD,b) W = .ok ((cdP ks c).map prD) W:=by
   intro y0 y1 y2 y4 y6 b
   have em : (cdP ks c).map prD = k.2.map fun f=>prD (c.nm,f.1):=by
    unfold cdP
    rw [hkf,List.map_map]
    rfl
   rw [em]
   refine yZK flD (fun f=>prD (c.nm,f.1)) k.2 (by unfold cap; omega) fun f _=>⟨_,rfl, ?_⟩
   rfl
  have hc2 : (acc.map prD).length + ((cdP ks c).map prD).length ≤ cap:=by rw [List.length_map,List.length_map]; unfold cap; omega
  clear ih hz e hck hkf hle hk hb h1 h
  simp only [cdD,kI,flsD] at *
  generalize (cdP ks c).map prD = CP at *
  generalize acc.map prD = AC at *
  generalize k.2.map flD = FL at *
  generalize ws.map D.str = WS at *
  generalize ks.map _ = KI at *
  generalize c.ns.map D.str = NS at *
  walk_at "ev2"
theorem zZIh : zZc = .seq (.asgO 2 (.disp .nil)) (.seq (.forC (.tup (.cons (.nm 3) (.cons (.nm 4) (.cons (.nm 5) .nil)))) false (.fld 28 (.var 0)) (forCB zZc)) (.seq (.ret (.frz (.comp (.var 6) (.nm 6) (.seq (.var 2)) (.cons (.kin true (.var 6) (.var 1)) .nil)))) .skip)):=rfl
theorem zZF1 (n : Nat) (W : Wd) (rd ca : Nat) (ws : List Str) (ks : List Kd) (s : RS) (K : KindsOK ks) (h : RdAt W rd ca ws ks s) (hc : CardsOK ks s.cs) (wo : List (Str × Str)) (hwo : ∀ x ∈ wo,PySem.PyData.strOk x.1 = true ∧ PySem.PyData.strOk x.2 = true) :
  bnd (exS (cfgN T (n + 1)) zZc [.val (.own rd),.val (woD wo),.no,.no,.no,.no,.no,.no] W) endR .mk = .ok (.lst ((pairsA ks s.cs wo).map prD)) W:=by
 have hcl:=hc.l
 obtain ⟨z3,z4,z5,hz⟩:=zZMj n W rd ca ws ks s h (woD wo) s.cs [] .no .no .no hc (by simp only [List.length_nil]; omega)
 rw [List.nil_append,List.map_nil] at hz
 have hal:=zZFB hc
 have hcomp : ∀ (y0 y2 y3 y4 y5 y7 : Slot) (b : Bool),compR (cfgN T (n + 1)) (.var 6) (.nm 6) (.cons (.kin true (.var 6) (.var 1)) .nil) [y0,.val (woD wo),y2,y3,y4,y5,.no,y7] ((allP ks s.cs).map prD,b) W = .ok ((pairsA ks s.cs wo).map prD) W:=by
  intro y0 y2 y3 y4 y5 y7 b
  refine yZv prD prD (fun p => !decide (p ∈ wo)) (allP ks s.cs) (by unfold cap; omega) fun p hp=>⟨_,rfl, ?_,fun _=>rfl⟩
  have hk:=zZM2 (zZF5 K hc p hp) wo hwo
  show evTs _ _ [y0,.val (woD wo),y2,y3,y4,y5,.val (prD p),y7] W = _
  clear hz h hal hc hwo
  generalize prD p = P at *
  generalize woD wo = WO at *
  cases hb : !decide (p ∈ wo) with
  | true =>
   rw [hb] at hk
   clear hb
   walk_at "ev2"
  | false =>
   rw [hb] at hk
   clear hb
   walk_at "ev2"
 have hr:=h.rd_
 have hca:=h.ca_
 unfold rdC at hr
 have hc0 : 0 ≤ cap:=by decide
 have hcs : (s.cs.map cdD).length ≤ cap:=by rw [List.length_map]; unfold cap; omega
 rw [zZIh]
 generalize forCB zZc = FB at *
 clear h hc hal K hwo hcl
 generalize woD wo = WO at *
 generalize (allP ks s.cs).map prD = AP at *
 generalize (pairsA ks s.cs wo).map prD = PA at *
 generalize ws.map D.str = WS at *
 generalize ks.map kI = KI at *
 generalize s.cs.map cdD = CS at *
 walk_at "ev2"
theorem zZJI (n : Nat) (W : Wd) (rd ca : Nat) (ws : List Str) (ks : List Kd) (s : RS) (K : KindsOK ks) (h : RdAt W rd ca ws ks s) (hc : CardsOK ks s.cs) (wo : List (Str × Str)) (hwo : ∀ x ∈ wo,PySem.PyData.strOk x.1 = true ∧ PySem.PyData.strOk x.2 = true) :
  (cfgN T (n + 2)).call xZB [.own rd,woD wo] W = .ok (.lst ((pairsA ks s.cs wo).map prD)) W:=by
 rw [zZE (F:=yZ9) rfl,yZS rfl]
 exact zZF1 n W rd ca ws ks s K h hc wo hwo
theorem zZI3 (n : Nat) (W : Wd) (rd ca : Nat) (ws : List Str) (ks : List Kd) (s : RS) (K : KindsOK ks) (h : RdAt W rd ca ws ks s) (hc : CardsOK ks s.cs) :
  (cfgN T (n + 2)).call xZB [.own rd] W = .ok (.lst ((pairsA ks s.cs []).map prD)) W:=by
 rw [zZE (F:=yZ9) rfl,zZIY (by show (1 : Nat) ≠ 2; decide) rfl]
 exact zZF1 n W rd ca ws ks s K h hc [] (by simp)
def takeValA (ws : List Str) (ks : List Kd) (wo : List (Str × Str)) (s : RS) : RO (Str × Str) :=
 (takeA ws ((pairsA ks s.cs wo).map fun p=>p.1) s).bind fun c s1=>(takeA ws (((pairsA ks s.cs wo).filter fun p=>decide (p.1 = c)).map fun p=>p.2) s1).bind fun v s2=>.ok (c,v) s2
theorem yZW {ws al : List Str} {s s1 : RS} {w : Str} (h : takeA ws al s = .ok w s1) : s1.cs = s.cs ∧ w ∈ al ∧ s1.i = s.i + 1 ∧ s.i < ws.length ∧ wordA ws s.i = w:=by
 unfold takeA at h
 split at h
 ·rename_i hh
  cases h
  exact ⟨rfl,hh.2,rfl,hh.1,rfl⟩
 ·cases h
theorem zZKy {ks : List Kd} {cs : List Cd} {wo : List (Str × Str)} (K : KindsOK ks) (h : CardsOK ks cs) : ∀ p ∈ pairsA ks cs wo,PySem.PyData.strOk p.1 = true ∧ PySem.PyData.strOk p.2 = true:=fun p hp=>zZF5 K h p ((List.mem_filter.mp hp).1)
theorem zZII (n : Nat) (W : Wd) (rd ca : Nat) (ws : List Str) (ks : List Kd) (s : RS) (K : KindsOK ks) (h : RdAt W rd ca ws ks s) (hc : CardsOK ks s.cs) (wo : List (Str × Str)) (hwo : ∀ x ∈ wo,PySem.PyData.strOk x.1 = true ∧ PySem.PyData.strOk x.2 = true) :
  Runs (bnd (exS (cfgN T (n + 2)) yZG [.val (.own rd),.val (woD wo),.no,.no,.no] W) endR .mk) W rd ca ws ks prD (takeValA ws ks wo s):=by
 have hcl:=hc.l
 have hp:=zZJI n W rd ca ws ks s K h hc wo hwo
 have hpl : (pairsA ks s.cs wo).length ≤ 100:=by
  have h1:=zZFB hc
  have h2 : (pairsA ks s.cs wo).length ≤ (allP ks s.cs).length:=List.length_filter_le ..
  omega
 have hcA : ∀ (W : Wd) (y0 y1 y2 y3 : Slot) (b : Bool),compR (cfgN T (n + 2)) (.idx (.var 4) (.int 0)) (.nm 4) .nil [y0,y1,y2,y3,.no] ((pairsA ks s.cs wo).map prD,b) W = .ok (((pairsA ks s.cs wo).map fun p=>p.1).map .str) W:=by
  intro W y0 y1 y2 y3 b
  rw [List.map_map]
  refine yZK prD (fun p=>.str p.1) _ (by unfold cap; omega) fun p _=>⟨_,rfl, ?_⟩
  show evE _ _ [y0,y1,y2,y3,.val (prD p)] W = _
  have q0 : ∀ (a : D) (r : List D),atD (a :: r) (.int 0) = some a:=fun a r=>yZF (n:=0) rfl
  clear hp h hc K hwo
  simp only [prD]
  walk_at "ev2"
 have ht1:=zZCK n W rd ca ws ks s h ((pairsA ks s.cs wo).map fun p=>p.1) (.lst (((pairsA ks s.cs wo).map fun p=>p.1).map .str)) (.inr rfl)
 have hr:=h.rd_
 unfold rdC at hr
 have hB : yZG = .seq (.asg (.nm 2) (.meth 37 (.var 0) (.cons (.var 1) .nil))) (.seq (.asg (.nm 3) (.meth 34 (.var 0) (.cons (.frz (.comp (.idx (.var 4) (.int 0)) (.nm 4) (.seq (.var 2)) .nil)) .nil))) (.seq (.ret (.tup (.cons (.var 3) (.cons (.meth 34 (.var 0) (.cons (.frz (.comp (.idx (.var 4) (.int 1)) (.nm 4) (.seq (.var 2)) (.cons (.cmp .eq (.idx (.var 4) (.int 0)) (.var 3)) .nil))) .nil)) .nil)))) .skip)):=rfl
 unfold takeValA
 have hcA':=hcA W
 cases ho : takeA ws ((pairsA ks s.cs wo).map fun p=>p.1) s with
 | bad i =>
  rw [ho] at ht1
  obtain ⟨W1,st1,e1⟩:=ht1
  refine ⟨W1,st1, ?_⟩
  rw [hB]
  clear ho st1 hcA hB h hc K hwo hpl hcl
  generalize woD wo = WO at *
  generalize (((pairsA ks s.cs wo).map fun p=>p.1).map D.str) = P1 at *
  generalize (pairsA ks s.cs wo).map prD = PA at *
  generalize ws.map D.str = WS at *
  generalize ks.map kI = KI at *
  walk_at "ev2"
 | ok c s1 =>
  obtain ⟨z1,-,-,-,-⟩:=yZW ho
  rw [ho] at ht1
  obtain ⟨W1,r1,st1,e1⟩:=ht1
  have hcB : ∀ (y0 y1 y2 : Slot) (b : Bool),compR (cfgN T (n + 2)) (.idx (.var 4) (.int 1)) (.nm 4) (.cons (.cmp .eq (.idx (.var 4) (.int 0)) (.var 3)) .nil) [y0,y1,y2,.val (.str c),.no] ((pairsA ks s.cs wo).map prD,b) W1 = .ok ((((pairsA ks s.cs wo).filter fun p=>decide (p.1 = c)).map fun p=>p.2).map .str) W1:=by
   intro y0 y1 y2 b
   rw [List.map_map]
   have q0 : ∀ (a : D) (r : List D),atD (a :: r) (.int 0) = some a:=fun a r=>yZF (n:=0) rfl
   have q1 : ∀ (a b : D) (r : List D),atD (a :: b :: r) (.int 1) = some b:=fun a b r=>yZF (n:=1) rfl
   refine yZv prD (fun p=>.str p.2) (fun p=>decide (p.1 = c)) _ (by unfold cap; omega) fun p _=>⟨_,rfl, ?_,fun _ => ?_⟩
   ·show evTs _ _ [y0,y1,y2,.val (.str c),.val (prD p)] W1 = _
    clear hp h hc K hwo hcA hcA' ho e1 r1 st1
    simp only [prD]
    walk_at "ev2"
   ·show evE _ _ [y0,y1,y2,.val (.str c),.val (prD p)] W1 = _
    clear hp h hc K hwo hcA hcA' ho e1 r1 st1
    simp only [prD]
    walk_at "ev2"
  have ht2:=zZCK n W1 rd ca ws ks s1 r1 (((pairsA ks s.cs wo).filter fun p=>decide (p.1 = c)).map fun p=>p.2) (.lst ((((pairsA ks s.cs wo).filter fun p=>decide (p.1 = c)).map fun p=>p.2).map .str)) (.inr rfl)
  have hr1:=r1.rd_
  unfold rdC at hr1
  have hc2 : 2 ≤ cap:=by decide
  show Runs _ W rd ca ws ks prD ((takeA ws (((pairsA ks s.cs wo).filter fun p=>decide (p.1 = c)).map fun p=>p.2) s1).bind fun v s2=>.ok (c,v) s2)
  cases ho2 : takeA ws (((pairsA ks s.cs wo).filter fun p=>decide (p.1 = c)).map fun p=>p.2) s1 with
  | bad i =>
   rw [ho2] at ht2
   obtain ⟨W2,st2,e2⟩:=ht2
   refine ⟨W2,st1.trans st2, ?_⟩
   rw [hB]
   clear ho ho2 st1 st2 hcA hB h hc K hwo hpl hcl r1
   generalize woD wo = WO at *
   generalize (((pairsA ks s.cs wo).map fun p=>p.1).map D.str) = P1 at *
   generalize ((((pairsA ks s.cs wo).filter fun p=>decide (p.1 = c)).map fun p=>p.2).map D.str) = P2 at *
   generalize (pairsA ks s.cs wo).map prD = PA at *
   generalize ws.map D.str = WS at *
   generalize ks.map kI = KI at *
   walk_at "ev2"
  | ok v s2 =>
   rw [ho2] at ht2
   obtain ⟨W2,r2,st2,e2⟩:=ht2
   refine ⟨W2,r2,st1.trans st2, ?_⟩
   rw [hB]
   clear ho ho2 st1 st2 hcA hB h hc K hwo hpl hcl r1 r2
   simp only [prD]
   generalize woD wo = WO at *
   generalize (((pairsA ks s.cs wo).map fun p=>p.1).map D.str) = P1 at *
   generalize ((((pairsA ks s.cs wo).filter fun p=>decide (p.1 = c)).map fun p=>p.2).map D.str) = P2 at *
   generalize (pairsA ks s.cs wo).map _ = PA at *
   generalize ws.map D.str = WS at *
   generalize ks.map kI = KI at *
   walk_at "ev2"
theorem zZMz (n : Nat) (W : Wd) (rd ca : Nat) (ws : List Str) (ks : List Kd) (s : RS) (K : KindsOK ks) (h : RdAt W rd ca ws ks s) (hc : CardsOK ks s.cs) (wo : List (Str × Str)) (hwo : ∀ x ∈ wo,PySem.PyData.strOk x.1 = true ∧ PySem.PyData.strOk x.2 = true) :
  Runs ((cfgN T (n + 3)).call yZH [.own rd,woD wo] W) W rd ca ws ks prD (takeValA ws ks wo s):=by
 rw [zZE (F:=yZI) rfl,yZS rfl]
 exact zZII n W rd ca ws ks s K h hc wo hwo
theorem zZMW (n : Nat) (W : Wd) (rd ca : Nat) (ws : List Str) (ks : List Kd) (s : RS) (K : KindsOK ks) (h : RdAt W rd ca ws ks s) (hc : CardsOK ks s.cs) :
  Runs ((cfgN T (n + 3)).call yZH [.own rd] W) W rd ca ws ks prD (takeValA ws ks [] s):=by
 rw [zZE (F:=yZI) rfl,zZIY (by show (1 : Nat) ≠ 2; decide) rfl]
 exact zZII n W rd ca ws ks s K h hc [] (by simp)
theorem zZJg (fs : List (Str × Int)) : (fs.map flD).mapM pairOf = some (fs.map fun f=>(D.str f.1,D.int f.2)):=by
 induction fs with
 | nil=>rfl
 | cons f fs ih =>
  rw [List.map_cons,List.mapM_cons,ih]
  rfl
theorem zZJ0 (fs : List (Str × Int)) : keysD ((fs.map fun f=>(D.str f.1,D.int f.2)).map (·.1)) = some (fs.map fun f=>Sum.inr f.1):=by
 induction fs with
 | nil=>rfl
 | cons f fs ih =>
  simp only [List.map_cons,keysD,keyD,Option.bind_some] at ih ⊢
  rw [ih]
  rfl
theorem zZLs {fs : List (Str × Int)} (hn : (fs.map fun f=>f.1).Nodup) (hl : fs.length ≤ 1000) : dofD (flsD fs) = some (.dct (fs.map fun f=>(D.str f.1,D.int f.2))):=by
 show ((fs.map flD).mapM pairOf).bind _ = _
 rw [zZJg,Option.bind_some,zZJ0,Option.bind_some,if_pos]
 refine ⟨?_,by rw [List.length_map]; unfold cap; omega⟩
 have : (fs.map fun f=>(Sum.inr f.1 : Ky)) = (fs.map fun f=>f.1).map Sum.inr:=by rw [List.map_map]; rfl
 rw [this]
 exact hn.map Sum.inr fun a b h e=>h (Sum.inr.inj e)
theorem zZKq {fs : List (Str × Int)} {x : Str} {f : Str × Int} (h : (fs.find? fun f=>decide (f.1 = x)) = some f) : lookK (.inr x) (fs.map fun f=>(D.str f.1,D.int f.2)) = some (.int f.2):=by
 unfold lookK
 induction fs with
 | nil=>cases h
 | cons g fs ih =>
  rw [List.find?_cons] at h
  rw [List.map_cons,List.find?_cons]
  by_cases e : g.1 = x
  ·rw [decide_eq_true e] at h
   simp only [Option.some.injEq] at h
   subst h
   have : decide (keyD (D.str g.1,D.int g.2).1 = some (Sum.inr x)) = true:=decide_eq_true (by rw [← e]; rfl)
   rw [this]
   rfl
  ·rw [decide_eq_false e] at h
   have : decide (keyD (D.str g.1,D.int g.2).1 = some (Sum.inr x)) = false:=decide_eq_false (fun z=>e (by
    have z : (some (Sum.inr g.1) : Option Ky) = some (Sum.inr x):=z
    exact Sum.inr.inj (Option.some.inj z)))
   rw [this]
   exact ih h
/-- where a pair is found -/
structure PrAt (ks : List Kd) (cs : List Cd) (p : Str × Str) (z : Int) : Prop where
 ex : ∃ (c : Cd) (r : List Cd) (k : Kd) (f : Str × Int),(cs.filter fun c=>decide (c.nm = p.1)) = c :: r ∧ kfind ks c.k = some k ∧ (k.2.find? fun f=>decide (f.1 = p.2)) = some f ∧ f.2 = z ∧ (k.2.map fun f=>f.1).Nodup ∧ k.2.length ≤ 1000
theorem zZFQ (n : Nat) (W : Wd) (rd ca : Nat) (ws : List Str) (ks : List Kd) (s : RS) (h : RdAt W rd ca ws ks s) (hl : s.cs.length ≤ 10) (p : Str × Str) (z : Int) (hz : PrAt ks s.cs p z) :
  (cfgN T (n + 2)).call xZM [.own rd,prD p] W = .ok (.int z) W:=by
 obtain ⟨c,r,k,f,h1,h2,h3,rfl,h5,h6⟩:=hz.ex
 have hkn:=zZFp n ks c.k (.lst (ks.map kI)) W (.inr rfl)
 rw [h2] at hkn
 have ek : kopt (some k) = kI k:=rfl
 rw [ek] at hkn
 have hd:=zZLs h5 h6
 have hlk:=zZKq h3
 have hr:=h.rd_
 have hca:=h.ca_
 unfold rdC at hr
 have q0 : ∀ (a : D) (r : List D),atD (a :: r) (.int 0) = some a:=fun a r=>yZF (n:=0) rfl
 have q1 : ∀ (a b : D) (r : List D),atD (a :: b :: r) (.int 1) = some b:=fun a b r=>yZF (n:=1) rfl
 have hcomp : ∀ (y0 y2 : Slot),compCR (cfgN T (n + 1)) (.var 4) (.tup (.cons (.nm 3) (.cons (.nm 4) (.cons (.nm 5) .nil)))) (.cons (.cmp .eq (.var 3) (.idx (.var 1) (.int 0))) .nil) [y0,.val (prD p),y2,.no,.no,.no] false (ca,s.cs.map cdD) W = .ok (.str c.k :: r.map fun c=>.str c.k) W:=by
  intro y0 y2
  have:=zZEM (g:=cfgN T (n + 1)) (elt:=.var 4) (t:=.tup (.cons (.nm 3) (.cons (.nm 4) (.cons (.nm 5) .nil)))) (ifs:=.cons (.cmp .eq (.var 3) (.idx (.var 1) (.int 0))) .nil) (e:=[y0,.val (prD p),y2,.no,.no,.no]) cdD (fun c=>D.str c.k) (fun c=>decide (c.nm = p.1)) s.cs hca (by unfold cap; omega) fun x _=>⟨_,rfl, ?_,fun _=>rfl⟩
  ·rw [this,h1]
   rfl
  ·show evTs _ _ [y0,.val (prD p),y2,.val (.str x.nm),.val (.str x.k),.val (.tup (x.ns.map .str))] W = _
   clear hkn hd hlk hr hca h h1 h2 h3 h5 h6
   simp only [prD]
   walk_at "ev2"
 rw [zZE (F:=xZL) rfl]
 simp only [xZL,zZBQ]
 clear h h1 h2 h3 h5 h6 ek hl
 simp only [prD,kI] at *
 generalize flsD k.2 = FS at *
 generalize (k.2.map fun f=>(D.str f.1,D.int f.2)) = KV at *
 generalize s.cs.map cdD = CS at *
 generalize ws.map D.str = WS at *
 generalize ks.map _ = KI at *
 generalize (r.map fun c=>D.str c.k) = R at *
 walk_at "ev2"
theorem zZa {g : Cfg} {a b : DL.S} {e e1 : Env} {W W1 : Wd} (h : exS g a e W = .ok (.nx e1) W1) : exS g (.seq a b) e W = exS g b e1 W1:=by
 rw [yZ3,h]
 rfl
theorem yZD {g : Cfg} {a b : DL.S} {e : Env} {W W1 : Wd} {c : Nat} {p : D} (h : exS g a e W = .ex c p W1) : exS g (.seq a b) e W = .ex c p W1:=by
 rw [yZ3,h]
 rfl
theorem zZIO {g : Cfg} {c : E} {b : DL.S} {f : Nat} {e : Env} {W : Wd} (h1 : evE g c e W = .ok (.bl true) W) : whileL (evE g c) (exS g b) (f + 1) e W = bnd (exS g b e W) (whK (evE g c) (exS g b) f) .mk:=by
 rw [zZBc,h1]
 rfl
theorem zZCq {g : Cfg} {c : E} {b : DL.S} {f : Nat} {e : Env} {W : Wd} (h1 : evE g c e W = .ok (.bl false) W) : whileL (evE g c) (exS g b) (f + 1) e W = .ok (.nx e) W:=by
 rw [zZBc,h1]
 rfl
theorem zZFo {g : Cfg} {c : E} {b : DL.S} {f k : Nat} {p : D} {e : Env} {W W1 : Wd} (h1 : evE g c e W = .ok (.bl true) W) (h2 : exS g b e W = .ex k p W1) : whileL (evE g c) (exS g b) (f + 1) e W = .ex k p W1:=by
 rw [zZIO h1,h2]
 rfl
theorem zZBi {g : Cfg} {c : E} {b : DL.S} {f : Nat} {e e1 : Env} {W W1 : Wd} (h1 : evE g c e W = .ok (.bl true) W) (h2 : exS g b e W = .ok (.nx e1) W1) : whileL (evE g c) (exS g b) (f + 1) e W = whileL (evE g c) (exS g b) f e1 W1:=by
 rw [zZIO h1,h2]
 rfl
def issA (ws : List Str) : Nat → List Str → RS → RO (List Str)
 | 0,ns,s=>.ok ns s
 | m + 1,ns,s=>if isNm (wordA ws s.i) = true ∧ ns.length < 3 then (takeNmA ws ns s).bind fun w s1=>issA ws m (ns ++ [w]) s1 else .ok ns s
structure Stay3 (W W' : Wd) (rd ca ia : Nat) : Prop where
 l : W.length ≤ W'.length
 g : ∀ a,a < W.length → a ≠ rd → a ≠ ca → a ≠ ia → W'[a]? = W[a]?
theorem Stay3.trans {A B C : Wd} {rd ca ia : Nat} (h1 : Stay3 A B rd ca ia) (h2 : Stay3 B C rd ca ia) : Stay3 A C rd ca ia:=⟨Nat.le_trans h1.l h2.l,fun a z x y w=>(h2.g a (Nat.lt_of_lt_of_le z h1.l) x y w).trans (h1.g a z x y w)⟩
theorem Stay.to3 {A B : Wd} {rd ca ia : Nat} (h1 : Stay A B rd ca) : Stay3 A B rd ca ia:=⟨h1.l,fun a z x y _=>h1.g a z x y⟩
abbrev issC : E:=.and (.cons (.call zZCf (.cons (.meth 33 (.var 0) .nil) .nil)) (.cons (.cmp .lt (.b1 .len (.var 3)) (.int 3)) .nil))
abbrev issB : DL.S:=.seq (.append (.var 3) (.meth 35 (.var 0) (.cons (.var 3) .nil))) .skip
theorem zZHW (n : Nat) (W : Wd) (rd ca ia : Nat) (ws : List Str) (ks : List Kd) (s : RS) (hws : WsOK ws) (h : RdAt W rd ca ws ks s) (ns : List Str) (hi : W[ia]? = some (.lst (ns.map .str))) (y1 y2 y4 y5 : Slot) :
  evE (cfgN T (n + 2)) issC [.val (.own rd),y1,y2,.val (.own ia),y4,y5] W = .ok (.bl (isNm (wordA ws s.i) && decide (ns.length < 3))) W:=by
 have hw:=xZU (n + 1) W rd ca ws ks s h
 obtain ⟨o1,o2⟩:=zZBq hws s.i
 have hnm:=zZFr (n + 1) (wordA ws s.i) W o2 o1
 have hr:=h.rd_
 unfold rdC at hr
 have hl : ((ns.map D.str).length : Int) = (ns.length : Int):=by rw [List.length_map]
 cases hb : isNm (wordA ws s.i) with
 | false =>
  rw [hb] at hnm
  clear h hb o1 o2 hws hl
  generalize wordA ws s.i = w at *
  generalize ns.map D.str = NS at *
  generalize ws.map D.str = WS at *
  generalize ks.map kI = KI at *
  rw [Bool.false_and]
  walk_at "ev2"
 | true =>
  rw [hb] at hnm
  rw [Bool.true_and]
  by_cases g : ns.length < 3
  ·have g1 : ((ns.map D.str).length : Int) < 3:=by rw [hl]; omega
   rw [decide_eq_true g]
   clear h hb o1 o2 hws hl g
   generalize wordA ws s.i = w at *
   generalize ns.map D.str = NS at *
   generalize ws.map D.str = WS at *
   generalize ks.map kI = KI at *
   walk_at "ev2" <;> rfl
  ·have g1 : ¬ ((ns.map D.str).length : Int) < 3:=by rw [hl]; omega
   rw [decide_eq_false g]
   clear h hb o1 o2 hws hl g
   generalize wordA ws s.i = w at *
   generalize ns.map D.str = NS at *
   generalize ws.map D.str = WS at *
   generalize ks.map kI = KI at *
   walk_at "ev2" <;> rfl
theorem xZ9 {ws tk : List Str} {s s1 : RS} {w : Str} (h : takeNmA ws tk s = .ok w s1) : s1.cs = s.cs ∧ isNm w = true ∧ w ∉ tk ∧ s1.i = s.i + 1 ∧ wordA ws s.i = w:=by
 unfold takeNmA at h
 split at h
 ·rename_i hh
  cases h
  exact ⟨rfl,hh.1,hh.2,rfl,rfl⟩
 ·cases h
theorem zZKz (n : Nat) (rd ca ia : Nat) (ws : List Str) (ks : List Kd) (hws : WsOK ws) (h1 : ia ≠ rd) (h2 : ia ≠ ca) (y1 y2 y4 y5 : Slot) : ∀ (m fuel : Nat) (ns : List Str) (s : RS) (W : Wd),3 ≤ ns.length + m → m < fuel → ns.length ≤ 10 → RdAt W rd ca ws ks s → W[ia]? = some (.lst (ns.map .str)) →
  match issA ws m ns s with
  | .ok ns' s' => ∃ W',RdAt W' rd ca ws ks s' ∧ s'.cs = s.cs ∧ W'[ia]? = some (.lst (ns'.map .str)) ∧ ns'.length ≤ ns.length + m ∧ Stay3 W W' rd ca ia ∧ whileL (evE (cfgN T (n + 2)) issC) (exS (cfgN T (n + 2)) issB) fuel [.val (.own rd),y1,y2,.val (.own ia),y4,y5] W = .ok (.nx [.val (.own rd),y1,y2,.val (.own ia),y4,y5]) W'
  | .bad i => ∃ W',Stay3 W W' rd ca ia ∧ whileL (evE (cfgN T (n + 2)) issC) (exS (cfgN T (n + 2)) issB) fuel [.val (.own rd),y1,y2,.val (.own ia),y4,y5] W = .ex zZC (.tup [.int (i : Int)]) W':=by
 intro m
 induction m with
 | zero =>
  intro fuel ns s W hm hf hl h hi
  have hc:=zZHW n W rd ca ia ws ks s hws h ns hi y1 y2 y4 y5
  have hd : decide (ns.length < 3) = false:=decide_eq_false (by omega)
  rw [hd,Bool.and_false] at hc
  refine ⟨W,h,rfl,hi,Nat.le_refl _,⟨Nat.le_refl _,fun _ _ _ _ _=>rfl⟩, ?_⟩
  match fuel,hf with
  | f + 1,_ =>
   rw [zZBc,hc]
   rfl
 | succ m ih =>
  intro fuel ns s W hm hf hl h hi
  have hc:=zZHW n W rd ca ia ws ks s hws h ns hi y1 y2 y4 y5
  match fuel,hf with
  | f + 1,hf =>
   unfold issA
   by_cases hg : isNm (wordA ws s.i) = true ∧ ns.length < 3
   ·rw [if_pos hg]
    rw [hg.1,decide_eq_true hg.2,Bool.and_true] at hc
    have ht:=zZCT n W rd ca ws ks s hws h ns (.own ia) (.inr (.inr ⟨ia,rfl,hi⟩))
    have hr:=h.rd_
    unfold rdC at hr
    have hls:=zZFe hi
    cases ho : takeNmA ws ns s with
    | bad i =>
     rw [ho] at ht
     obtain ⟨W1,st,e1⟩:=ht
     refine ⟨W1,st.to3, ?_⟩
     have hb : exS (cfgN T (n + 2)) issB [.val (.own rd),y1,y2,.val (.own ia),y4,y5] W = .ex zZC (.tup [.int (i : Int)]) W1:=by
      clear hc ih ho h hws st hg
      generalize ns.map D.str = NS at *
      generalize ws.map D.str = WS at *
      generalize ks.map kI = KI at *
      walk_at "ev2"
     exact zZFo hc hb
    | ok w s1 =>
     rw [ho] at ht
     obtain ⟨W1,r1,st,e1⟩:=ht
     obtain ⟨z1,-,-,-,-⟩:=xZ9 ho
     have hi1 : W1[ia]? = some (.lst (ns.map .str)):=(st.g ia (zZ0 hi) h1 h2).trans hi
     have hi2 : (W1.set ia (.lst ((ns ++ [w]).map .str)))[ia]? = some (.lst ((ns ++ [w]).map .str)):=List.getElem?_set_self (zZ0 hi1)
     have r2 : RdAt (W1.set ia (.lst ((ns ++ [w]).map .str))) rd ca ws ks s1:=⟨by rw [List.getElem?_set_ne h1]; exact r1.rd_,by rw [List.getElem?_set_ne h2]; exact r1.ca_,r1.ne⟩
     have st2 : Stay3 W (W1.set ia (.lst ((ns ++ [w]).map .str))) rd ca ia:=st.to3.trans ⟨by simp,fun a _ _ _ x=>List.getElem?_set_ne (Ne.symm x)⟩
     have hb : exS (cfgN T (n + 2)) issB [.val (.own rd),y1,y2,.val (.own ia),y4,y5] W = .ok (.nx [.val (.own rd),y1,y2,.val (.own ia),y4,y5]) (W1.set ia (.lst ((ns ++ [w]).map .str))):=by
      have hln : (ns.map D.str).length < cap:=by rw [List.length_map]; unfold cap; omega
      rw [List.map_append,List.map_cons,List.map_nil]
      have hls1:=zZFe hi1
      clear hc ih ho h hws st hg hi2 r2 st2 r1
      generalize ns.map D.str = NS at *
      generalize ws.map D.str = WS at *
      generalize ks.map kI = KI at *
      walk_at "ev2"
     have hz:=ih f (ns ++ [w]) s1 _ (by rw [List.length_append,List.length_singleton]; omega) (by omega) (by rw [List.length_append,List.length_singleton]; omega) r2 hi2
     have hw : whileL (evE (cfgN T (n + 2)) issC) (exS (cfgN T (n + 2)) issB) (f + 1) [.val (.own rd),y1,y2,.val (.own ia),y4,y5] W = whileL (evE (cfgN T (n + 2)) issC) (exS (cfgN T (n + 2)) issB) f [.val (.own rd),y1,y2,.val (.own ia),y4,y5] (W1.set ia (.lst ((ns ++ [w]).map .str))):=zZBi hc hb
     have hbd : (RO.ok w s1).bind (fun w s1=>issA ws m (ns ++ [w]) s1) = issA ws m (ns ++ [w]) s1:=rfl
     rw [hbd]
     cases hq : issA ws m (ns ++ [w]) s1 with
     | ok ns' s' =>
      rw [hq] at hz
      obtain ⟨W',a1,a2,a3,a4,a5,a6⟩:=hz
      rw [List.length_append,List.length_singleton] at a4
      exact ⟨W',a1,a2.trans z1,a3,by omega,st2.trans a5,by rw [hw]; exact a6⟩
     | bad i =>
      rw [hq] at hz
      obtain ⟨W',a5,a6⟩:=hz
      exact ⟨W',st2.trans a5,by rw [hw]; exact a6⟩
   ·rw [if_neg hg]
    have hd : (isNm (wordA ws s.i) && decide (ns.length < 3)) = false:=by
     rw [Bool.eq_false_iff]
     intro z
     rw [Bool.and_eq_true,decide_eq_true_eq] at z
     exact hg z
    rw [hd] at hc
    refine ⟨W,h,rfl,hi,by omega,⟨Nat.le_refl _,fun _ _ _ _ _=>rfl⟩, ?_⟩
    rw [zZBc,hc]
    rfl
def cardA (ws : List Str) (ks : List Kd) (s : RS) : RO Unit :=
 (takeA ws [(PySem.Str.ofString "card")] s).bind fun _ s=>(takeNmA ws (s.cs.map fun c=>c.nm) s).bind fun nm s=>(takeA ws (ks.map fun k=>k.1) s).bind fun k s=>(takeA ws [(PySem.Str.ofString "from")] s).bind fun _ s =>
 (takeNmA ws [] s).bind fun w s=>(issA ws 2 [w] s).bind fun ns s=>.ok () { s with cs:=s.cs ++ [⟨nm,k,ns⟩] }
theorem zZHk (n : Nat) (W : Wd) (rd ca : Nat) (ws : List Str) (ks : List Kd) (s : RS) (hws : WsOK ws) (h : RdAt W rd ca ws ks s) (hl : s.cs.length ≤ 10) (hk : ks.length ≤ 100) :
  Runs ((cfgN T (n + 3)).call zZBW [.own rd] W) W rd ca ws ks (fun _=>.non) (cardA ws ks s):=by
 have hB : xZJ = .seq (.expr (.meth 34 (.var 0) (.cons (.tup (.cons (.str "card") .nil)) .nil)))
  (.seq (.asg (.nm 1) (.meth 35 (.var 0) (.cons (.frz (.compC (.idx (.var 4) (.int 0)) (.nm 4) false (.fld 28 (.var 0)) .nil)) .nil)))
  (.seq (.asg (.nm 2) (.meth 34 (.var 0) (.cons (.frz (.comp (.fld 12 (.var 5)) (.nm 5) (.seq (.fld 20 (.var 0))) .nil)) .nil)))
  (.seq (.expr (.meth 34 (.var 0) (.cons (.tup (.cons (.str "from") .nil)) .nil)))
  (.seq (.asg (.nm 3) (.cell (.disp (.cons (.meth 35 (.var 0) (.cons (.tup .nil) .nil)) .nil))))
  (.seq (.whil 1000000007 issC issB)
  (.seq (.append (.fld 28 (.var 0)) (.tup (.cons (.var 1) (.cons (.var 2) (.cons (.b1 .tuple (.var 3)) .nil))))) .skip)))))):=rfl
 have q0 : ∀ (a : D) (r : List D),atD (a :: r) (.int 0) = some a:=fun a r=>yZF (n:=0) rfl
 have hc0 : 0 ≤ cap:=by decide
 have hc1 : 1 ≤ cap:=by decide
 have hc3 : 3 ≤ cap:=by decide
 rw [zZE (F:=zZBT) rfl,yZS rfl]
 show Runs (bnd (exS (cfgN T (n + 2)) xZJ [.val (.own rd),.no,.no,.no,.no,.no] W) endR .mk) W rd ca ws ks (fun _=>.non) (cardA ws ks s)
 rw [hB]
 clear hB
 unfold cardA
 -- "card"
 have t1:=zZCK n W rd ca ws ks s h [(PySem.Str.ofString "card")] (.tup [.str "card"]) (.inl rfl)
 have hr:=h.rd_
 cases o1 : takeA ws [(PySem.Str.ofString "card")] s with
 | bad i =>
  rw [o1] at t1
  obtain ⟨W1,st,e1⟩:=t1
  refine ⟨W1,st, ?_⟩
  rw [yZD (W1:=W1) (c:=zZC) (p:=.tup [.int (i : Int)])]
  ·rfl
  ·clear o1 h hws st
   unfold rdC at hr
   generalize ws.map D.str = WS at *
   generalize ks.map kI = KI at *
   walk_at "ev2"
 | ok _ s1 =>
 rw [o1] at t1
 obtain ⟨W1,r1,st1,e1⟩:=t1
 obtain ⟨z1,-,-,-,-⟩:=yZW o1
 rw [zZa (W1:=W1) (e1:=[.val (.own rd),.no,.no,.no,.no,.no]) (by
  clear o1 h hws st1 r1
  unfold rdC at hr
  generalize ws.map D.str = WS at *
  generalize ks.map kI = KI at *
  walk_at "ev2")]
 -- the name
 have hcA : ∀ (y0 y1 y2 y3 y5 : Slot),compCR (cfgN T (n + 2)) (.idx (.var 4) (.int 0)) (.nm 4) .nil [y0,y1,y2,y3,.no,y5] false (ca,s1.cs.map cdD) W1 = .ok ((s1.cs.map fun c=>c.nm).map .str) W1:=by
  intro y0 y1 y2 y3 y5
  rw [List.map_map]
  refine zZIi cdD (fun c=>.str c.nm) s1.cs r1.ca_ (by rw [z1]; unfold cap; omega) fun c _=>⟨_,rfl, ?_⟩
  show evE _ _ [y0,y1,y2,y3,.val (cdD c),y5] W1 = _
  clear hr e1 r1 h
  simp only [cdD]
  walk_at "ev2"
 have t2:=zZCT n W1 rd ca ws ks s1 hws r1 (s1.cs.map fun c=>c.nm) (.lst ((s1.cs.map fun c=>c.nm).map .str)) (.inr (.inl rfl))
 have hr1:=r1.rd_
 have hca1:=r1.ca_
 show Runs _ W rd ca ws ks (fun _=>.non) ((takeNmA ws (s1.cs.map fun c=>c.nm) s1).bind _)
 clear hr e1
 cases o2 : takeNmA ws (s1.cs.map fun c=>c.nm) s1 with
 | bad i =>
  rw [o2] at t2
  obtain ⟨W2,st,e2⟩:=t2
  refine ⟨W2,st1.trans st, ?_⟩
  rw [yZD (W1:=W2) (c:=zZC) (p:=.tup [.int (i : Int)])]
  ·rfl
  ·clear o1 o2 h hws st st1 r1
   unfold rdC at hr1
   generalize (s1.cs.map fun c=>c.nm).map D.str = NM at *
   generalize s1.cs.map cdD = CS at *
   generalize ws.map D.str = WS at *
   generalize ks.map kI = KI at *
   walk_at "ev2"
 | ok nm s2 =>
 rw [o2] at t2
 obtain ⟨W2,r2,st2,e2⟩:=t2
 obtain ⟨z2,-,-,-,-⟩:=xZ9 o2
 rw [zZa (W1:=W2) (e1:=[.val (.own rd),.val (.str nm),.no,.no,.no,.no]) (by
  clear o1 o2 h hws st1 st2 r1 r2
  unfold rdC at hr1
  generalize (s1.cs.map fun c=>c.nm).map D.str = NM at *
  generalize s1.cs.map cdD = CS at *
  generalize ws.map D.str = WS at *
  generalize ks.map kI = KI at *
  walk_at "ev2")]
 -- the kind
 have hcK : ∀ (y0 y1 y2 y3 y4 : Slot) (b : Bool),compR (cfgN T (n + 2)) (.fld 12 (.var 5)) (.nm 5) .nil [y0,y1,y2,y3,y4,.no] (ks.map kI,b) W2 = .ok ((ks.map fun k=>k.1).map .str) W2:=by
  intro y0 y1 y2 y3 y4 b
  rw [List.map_map]
  refine yZK kI (fun k=>.str k.1) ks (by unfold cap; omega) fun k _=>⟨_,rfl, ?_⟩
  show evE _ _ [y0,y1,y2,y3,y4,.val (kI k)] W2 = _
  clear hr1 e2 hcA hca1 r1 r2 h
  simp only [kI]
  generalize flsD k.2 = FS
  walk_at "ev2"
 have t3:=zZCK n W2 rd ca ws ks s2 r2 (ks.map fun k=>k.1) (.lst ((ks.map fun k=>k.1).map .str)) (.inr rfl)
 have hr2:=r2.rd_
 show Runs _ W rd ca ws ks (fun _=>.non) ((takeA ws (ks.map fun k=>k.1) s2).bind _)
 clear hr1 e2 hcA hca1
 cases o3 : takeA ws (ks.map fun k=>k.1) s2 with
 | bad i =>
  rw [o3] at t3
  obtain ⟨W3,st,e3⟩:=t3
  refine ⟨W3,st1.trans (st2.trans st), ?_⟩
  rw [yZD (W1:=W3) (c:=zZC) (p:=.tup [.int (i : Int)])]
  ·rfl
  ·clear o1 o2 o3 h hws st st1 st2 r1 r2
   unfold rdC at hr2
   generalize (ks.map fun k=>k.1).map D.str = KN at *
   generalize ws.map D.str = WS at *
   generalize ks.map kI = KI at *
   walk_at "ev2"
 | ok k s3 =>
 rw [o3] at t3
 obtain ⟨W3,r3,st3,e3⟩:=t3
 obtain ⟨z3,-,-,-,-⟩:=yZW o3
 rw [zZa (W1:=W3) (e1:=[.val (.own rd),.val (.str nm),.val (.str k),.no,.no,.no]) (by
  clear o1 o2 o3 h hws st1 st2 st3 r1 r2 r3
  unfold rdC at hr2
  generalize (ks.map fun k=>k.1).map D.str = KN at *
  generalize ws.map D.str = WS at *
  generalize ks.map kI = KI at *
  walk_at "ev2")]
 -- "from"
 have t4:=zZCK n W3 rd ca ws ks s3 r3 [(PySem.Str.ofString "from")] (.tup [.str "from"]) (.inl rfl)
 have hr3:=r3.rd_
 show Runs _ W rd ca ws ks (fun _=>.non) ((takeA ws [(PySem.Str.ofString "from")] s3).bind _)
 clear hr2 e3 hcK
 cases o4 : takeA ws [(PySem.Str.ofString "from")] s3 with
 | bad i =>
  rw [o4] at t4
  obtain ⟨W4,st,e4⟩:=t4
  refine ⟨W4,st1.trans (st2.trans (st3.trans st)), ?_⟩
  rw [yZD (W1:=W4) (c:=zZC) (p:=.tup [.int (i : Int)])]
  ·rfl
  ·clear o1 o2 o3 o4 h hws st st1 st2 st3 r1 r2 r3
   unfold rdC at hr3
   generalize ws.map D.str = WS at *
   generalize ks.map kI = KI at *
   walk_at "ev2"
 | ok _ s4 =>
 rw [o4] at t4
 obtain ⟨W4,r4,st4,e4⟩:=t4
 obtain ⟨z4,-,-,-,-⟩:=yZW o4
 rw [zZa (W1:=W4) (e1:=[.val (.own rd),.val (.str nm),.val (.str k),.no,.no,.no]) (by
  clear o1 o2 o3 o4 h hws st1 st2 st3 st4 r1 r2 r3 r4
  unfold rdC at hr3
  generalize ws.map D.str = WS at *
  generalize ks.map kI = KI at *
  walk_at "ev2")]
 -- the first issuer
 have t5:=zZCT n W4 rd ca ws ks s4 hws r4 [] (.tup []) (.inl rfl)
 have hr4:=r4.rd_
 show Runs _ W rd ca ws ks (fun _=>.non) ((takeNmA ws [] s4).bind _)
 clear hr3 e4
 cases o5 : takeNmA ws [] s4 with
 | bad i =>
  rw [o5] at t5
  obtain ⟨W5,st,e5⟩:=t5
  refine ⟨W5,st1.trans (st2.trans (st3.trans (st4.trans st))), ?_⟩
  rw [yZD (W1:=W5) (c:=zZC) (p:=.tup [.int (i : Int)])]
  ·rfl
  ·clear o1 o2 o3 o4 o5 h hws st st1 st2 st3 st4 r1 r2 r3 r4
   unfold rdC at hr4
   generalize ws.map D.str = WS at *
   generalize ks.map kI = KI at *
   walk_at "ev2"
 | ok w s5 =>
 rw [o5] at t5
 obtain ⟨W5,r5,st5,e5⟩:=t5
 obtain ⟨z5,-,-,-,-⟩:=xZ9 o5
 have hrl:=zZ0 r5.rd_
 have hcl:=zZ0 r5.ca_
 have hnc : ∀ (c : Cell) (W : Wd),newCell c W = .ok (.own W.length) (W ++ [c]):=fun _ _=>rfl
 rw [zZa (W1:=W5 ++ [.lst [.str w]]) (e1:=[.val (.own rd),.val (.str nm),.val (.str k),.val (.own W5.length),.no,.no]) (by
  clear o1 o2 o3 o4 o5 h hws st1 st2 st3 st4 st5 r1 r2 r3 r4 r5
  unfold rdC at hr4
  generalize ws.map D.str = WS at *
  generalize ks.map kI = KI at *
  walk_at "ev2")]
 have r6 : RdAt (W5 ++ [.lst [.str w]]) rd ca ws ks s5:=⟨by rw [List.getElem?_append_left hrl]; exact r5.rd_,by rw [List.getElem?_append_left hcl]; exact r5.ca_,r5.ne⟩
 have hi : (W5 ++ [Cell.lst [.str w]])[W5.length]? = some (.lst ([w].map .str)):=by simp
 generalize hia : W5.length = ia at *
 have n1 : ia ≠ rd:=by omega
 have n2 : ia ≠ ca:=by omega
 have hz:=zZKz n rd ca ia ws ks hws n1 n2 (.val (.str nm)) (.val (.str k)) .no .no 2 1000000007 [w] s5 _ (by simp) (by omega) (by simp) r6 hi
 have stA : Stay W W5 rd ca:=st1.trans (st2.trans (st3.trans (st4.trans st5)))
 have fin : ∀ W',Stay3 (W5 ++ [Cell.lst [.str w]]) W' rd ca ia → Stay W W' rd ca:=fun W' q=>by
  have hp : (W5 ++ [Cell.lst [.str w]]).length = W5.length + 1:=by simp
  refine ⟨?_,fun a x y z => ?_⟩
  ·have:=q.l
   have:=stA.l
   omega
  ·have hx : a < W5.length:=Nat.lt_of_lt_of_le x stA.l
   rw [q.g a (by omega) y z (by omega),List.getElem?_append_left hx]
   exact stA.g a x y z
 show Runs _ W rd ca ws ks (fun _=>.non) ((issA ws 2 [w] s5).bind _)
 clear hr4 e5
 generalize W5 ++ [Cell.lst [.str w]] = W6 at *
 cases o6 : issA ws 2 [w] s5 with
 | bad i =>
  rw [o6] at hz
  obtain ⟨W7,st,e7⟩:=hz
  refine ⟨W7,fin W7 st, ?_⟩
  rw [yZD (W1:=W7) (c:=zZC) (p:=.tup [.int (i : Int)])]
  ·rfl
  ·rw [zZt]
   exact e7
 | ok ns s7 =>
 rw [o6] at hz
 obtain ⟨W7,r7,z7,hi7,hnl,st7,e7⟩:=hz
 have hF:=fin W7 st7
 rw [zZa (W1:=W7) (e1:=[.val (.own rd),.val (.str nm),.val (.str k),.val (.own ia),.no,.no]) (by rw [zZt]; exact e7)]
 have hca7:=r7.ca_
 have hr7:=r7.rd_
 have hl7 : s7.cs.length ≤ 10:=by rw [z7,z5,z4,z3,z2,z1]; exact hl
 refine ⟨W7.set ca (.lst ((s7.cs ++ [(⟨nm,k,ns⟩ : Cd)]).map cdD)),⟨by rw [List.getElem?_set_ne (Ne.symm r7.ne)]; exact hr7,List.getElem?_set_self (zZ0 hca7),r7.ne⟩,hF.trans ⟨by simp,fun a _ _ x=>List.getElem?_set_ne (Ne.symm x)⟩, ?_⟩
 have hap : (s7.cs.map cdD).length < cap:=by rw [List.length_map]; unfold cap; omega
 have hls:=zZFe hca7
 rw [List.map_append,List.map_cons,List.map_nil]
 clear fin hF stA st1 st2 st3 st4 st5 st7 r1 r2 r3 r4 r5 r6 r7 o1 o2 o3 o4 o5 o6 h hws e7
 unfold rdC at hr7
 simp only [cdD]
 generalize s7.cs.map _ = CS at *
 generalize ws.map D.str = WS at *
 generalize ks.map kI = KI at *
 generalize ns.map D.str = NS at *
 walk_at "ev2"
inductive Cq where
 | tell (p : Str × Str)
 | num (w : Str) (p : Str × Str) (v : Int)
 | among (p : Str × Str) (vs : List Int)
 | same (p q : Str × Str)
def cqD : Cq → D
 | .tell p=>.tup [.str "tell",.str p.1,.str p.2]
 | .num w p v=>.tup [.str w,.str p.1,.str p.2,.int v]
 | .among p vs=>.tup [.str "among",.str p.1,.str p.2,.tup (vs.map .int)]
 | .same p q=>.tup [.str "same",.str p.1,.str p.2,.str q.1,.str q.2]
def CNDL : List Str:=["tell","equal","least","among","same"]
def sizeA (ks : List Kd) (cs : List Cd) (p : Str × Str) : Int:=match cs.filter fun c=>decide (c.nm = p.1) with
 | c :: _=>(((kfs ks c.k).find? fun f=>decide (f.1 = p.2)).map fun f=>f.2).getD 0
 | []=>0
def amA (ws : List Str) (hi : Int) : Nat → List Int → RS → RO (List Int)
 | 0,vs,s=>.ok vs s
 | m + 1,vs,s=>match numOf (wordA ws s.i) with
  | none=>.ok vs s
  | some _=>(takeNumA ws (vs.getLast?.getD 0 + 1) hi s).bind fun v s=>amA ws hi m (vs ++ [v]) s
def condG (ws : List Str) (ks : List Kd) (s : RS) : Prop:=wordA ws s.i ∈ CNDL ∧ ¬ (pairsA ks s.cs []).length < 1 + (if wordA ws s.i = "same" then 1 else 0)
instance (ws : List Str) (ks : List Kd) (s : RS) : Decidable (condG ws ks s):=by unfold condG; exact inferInstance
def condA (ws : List Str) (ks : List Kd) (s : RS) : RO Cq :=
 if condG ws ks s then
  (takeValA ws ks [] { s with i:=s.i + 1 }).bind fun p s1 =>
   if wordA ws s.i = "tell" then .ok (.tell p) s1
   else if wordA ws s.i = "same" then (takeValA ws ks [p] s1).bind fun q s2=>.ok (.same p q) s2
   else if wordA ws s.i ≠ "among" then (takeNumA ws 0 (sizeA ks s1.cs p - 1) s1).bind fun v s2=>.ok (.num (wordA ws s.i) p v) s2
   else (takeNumA ws 0 (sizeA ks s1.cs p - 1) s1).bind fun v s2=>(amA ws (sizeA ks s1.cs p - 1) ws.length [v] s2).bind fun vs s3=>.ok (.among p vs) s3
 else .bad s.i
theorem zZAJ {ws : List Str} {lo hi v : Int} {s s1 : RS} (h : takeNumA ws lo hi s = .ok v s1) : s1.cs = s.cs ∧ numOf (wordA ws s.i) = some v ∧ lo ≤ v ∧ v ≤ hi ∧ s1.i = s.i + 1:=by
 unfold takeNumA at h
 split at h
 ·rename_i v' hv
  split at h
  ·rename_i hh
   cases h
   exact ⟨rfl,hv,hh.1,hh.2,rfl⟩
  ·cases h
 ·cases h
abbrev amC : E:=.cmp .notN (.call zZBJ (.cons (.meth 33 (.var 0) .nil) .nil)) .non
abbrev amB : DL.S:=.seq (.append (.var 4) (.meth 36 (.var 0) (.cons (.bin .add (.idx (.var 4) (.neg (.int 1))) (.int 1)) (.cons (.bin .sub (.meth 39 (.var 0) (.cons (.var 3) .nil)) (.int 1)) .nil)))) .skip
theorem zZLr (xs : List Int) (v : Int) : atD ((xs ++ [v]).map D.int) (.int (-1)) = some (.int v):=by
 show L2.atI _ (-1) = _
 unfold L2.atI L2.ixN
 rw [List.length_map,List.length_append,List.length_singleton]
 have h1 : ¬ (0 : Int) ≤ -1:=by omega
 simp only [List.map_append,List.map_cons,List.map_nil,if_neg h1]
 have e : (if (0 : Int) ≤ -1 + ((xs.length + 1 : Nat) : Int) ∧ -1 + ((xs.length + 1 : Nat) : Int) < ((xs.length + 1 : Nat) : Int) then 1 else 0) = 1:=if_pos (by omega)
 simp
 rw [if_pos (by omega),Option.bind_some,show (-1 + ((xs.length : Int) + 1)).toNat = xs.length by omega,List.getElem?_append_right (by simp)]
 simp
theorem zZLn (n : Nat) (rd ca : Nat) (ws : List Str) (ks : List Kd) (hws : WsOK ws) (p : Str × Str) (z : Int) (y1 y2 : Slot) : ∀ (m fuel : Nat) (xs : List Int) (x : Int) (s : RS) (W : Wd),ws.length ≤ s.i + m → m < fuel → xs.length + m ≤ 5000 → RdAt W rd ca ws ks s → s.cs.length ≤ 10 → PrAt ks s.cs p z →
  match amA ws (z - 1) m (xs ++ [x]) s with
  | .ok vs s' => ∃ W',RdAt W' rd ca ws ks s' ∧ s'.cs = s.cs ∧ Stay W W' rd ca ∧ whileL (evE (cfgN T (n + 3)) amC) (exS (cfgN T (n + 3)) amB) fuel [.val (.own rd),y1,y2,.val (prD p),.ol ((xs ++ [x]).map .int)] W = .ok (.nx [.val (.own rd),y1,y2,.val (prD p),.ol (vs.map .int)]) W'
  | .bad i => ∃ W',Stay W W' rd ca ∧ whileL (evE (cfgN T (n + 3)) amC) (exS (cfgN T (n + 3)) amB) fuel [.val (.own rd),y1,y2,.val (prD p),.ol ((xs ++ [x]).map .int)] W = .ex zZC (.tup [.int (i : Int)]) W':=by
 have cond : ∀ (s : RS) (W : Wd) (y4 : Slot),RdAt W rd ca ws ks s → evE (cfgN T (n + 3)) amC [.val (.own rd),y1,y2,.val (prD p),y4] W = .ok (.bl (numOf (wordA ws s.i)).isSome) W:=fun s W y4 h=>by
  have hw:=xZU (n + 2) W rd ca ws ks s h
  have hnm:=zZEf (n + 2) (wordA ws s.i) W (zZBq hws s.i).1
  have hr:=h.rd_
  unfold rdC at hr
  cases hb : numOf (wordA ws s.i) with
  | none =>
   rw [hb] at hnm
   simp only [optI] at hnm
   clear h hb
   generalize wordA ws s.i = w at *
   generalize ws.map D.str = WS at *
   generalize ks.map kI = KI at *
   walk_at "ev2"
  | some v =>
   rw [hb] at hnm
   simp only [optI] at hnm
   clear h hb
   generalize wordA ws s.i = w at *
   generalize ws.map D.str = WS at *
   generalize ks.map kI = KI at *
   walk_at "ev2"
 intro m
 induction m with
 | zero =>
  intro fuel xs x s W hm hf hl h hcl hp
  have hn : numOf (wordA ws s.i) = none:=by
   have : wordA ws s.i = "" := by unfold wordA; rw [List.getElem?_eq_none (by omega)]; rfl
   rw [this]
   refine yZa fun v hv e => ?_
   obtain ⟨c,r,h1,_⟩:=xZp hv
   rw [e] at h1
   have : ("" : Str).cps.toList = []:=by decide +kernel
   rw [this] at h1
   cases h1
  have hc:=cond s W (.ol ((xs ++ [x]).map .int)) h
  rw [hn] at hc
  refine ⟨W,h,rfl,.refl _ _ _, ?_⟩
  match fuel,hf with
  | f + 1,_=>exact zZCq hc
 | succ m ih =>
  intro fuel xs x s W hm hf hl h hcl hp
  have hc:=cond s W (.ol ((xs ++ [x]).map .int)) h
  match fuel,hf with
  | f + 1,hf =>
   unfold amA
   cases hb : numOf (wordA ws s.i) with
   | none =>
    rw [hb] at hc
    exact ⟨W,h,rfl,.refl _ _ _,zZCq hc⟩
   | some v0 =>
    rw [hb] at hc
    dsimp only
    rw [List.getLast?_append,List.getLast?_singleton]
    simp only [Option.some_or,Option.getD_some]
    have hsz:=zZFQ n W rd ca ws ks s h hcl p z hp
    have hsz2 : (cfgN T (n + 3)).call xZM [.own rd,prD p] W = .ok (.int z) W:=zZFQ (n + 1) W rd ca ws ks s h hcl p z hp
    have ht:=zZCv (n + 1) W rd ca ws ks s hws h (x + 1) (z - 1)
    have hla:=zZLr xs x
    have hr:=h.rd_
    unfold rdC at hr
    cases ho : takeNumA ws (x + 1) (z - 1) s with
    | bad i =>
     rw [ho] at ht
     obtain ⟨W1,st,e1⟩:=ht
     refine ⟨W1,st,zZFo hc ?_⟩
     clear hc ih ho h hws st hb hsz cond hp
     generalize (xs ++ [x]).map D.int = XS at *
     generalize ws.map D.str = WS at *
     generalize ks.map kI = KI at *
     generalize prD p = PD at *
     walk_at "ev2"
    | ok v s1 =>
     rw [ho] at ht
     obtain ⟨W1,r1,st,e1⟩:=ht
     obtain ⟨z1,-,-,-,z5⟩:=zZAJ ho
     have hbd : exS (cfgN T (n + 3)) amB [.val (.own rd),y1,y2,.val (prD p),.ol ((xs ++ [x]).map .int)] W = .ok (.nx [.val (.own rd),y1,y2,.val (prD p),.ol (((xs ++ [x]) ++ [v]).map .int)]) W1:=by
      have hln : ((xs ++ [x]).map D.int).length < cap:=by rw [List.length_map,List.length_append,List.length_singleton]; unfold cap; omega
      have em : ((xs ++ [x]) ++ [v]).map D.int = (xs ++ [x]).map D.int ++ [.int v]:=by rw [List.map_append]; rfl
      rw [em]
      clear hc ih ho h hws st hb hsz cond hp r1 em
      generalize (xs ++ [x]).map D.int = XS at *
      generalize ws.map D.str = WS at *
      generalize ks.map kI = KI at *
      generalize prD p = PD at *
      walk_at "ev2"
     have hz:=ih f (xs ++ [x]) v s1 W1 (by omega) (by omega) (by rw [List.length_append,List.length_singleton]; omega) r1 (by rw [z1]; exact hcl) (by rw [z1]; exact hp)
     have hbn : (RO.ok v s1).bind (fun v s=>amA ws (z - 1) m ((xs ++ [x]) ++ [v]) s) = amA ws (z - 1) m ((xs ++ [x]) ++ [v]) s1:=rfl
     rw [hbn]
     cases hq : amA ws (z - 1) m ((xs ++ [x]) ++ [v]) s1 with
     | ok vs s' =>
      rw [hq] at hz
      obtain ⟨W',a1,a2,a3,a4⟩:=hz
      exact ⟨W',a1,a2.trans z1,st.trans a3,by rw [zZBi hc hbd]; exact a4⟩
     | bad i =>
      rw [hq] at hz
      obtain ⟨W',a3,a4⟩:=hz
      exact ⟨W',st.trans a3,by rw [zZBi hc hbd]; exact a4⟩
structure KindsND (ks : List Kd) : Prop where
 n : ∀ k ∈ ks,(k.2.map fun f=>f.1).Nodup ∧ k.2.length ≤ 10
theorem zZNi {ks : List Kd} {cs : List Cd} {wo : List (Str × Str)} {p : Str × Str} (N : KindsND ks) (h : CardsOK ks cs) (hnd : (cs.map fun c=>c.nm).Nodup) (hp : p ∈ pairsA ks cs wo) : PrAt ks cs p (sizeA ks cs p):=by
 have hp:=(List.mem_filter.mp hp).1
 obtain ⟨c,hc,hp⟩:=List.mem_flatMap.mp hp
 obtain ⟨f,hf,rfl⟩:=List.mem_map.mp hp
 obtain ⟨k,hk,_⟩:=h.k c hc
 rw [zZAM hk] at hf
 have hmem : c ∈ cs.filter fun x=>decide (x.nm = c.nm):=List.mem_filter.mpr ⟨hc,decide_eq_true rfl⟩
 cases hfl : cs.filter fun x=>decide (x.nm = c.nm) with
 | nil=>rw [hfl] at hmem; cases hmem
 | cons c' r =>
  have hc' : c' ∈ cs.filter fun x=>decide (x.nm = c.nm):=by rw [hfl]; exact List.mem_cons_self
  obtain ⟨m1,m2⟩:=List.mem_filter.mp hc'
  have e : c' = c:=by
   have m2:=of_decide_eq_true m2
   have key : ∀ l : List Cd,(l.map fun c=>c.nm).Nodup → c' ∈ l → c ∈ l → c' = c:=by
    intro l
    induction l with
    | nil=>intro _ h; cases h
    | cons x l ih =>
     intro hn h1 h2
     rw [List.map_cons,List.nodup_cons] at hn
     have h1:=List.mem_cons.mp h1
     have h2:=List.mem_cons.mp h2
     rcases h1 with u1 | u1 <;> rcases h2 with u2 | u2
     ·rw [u1,u2]
     ·exact absurd (by rw [← u1,m2]; exact List.mem_map_of_mem u2) hn.1
     ·exact absurd (by rw [← u2,← m2]; exact List.mem_map_of_mem u1) hn.1
     ·exact ih hn.2 u1 u2
   exact key cs hnd m1 hc
  rw [e] at hfl
  obtain ⟨n1,n2⟩:=N.n k (List.mem_of_find?_eq_some hk)
  have hff : ∃ f',(k.2.find? fun x=>decide (x.1 = f.1)) = some f':=by
   cases hq : k.2.find? fun x=>decide (x.1 = f.1) with
   | some f'=>exact ⟨f',rfl⟩
   | none =>
    rw [List.find?_eq_none] at hq
    exact absurd (decide_eq_true rfl) (hq f hf)
  obtain ⟨f',hf'⟩:=hff
  refine ⟨c,r,k,f',hfl,hk,hf', ?_,n1,by omega⟩
  unfold sizeA
  simp only [hfl,zZAM hk,hf',Option.map_some,Option.getD_some]
theorem zZD2 {ws : List Str} {ks : List Kd} {wo : List (Str × Str)} {s s1 : RS} {p : Str × Str} (h : takeValA ws ks wo s = .ok p s1) : p ∈ pairsA ks s.cs wo ∧ s1.cs = s.cs ∧ s1.i = s.i + 2 ∧ s.i + 1 < ws.length ∧ wordA ws s.i = p.1 ∧ wordA ws (s.i + 1) = p.2:=by
 unfold takeValA at h
 cases h1 : takeA ws ((pairsA ks s.cs wo).map fun p=>p.1) s with
 | bad i=>rw [h1] at h; cases h
 | ok c s' =>
  rw [h1] at h
  have h : (takeA ws (((pairsA ks s.cs wo).filter fun p=>decide (p.1 = c)).map fun p=>p.2) s').bind (fun v s2=>RO.ok (c,v) s2) = .ok p s1:=h
  cases h2 : takeA ws (((pairsA ks s.cs wo).filter fun p=>decide (p.1 = c)).map fun p=>p.2) s' with
  | bad i=>rw [h2] at h; cases h
  | ok v s'' =>
   rw [h2] at h
   cases h
   obtain ⟨a1,a2,a3,a4,a5⟩:=yZW h1
   obtain ⟨b1,b2,b3,b4,b5⟩:=yZW h2
   obtain ⟨q,q1,q2⟩:=List.mem_map.mp b2
   obtain ⟨q3,q4⟩:=List.mem_filter.mp q1
   have q4:=of_decide_eq_true q4
   refine ⟨?_,b1.trans a1,by omega,by omega,a5,by rw [← a3]; exact b5⟩
   have : q = (c,v):=Prod.ext q4 q2
   rw [← this]
   exact q3
theorem zZKK (n : Nat) (W : Wd) (rd ca : Nat) (ws : List Str) (ks : List Kd) (s : RS) (hws : WsOK ws) (K : KindsOK ks) (N : KindsND ks) (h : RdAt W rd ca ws ks s) (hc : CardsOK ks s.cs) (hnd : (s.cs.map fun c=>c.nm).Nodup) :
  Runs ((cfgN T (n + 4)).call yZu [.own rd] W) W rd ca ws ks cqD (condA ws ks s):=by
 have hB : zZF = .seq (.asg (.nm 1) (.meth 33 (.var 0) .nil))
  (.seq (.asg (.nm 2) (.b1 .len (.meth 37 (.var 0) .nil)))
  (.seq (headS (dropS 2 zZF)) (.seq (.augF 32 0 .add (.int 1)) (.seq (.asg (.nm 3) (.meth 38 (.var 0) .nil))
  (.seq (headS (dropS 5 zZF)) (.seq (headS (dropS 6 zZF)) (.seq (headS (dropS 7 zZF))
  (.seq (.asgO 4 (.disp (.cons (.meth 36 (.var 0) (.cons (.int 0) (.cons (.bin .sub (.meth 39 (.var 0) (.cons (.var 3) .nil)) (.int 1)) .nil))) .nil)))
  (.seq (.whil 1000000007 amC amB) (.seq (.ret (.tup (.cons (.var 1) (.star (.var 3) (.cons (.b1 .tuple (.var 4)) .nil))))) .skip)))))))))):=rfl
 have hH2 : headS (dropS 2 zZF) = .ite (.or (.cons (.cmp .notin (.var 1) (.tup (.cons (.str "tell") (.cons (.str "equal") (.cons (.str "least") (.cons (.str "among") (.cons (.str "same") .nil))))))) (.cons (.cmp .lt (.var 2) (.bin .add (.int 1) (.b1 .int (.cmp .eq (.var 1) (.str "same"))))) .nil))) (.seq (.raisE zZC (.fld 32 (.var 0))) .skip) .skip:=rfl
 have hw:=xZU (n + 2) W rd ca ws ks s h
 have hp0:=zZI3 (n + 1) W rd ca ws ks s K h hc
 have hcv : ∀ b,conv .int (.bl b) = some (.int (if b then 1 else 0)):=fun b=>rfl
 have hpl : ((pairsA ks s.cs []).map prD).length = (pairsA ks s.cs []).length:=List.length_map _
 have hin : ∀ d,inG true W (.str (wordA ws s.i)) (.frz [.str "tell",.str "equal",.str "least",.str "among",.str "same"] d) = some (.bl (!decide (wordA ws s.i ∈ CNDL))):=fun d=>zZFT true W (wordA ws s.i) CNDL d
 have hr:=h.rd_
 have hc5 : 5 ≤ cap:=by decide
 have hc3 : 3 ≤ cap:=by decide
 have hc4 : 4 ≤ cap:=by decide
 have hc1 : 1 ≤ cap:=by decide
 rw [zZE (F:=yZ2) rfl,yZS rfl]
 show Runs (bnd (exS (cfgN T (n + 3)) zZF [.val (.own rd),.no,.no,.no,.no] W) endR .mk) W rd ca ws ks cqD (condA ws ks s)
 rw [hB,zZa (W1:=W) (e1:=[.val (.own rd),.val (.str (wordA ws s.i)),.no,.no,.no]) (by
  clear hB hH2 hp0 hin hc hnd h hws K N
  unfold rdC at hr
  generalize wordA ws s.i = w at *
  generalize ws.map D.str = WS at *
  generalize ks.map kI = KI at *
  walk_at "ev2"),zZa (W1:=W) (e1:=[.val (.own rd),.val (.str (wordA ws s.i)),.val (.int (((pairsA ks s.cs []).length : Nat) : Int)),.no,.no]) (by
  clear hB hH2 hw hin hc hnd h hws K N
  unfold rdC at hr
  rw [← hpl]
  clear hpl
  generalize wordA ws s.i = w at *
  generalize (pairsA ks s.cs []).map prD = PA at *
  generalize ws.map D.str = WS at *
  generalize ks.map kI = KI at *
  walk_at "ev2")]
 clear hB hw hp0 hpl
 unfold condA
 by_cases hg : condG ws ks s
 ·rw [if_pos hg]
  obtain ⟨g1,g2⟩:=hg
  rw [zZa (W1:=W) (e1:=[.val (.own rd),.val (.str (wordA ws s.i)),.val (.int (((pairsA ks s.cs []).length : Nat) : Int)),.no,.no]) (by
   rw [hH2]
   have hin2 : (!decide (wordA ws s.i ∈ CNDL)) = false:=by rw [decide_eq_true g1]; rfl
   simp only [hin2] at hin
   clear hH2 hc hnd h hws K N g1 hin2 hr
   generalize (pairsA ks s.cs []).length = L at *
   generalize wordA ws s.i = w at *
   by_cases hs : w = "same"
   ·subst hs
    rw [if_pos rfl] at g2
    have g3 : ¬ (L : Int) < 2:=by omega
    clear g2
    walk_at "ev2"
   ·rw [if_neg hs] at g2
    have g3 : ¬ (L : Int) < 1:=by omega
    clear g2
    walk_at "ev2")]
  obtain ⟨q1,q2⟩:=h.step
  have hl:=zZ0 h.rd_
  rw [zZa (W1:=W.set rd (rdC ws (s.i + 1) ks ca)) (e1:=[.val (.own rd),.val (.str (wordA ws s.i)),.val (.int (((pairsA ks s.cs []).length : Nat) : Int)),.no,.no]) (by
   have e1 : (((s.i + 1 : Nat)) : Int) = (s.i : Int) + 1:=by omega
   unfold rdC at hr ⊢
   rw [e1]
   clear hH2 hc hnd h hws K N g1 g2 q1 q2 hin e1
   generalize wordA ws s.i = w at *
   generalize ws.map D.str = WS at *
   generalize ks.map kI = KI at *
   walk_at "ev2")]
  clear hr hin hH2
  have hcA : CardsOK ks ({ s with i:=s.i + 1 } : RS).cs:=hc
  have t1:=zZMW n _ rd ca ws ks { s with i:=s.i + 1 } K q1 hcA
  have hr1:=q1.rd_
  generalize hW1 : W.set rd (rdC ws (s.i + 1) ks ca) = W1 at *
  generalize hs1 : ({ s with i:=s.i + 1 } : RS) = s1 at *
  have hcs1 : s1.cs = s.cs:=by rw [← hs1]
  cases o1 : takeValA ws ks [] s1 with
  | bad i =>
   rw [o1] at t1
   obtain ⟨W2,st,e1⟩:=t1
   refine ⟨W2,q2.trans st, ?_⟩
   rw [yZD (W1:=W2) (c:=zZC) (p:=.tup [.int (i : Int)])]
   ·rfl
   ·clear o1 h hws st q1 q2 g1 g2 hc hcA hnd K N hW1 hs1
    unfold rdC at hr1
    generalize ws.map D.str = WS at *
    generalize ks.map kI = KI at *
    walk_at "ev2"
  | ok p s2 =>
  rw [o1] at t1
  obtain ⟨W2,r2,st2,e2⟩:=t1
  obtain ⟨z1,z2,-,-,-,-⟩:=zZD2 o1
  rw [zZa (W1:=W2) (e1:=[.val (.own rd),.val (.str (wordA ws s.i)),.val (.int (((pairsA ks s.cs []).length : Nat) : Int)),.val (prD p),.no]) (by
   clear o1 h hws st2 q1 q2 g1 g2 hc hcA hnd K N hW1 hs1 r2
   unfold rdC at hr1
   generalize wordA ws s.i = w at *
   generalize ws.map D.str = WS at *
   generalize ks.map kI = KI at *
   generalize prD p = PD at *
   walk_at "ev2")]
  have stA : Stay W W2 rd ca:=q2.trans st2
  have hcs2 : s2.cs = s.cs:=z2.trans hcs1
  have hc2 : CardsOK ks s2.cs:=by rw [hcs2]; exact hc
  have hp:=zZNi N (by rw [hcs1]; exact hc) (by rw [hcs1]; exact hnd) z1
  have hpo:=zZKy K (by rw [hcs1]; exact hc) p z1
  rw [← z2] at hp
  clear hr1 e2 st2 q1 q2 hW1 o1
  have hr2:=r2.rd_
  show Runs _ W rd ca ws ks cqD (if wordA ws s.i = "tell" then _ else _)
  generalize hwd : wordA ws s.i = w at *
  by_cases h1 : w = "tell"
  ·rw [if_pos h1]
   subst h1
   refine ⟨W2,r2,stA, ?_⟩
   rw [yZ3]
   have h5 : headS (dropS 5 zZF) = .ite (.cmp .eq (.var 1) (.str "tell")) (.seq (.ret (.tup (.cons (.var 1) (.star (.var 3) .nil)))) .skip) .skip:=rfl
   rw [h5]
   clear h hws g1 g2 hc hcA hnd K N hs1 hp hpo z1 hwd
   simp only [prD,cqD]
   walk_at "ev2"
  rw [if_neg h1]
  rw [zZa (W1:=W2) (e1:=[.val (.own rd),.val (.str w),.val (.int (((pairsA ks s.cs []).length : Nat) : Int)),.val (prD p),.no]) (by
   have h5 : headS (dropS 5 zZF) = .ite (.cmp .eq (.var 1) (.str "tell")) (.seq (.ret (.tup (.cons (.var 1) (.star (.var 3) .nil)))) .skip) .skip:=rfl
   rw [h5]
   clear h hws g1 g2 hc hcA hnd K N hs1 hp hpo z1 hwd
   walk_at "ev2")]
  by_cases h2 : w = "same"
  ·rw [if_pos h2]
   subst h2
   have h6 : headS (dropS 6 zZF) = .ite (.cmp .eq (.var 1) (.str "same")) (.seq (.ret (.tup (.cons (.var 1) (.star (.var 3) (.star (.meth 38 (.var 0) (.cons (.tup (.cons (.var 3) .nil)) .nil)) .nil))))) .skip) .skip:=rfl
   have t2:=zZMz n W2 rd ca ws ks s2 K r2 hc2 [p] (fun x hx=>by rw [List.mem_singleton.mp hx]; exact hpo)
   have hwoD : woD [p] = .tup [prD p]:=rfl
   rw [hwoD] at t2
   cases o2 : takeValA ws ks [p] s2 with
   | bad i =>
    rw [o2] at t2
    obtain ⟨W3,st,e3⟩:=t2
    refine ⟨W3,stA.trans st, ?_⟩
    rw [yZD (W1:=W3) (c:=zZC) (p:=.tup [.int (i : Int)])]
    ·rfl
    ·rw [h6]
     clear h hws g1 g2 hc hcA hnd K N hs1 hp hpo z1 o2 st hwd h6 hwoD
     unfold rdC at hr2
     simp only [prD] at *
     generalize ws.map D.str = WS at *
     generalize ks.map kI = KI at *
     walk_at "ev2"
   | ok q s3 =>
    rw [o2] at t2
    obtain ⟨W3,r3,st,e3⟩:=t2
    refine ⟨W3,r3,stA.trans st, ?_⟩
    rw [yZ3,h6]
    clear h hws g1 g2 hc hcA hnd K N hs1 hp hpo z1 o2 st hwd h6 hwoD r3
    unfold rdC at hr2
    simp only [prD,cqD] at *
    generalize ws.map D.str = WS at *
    generalize ks.map kI = KI at *
    walk_at "ev2"
  rw [if_neg h2]
  rw [zZa (W1:=W2) (e1:=[.val (.own rd),.val (.str w),.val (.int (((pairsA ks s.cs []).length : Nat) : Int)),.val (prD p),.no]) (by
   have h6 : headS (dropS 6 zZF) = .ite (.cmp .eq (.var 1) (.str "same")) (.seq (.ret (.tup (.cons (.var 1) (.star (.var 3) (.star (.meth 38 (.var 0) (.cons (.tup (.cons (.var 3) .nil)) .nil)) .nil))))) .skip) .skip:=rfl
   rw [h6]
   clear h hws g1 g2 hc hcA hnd K N hs1 hp hpo z1 hwd
   walk_at "ev2")]
  have hsz:=zZFQ (n + 1) W2 rd ca ws ks s2 r2 hc2.l p _ hp
  have t3:=zZCv (n + 1) W2 rd ca ws ks s2 hws r2 0 (sizeA ks s2.cs p - 1)
  have h7 : headS (dropS 7 zZF) = .ite (.cmp .ne (.var 1) (.str "among")) (.seq (.ret (.tup (.cons (.var 1) (.star (.var 3) (.cons (.meth 36 (.var 0) (.cons (.int 0) (.cons (.bin .sub (.meth 39 (.var 0) (.cons (.var 3) .nil)) (.int 1)) .nil))) .nil))))) .skip) .skip:=rfl
  by_cases h3 : w ≠ "among"
  ·rw [if_pos h3]
   cases o3 : takeNumA ws 0 (sizeA ks s2.cs p - 1) s2 with
   | bad i =>
    rw [o3] at t3
    obtain ⟨W3,st,e3⟩:=t3
    refine ⟨W3,stA.trans st, ?_⟩
    rw [yZD (W1:=W3) (c:=zZC) (p:=.tup [.int (i : Int)])]
    ·rfl
    ·rw [h7]
     clear h hws g1 g2 hc hcA hnd K N hs1 hp hpo z1 o3 st hwd h7
     unfold rdC at hr2
     generalize sizeA ks s2.cs p = Z at *
     simp only [prD] at *
     generalize ws.map D.str = WS at *
     generalize ks.map kI = KI at *
     walk_at "ev2"
   | ok v s3 =>
    rw [o3] at t3
    obtain ⟨W3,r3,st,e3⟩:=t3
    refine ⟨W3,r3,stA.trans st, ?_⟩
    rw [yZ3,h7]
    clear h hws g1 g2 hc hcA hnd K N hs1 hp hpo z1 o3 st hwd h7 r3
    unfold rdC at hr2
    generalize sizeA ks s2.cs p = Z at *
    simp only [prD,cqD] at *
    generalize ws.map D.str = WS at *
    generalize ks.map kI = KI at *
    walk_at "ev2"
  rw [if_neg h3]
  have h3 : w = "among" := Classical.not_not.mp h3
  subst h3
  rw [zZa (W1:=W2) (e1:=[.val (.own rd),.val (.str "among"),.val (.int (((pairsA ks s.cs []).length : Nat) : Int)),.val (prD p),.no]) (by
   rw [h7]
   clear h hws g1 g2 hc hcA hnd K N hs1 hp hpo z1 hwd t3
   walk_at "ev2")]
  cases o3 : takeNumA ws 0 (sizeA ks s2.cs p - 1) s2 with
  | bad i =>
   rw [o3] at t3
   obtain ⟨W3,st,e3⟩:=t3
   refine ⟨W3,stA.trans st, ?_⟩
   rw [yZD (W1:=W3) (c:=zZC) (p:=.tup [.int (i : Int)])]
   ·rfl
   ·clear h hws g1 g2 hc hcA hnd K N hs1 hp hpo z1 o3 st hwd h7
    unfold rdC at hr2
    generalize sizeA ks s2.cs p = Z at *
    simp only [prD] at *
    generalize ws.map D.str = WS at *
    generalize ks.map kI = KI at *
    walk_at "ev2"
  | ok v s3 =>
  rw [o3] at t3
  obtain ⟨W3,r3,st3,e3⟩:=t3
  obtain ⟨y1,-,-,-,-⟩:=zZAJ o3
  rw [zZa (W1:=W3) (e1:=[.val (.own rd),.val (.str "among"),.val (.int (((pairsA ks s.cs []).length : Nat) : Int)),.val (prD p),.ol (([] ++ [v]).map .int)]) (by
   clear h hws g1 g2 hc hcA hnd K N hs1 hp hpo z1 o3 st3 hwd h7 r3
   unfold rdC at hr2
   generalize sizeA ks s2.cs p = Z at *
   simp only [prD,List.nil_append,List.map_cons,List.map_nil] at *
   generalize ws.map D.str = WS at *
   generalize ks.map kI = KI at *
   walk_at "ev2")]
  have hz:=zZLn n rd ca ws ks hws p (sizeA ks s2.cs p) (.val (.str "among")) (.val (.int (((pairsA ks s.cs []).length : Nat) : Int))) ws.length 1000000007 [] v s3 W3 (by omega) (by have:=hws.l; omega) (by have:=hws.l; simp only [List.length_nil]; omega) r3 (by rw [y1]; exact hc2.l) (by rw [y1]; exact hp)
  have stB:=stA.trans st3
  have hbn : (RO.ok v s3).bind (fun v s2'=>(amA ws (sizeA ks s2.cs p - 1) ws.length [v] s2').bind fun vs s3=>.ok (Cq.among p vs) s3) = (amA ws (sizeA ks s2.cs p - 1) ws.length [v] s3).bind fun vs s3=>.ok (Cq.among p vs) s3:=rfl
  rw [hbn]
  rw [List.nil_append] at hz ⊢
  cases o4 : amA ws (sizeA ks s2.cs p - 1) ws.length [v] s3 with
  | bad i =>
   rw [o4] at hz
   obtain ⟨W4,st,e4⟩:=hz
   refine ⟨W4,stB.trans st, ?_⟩
   rw [yZD (W1:=W4) (c:=zZC) (p:=.tup [.int (i : Int)])]
   ·rfl
   ·rw [zZt]
    exact e4
  | ok vs s4 =>
  rw [o4] at hz
  obtain ⟨W4,r4,-,st,e4⟩:=hz
  rw [zZa (W1:=W4) (by rw [zZt]; exact e4)]
  refine ⟨W4,r4,stB.trans st, ?_⟩
  clear h hws g1 g2 hc hcA hnd K N hs1 hp hpo z1 o3 st3 hwd h7 r3 e4 o4 hsz e3 hr2
  simp only [prD,cqD]
  generalize vs.map D.int = VS at *
  walk_at "ev2"
 ·rw [if_neg hg]
  refine ⟨W,.refl _ _ _, ?_⟩
  rw [yZD (W1:=W) (c:=zZC) (p:=.tup [.int (s.i : Int)])]
  ·rfl
  ·rw [hH2]
   by_cases g1 : wordA ws s.i ∈ CNDL
   ·have g2 : (pairsA ks s.cs []).length < 1 + (if wordA ws s.i = "same" then 1 else 0):=Classical.not_not.mp fun z=>hg ⟨g1,z⟩
    have hin2 : (!decide (wordA ws s.i ∈ CNDL)) = false:=by rw [decide_eq_true g1]; rfl
    simp only [hin2] at hin
    clear hH2 hc hnd h hws K N g1 hin2 hg
    unfold rdC at hr
    generalize (pairsA ks s.cs []).length = L at *
    generalize wordA ws s.i = w at *
    generalize ws.map D.str = WS at *
    generalize ks.map kI = KI at *
    by_cases hs : w = "same"
    ·subst hs
     rw [if_pos rfl] at g2
     have g3 : (L : Int) < 2:=by omega
     clear g2
     walk_at "ev2"
    ·rw [if_neg hs] at g2
     have g3 : (L : Int) < 1:=by omega
     clear g2
     walk_at "ev2"
   ·have hin2 : (!decide (wordA ws s.i ∈ CNDL)) = true:=by rw [decide_eq_false g1]; rfl
    simp only [hin2] at hin
    clear hH2 hc hnd h hws K N g1 hin2 hg
    unfold rdC at hr
    generalize (pairsA ks s.cs []).length = L at *
    generalize wordA ws s.i = w at *
    generalize ws.map D.str = WS at *
    generalize ks.map kI = KI at *
    walk_at "ev2"
def polQ (cs : List Cd) (cn : List Cq) : D:=.ins yZB [(28,.tup (cs.map cdD)),(29,.tup (cn.map cqD))]
structure CdInv (ks : List Kd) (cs : List Cd) : Prop where
 c : CardsOK ks cs
 n : (cs.map fun c=>c.nm).Nodup
theorem zZJN (ks : List Kd) : CdInv ks []:=⟨⟨by simp,by simp,by simp⟩,by simp⟩
theorem zZJW {ks : List Kd} {x : Str} (h : x ∈ ks.map fun k=>k.1) : ∃ k,kfind ks x = some k:=by
 obtain ⟨k,hk,e⟩:=List.mem_map.mp h
 unfold kfind
 cases hq : ks.find? fun k=>decide (k.1 = x) with
 | some k'=>exact ⟨k',rfl⟩
 | none =>
  rw [List.find?_eq_none] at hq
  exact absurd (decide_eq_true e) (hq k hk)
theorem zZIF {ws : List Str} : ∀ {m : Nat} {ns ns' : List Str} {s s' : RS},issA ws m ns s = .ok ns' s' → s'.cs = s.cs
 | 0,ns,ns',s,s',h=>by cases h; rfl
 | m + 1,ns,ns',s,s',h=>by
  unfold issA at h
  split at h
  ·cases ho : takeNmA ws ns s with
   | bad i=>rw [ho] at h; cases h
   | ok w s1 =>
    rw [ho] at h
    exact (zZIF (m:=m) h).trans (xZ9 ho).1
  ·cases h; rfl
theorem zZKY {ws : List Str} {ks : List Kd} {s s' : RS} {u : Unit} (h : cardA ws ks s = .ok u s') : ∃ c : Cd,s'.cs = s.cs ++ [c] ∧ c.nm ∉ s.cs.map (fun c=>c.nm) ∧ c.k ∈ ks.map (fun k=>k.1) ∧ ∃ i,wordA ws i = c.nm:=by
 unfold cardA at h
 cases o1 : takeA ws [(PySem.Str.ofString "card")] s with
 | bad i=>rw [o1] at h; cases h
 | ok _ s1 =>
 rw [o1] at h
 have h : (takeNmA ws (s1.cs.map fun c=>c.nm) s1).bind _ = RO.ok u s':=h
 cases o2 : takeNmA ws (s1.cs.map fun c=>c.nm) s1 with
 | bad i=>rw [o2] at h; cases h
 | ok nm s2 =>
 rw [o2] at h
 have h : (takeA ws (ks.map fun k=>k.1) s2).bind _ = RO.ok u s':=h
 cases o3 : takeA ws (ks.map fun k=>k.1) s2 with
 | bad i=>rw [o3] at h; cases h
 | ok k s3 =>
 rw [o3] at h
 have h : (takeA ws [(PySem.Str.ofString "from")] s3).bind _ = RO.ok u s':=h
 cases o4 : takeA ws [(PySem.Str.ofString "from")] s3 with
 | bad i=>rw [o4] at h; cases h
 | ok _ s4 =>
 rw [o4] at h
 have h : (takeNmA ws [] s4).bind _ = RO.ok u s':=h
 cases o5 : takeNmA ws [] s4 with
 | bad i=>rw [o5] at h; cases h
 | ok w s5 =>
 rw [o5] at h
 have h : (issA ws 2 [w] s5).bind _ = RO.ok u s':=h
 cases o6 : issA ws 2 [w] s5 with
 | bad i=>rw [o6] at h; cases h
 | ok ns s6 =>
 rw [o6] at h
 cases h
 obtain ⟨a1,-⟩:=yZW o1
 obtain ⟨b1,b2,b3,-,b5⟩:=xZ9 o2
 obtain ⟨c1,c2,-⟩:=yZW o3
 obtain ⟨d1,-⟩:=yZW o4
 obtain ⟨e1,-⟩:=xZ9 o5
 have f1:=zZIF o6
 have hh : s6.cs = s.cs:=by rw [f1,e1,d1,c1,b1,a1]
 refine ⟨⟨nm,k,ns⟩,by show s6.cs ++ _ = _; rw [hh],by rw [← a1]; exact b3,c2,s1.i,b5⟩
theorem CdInv.card {ws : List Str} {ks : List Kd} {s s' : RS} {u : Unit} (hws : WsOK ws) (N : KindsND ks) (I : CdInv ks s.cs) (hl : s.cs.length ≤ 5) (h : cardA ws ks s = .ok u s') : CdInv ks s'.cs ∧ s'.cs.length = s.cs.length + 1:=by
 obtain ⟨c,h1,h2,h3,i,h4⟩:=zZKY h
 obtain ⟨k,hk⟩:=zZJW h3
 rw [h1]
 refine ⟨⟨⟨by rw [List.length_append,List.length_singleton]; omega,fun x hx => ?_,fun x hx => ?_⟩, ?_⟩,by rw [List.length_append,List.length_singleton]⟩
 ·rcases List.mem_append.mp hx with hx | hx
  ·exact I.c.k x hx
  ·rw [List.mem_singleton.mp hx]
   exact ⟨k,hk,(N.n k (List.mem_of_find?_eq_some hk)).2⟩
 ·rcases List.mem_append.mp hx with hx | hx
  ·exact I.c.s x hx
  ·rw [List.mem_singleton.mp hx,← h4]
   exact (zZBq hws i).2
 ·rw [List.map_append,List.nodup_append]
  refine ⟨I.n,by simp,fun a ha b hb e => ?_⟩
  simp only [List.map_cons,List.map_nil,List.mem_singleton] at hb
  exact h2 (by rw [← hb,← e]; exact ha)
def cardsA (ws : List Str) (ks : List Kd) : Nat → RS → RO Unit
 | 0,s=>.ok () s
 | m + 1,s=>if wordA ws s.i = "card" ∧ s.cs.length < 3 then (cardA ws ks s).bind fun _ s=>cardsA ws ks m s else .ok () s
def condsA (ws : List Str) (ks : List Kd) : Nat → List Cq → RS → RO (List Cq)
 | 0,cn,s=>.ok cn s
 | m + 1,cn,s=>if s.i < ws.length ∧ cn.length < 6 then (condA ws ks s).bind fun c s=>condsA ws ks m (cn ++ [c]) s else .ok cn s
def readA (ws : List Str) (ks : List Kd) : RO (List Cq) :=
 (cardA ws ks ⟨0,[]⟩).bind fun _ s=>(cardsA ws ks 2 s).bind fun _ s=>(condsA ws ks 6 [] s).bind fun cn s=>if s.i < ws.length then .bad s.i else .ok cn s
abbrev cdC : E:=.and (.cons (.cmp .eq (.meth 33 (.var 2) .nil) (.str "card")) (.cons (.cmp .lt (.b1 .len (.fld 28 (.var 2))) (.int 3)) .nil))
abbrev cdB : DL.S:=.seq (.expr (.meth 40 (.var 2) .nil)) .skip
abbrev cnC : E:=.and (.cons (.cmp .lt (.fld 32 (.var 2)) (.b1 .len (.fld 31 (.var 2)))) (.cons (.cmp .lt (.b1 .len (.var 3)) (.int 6)) .nil))
abbrev cnB : DL.S:=.seq (.append (.var 3) (.meth 41 (.var 2) .nil)) .skip
theorem zZIm (n : Nat) (rd ca : Nat) (ws : List Str) (ks : List Kd) (hws : WsOK ws) (N : KindsND ks) (hk : ks.length ≤ 100) (y0 y1 y3 : Slot) : ∀ (m fuel : Nat) (s : RS) (W : Wd),3 ≤ s.cs.length + m → m < fuel → s.cs.length + m ≤ 5 → RdAt W rd ca ws ks s → CdInv ks s.cs →
  match cardsA ws ks m s with
  | .ok _ s' => ∃ W',RdAt W' rd ca ws ks s' ∧ CdInv ks s'.cs ∧ s'.cs.length ≤ 5 ∧ Stay W W' rd ca ∧ whileL (evE (cfgN T (n + 3)) cdC) (exS (cfgN T (n + 3)) cdB) fuel [y0,y1,.val (.own rd),y3] W = .ok (.nx [y0,y1,.val (.own rd),y3]) W'
  | .bad i => ∃ W',Stay W W' rd ca ∧ whileL (evE (cfgN T (n + 3)) cdC) (exS (cfgN T (n + 3)) cdB) fuel [y0,y1,.val (.own rd),y3] W = .ex zZC (.tup [.int (i : Int)]) W':=by
 have cond : ∀ (s : RS) (W : Wd),RdAt W rd ca ws ks s → evE (cfgN T (n + 3)) cdC [y0,y1,.val (.own rd),y3] W = .ok (.bl (decide (wordA ws s.i = "card") && decide (s.cs.length < 3))) W:=fun s W h=>by
  have hw:=xZU (n + 2) W rd ca ws ks s h
  have hr:=h.rd_
  have hca:=h.ca_
  unfold rdC at hr
  have hl : (((s.cs.map cdD).length : Nat) : Int) = (s.cs.length : Int):=by rw [List.length_map]
  generalize wordA ws s.i = w at *
  by_cases g1 : w = "card"
  ·subst g1
   rw [decide_eq_true rfl,Bool.true_and]
   by_cases g2 : s.cs.length < 3
   ·have g3 : (((s.cs.map cdD).length : Nat) : Int) < 3:=by rw [hl]; omega
    rw [decide_eq_true g2]
    clear h hl g2
    generalize s.cs.map cdD = CS at *
    generalize ws.map D.str = WS at *
    generalize ks.map kI = KI at *
    walk_at "ev2" <;> rfl
   ·have g3 : ¬ (((s.cs.map cdD).length : Nat) : Int) < 3:=by rw [hl]; omega
    rw [decide_eq_false g2]
    clear h hl g2
    generalize s.cs.map cdD = CS at *
    generalize ws.map D.str = WS at *
    generalize ks.map kI = KI at *
    walk_at "ev2" <;> rfl
  ·rw [decide_eq_false g1,Bool.false_and]
   clear h hl hca
   generalize ws.map D.str = WS at *
   generalize ks.map kI = KI at *
   walk_at "ev2" <;> rfl
 intro m
 induction m with
 | zero =>
  intro fuel s W hm hf hl h I
  have hc:=cond s W h
  rw [decide_eq_false (show ¬ s.cs.length < 3 by omega),Bool.and_false] at hc
  refine ⟨W,h,I,by omega,.refl _ _ _, ?_⟩
  match fuel,hf with
  | f + 1,_=>exact zZCq hc
 | succ m ih =>
  intro fuel s W hm hf hl h I
  have hc:=cond s W h
  match fuel,hf with
  | f + 1,hf =>
   unfold cardsA
   by_cases hg : wordA ws s.i = "card" ∧ s.cs.length < 3
   ·rw [if_pos hg]
    rw [decide_eq_true hg.1,decide_eq_true hg.2,Bool.true_and] at hc
    have ht:=zZHk n W rd ca ws ks s hws h (by omega) hk
    have hr:=h.rd_
    unfold rdC at hr
    cases ho : cardA ws ks s with
    | bad i =>
     rw [ho] at ht
     obtain ⟨W1,st,e1⟩:=ht
     refine ⟨W1,st,zZFo hc ?_⟩
     clear hc ih ho h hws st cond I N hg
     generalize ws.map D.str = WS at *
     generalize ks.map kI = KI at *
     walk_at "ev2"
    | ok u s1 =>
     rw [ho] at ht
     obtain ⟨W1,r1,st,e1⟩:=ht
     obtain ⟨I1,l1⟩:=I.card hws N (by omega) ho
     have hbd : exS (cfgN T (n + 3)) cdB [y0,y1,.val (.own rd),y3] W = .ok (.nx [y0,y1,.val (.own rd),y3]) W1:=by
      clear hc ih ho h hws st cond I N hg r1 I1 l1
      generalize ws.map D.str = WS at *
      generalize ks.map kI = KI at *
      walk_at "ev2"
     have hz:=ih f s1 W1 (by omega) (by omega) (by omega) r1 I1
     have hbn : (RO.ok u s1).bind (fun _ s=>cardsA ws ks m s) = cardsA ws ks m s1:=rfl
     rw [hbn]
     cases hq : cardsA ws ks m s1 with
     | ok v s' =>
      rw [hq] at hz
      obtain ⟨W',a1,a2,a3,a4,a5⟩:=hz
      exact ⟨W',a1,a2,a3,st.trans a4,by rw [zZBi hc hbd]; exact a5⟩
     | bad i =>
      rw [hq] at hz
      obtain ⟨W',a4,a5⟩:=hz
      exact ⟨W',st.trans a4,by rw [zZBi hc hbd]; exact a5⟩
   ·rw [if_neg hg]
    have hd : (decide (wordA ws s.i = "card") && decide (s.cs.length < 3)) = false:=by
     rw [Bool.eq_false_iff]
     intro z
     rw [Bool.and_eq_true,decide_eq_true_eq,decide_eq_true_eq] at z
     exact hg z
    rw [hd] at hc
    exact ⟨W,h,I,by omega,.refl _ _ _,zZCq hc⟩
theorem zZLA {ws : List Str} {ks : List Kd} {s s' : RS} {c : Cq} (h : condA ws ks s = .ok c s') : s'.cs = s.cs:=by
 unfold condA at h
 split at h
 ·cases o1 : takeValA ws ks [] { s with i:=s.i + 1 } with
  | bad i=>rw [o1] at h; cases h
  | ok p s1 =>
   obtain ⟨-,z1,-⟩:=zZD2 o1
   rw [o1] at h
   have h : (if wordA ws s.i = "tell" then RO.ok (Cq.tell p) s1
    else if wordA ws s.i = "same" then (takeValA ws ks [p] s1).bind fun q s2=>.ok (.same p q) s2
    else if wordA ws s.i ≠ "among" then (takeNumA ws 0 (sizeA ks s1.cs p - 1) s1).bind fun v s2=>.ok (.num (wordA ws s.i) p v) s2
    else (takeNumA ws 0 (sizeA ks s1.cs p - 1) s1).bind fun v s2=>(amA ws (sizeA ks s1.cs p - 1) ws.length [v] s2).bind fun vs s3=>.ok (.among p vs) s3) = .ok c s':=h
   split at h
   ·cases h; exact z1
   ·split at h
    ·cases o2 : takeValA ws ks [p] s1 with
     | bad i=>rw [o2] at h; cases h
     | ok q s2=>rw [o2] at h; cases h; exact ((zZD2 o2).2.1).trans z1
    ·split at h
     ·cases o2 : takeNumA ws 0 (sizeA ks s1.cs p - 1) s1 with
      | bad i=>rw [o2] at h; cases h
      | ok q s2=>rw [o2] at h; cases h; exact ((zZAJ o2).1).trans z1
     ·cases o2 : takeNumA ws 0 (sizeA ks s1.cs p - 1) s1 with
      | bad i=>rw [o2] at h; cases h
      | ok v s2 =>
       rw [o2] at h
       have h : (amA ws (sizeA ks s1.cs p - 1) ws.length [v] s2).bind (fun vs s3=>RO.ok (Cq.among p vs) s3) = .ok c s':=h
       have key : ∀ (hi : Int) (m : Nat) (vs vs' : List Int) (s s' : RS),amA ws hi m vs s = .ok vs' s' → s'.cs = s.cs:=by
        intro hi m
        induction m with
        | zero=>intro vs vs' s s' h; cases h; rfl
        | succ m ih =>
         intro vs vs' s s' h
         unfold amA at h
         split at h
         ·cases h; rfl
         ·cases o : takeNumA ws (vs.getLast?.getD 0 + 1) hi s with
          | bad i=>rw [o] at h; cases h
          | ok v s1=>rw [o] at h; exact (ih _ _ _ _ h).trans (zZAJ o).1
       cases o3 : amA ws (sizeA ks s1.cs p - 1) ws.length [v] s2 with
       | bad i=>rw [o3] at h; cases h
       | ok vs s3=>rw [o3] at h; cases h; exact (key _ _ _ _ _ _ o3).trans (((zZAJ o2).1).trans z1)
 ·cases h
theorem zZI0 (n : Nat) (rd ca : Nat) (ws : List Str) (ks : List Kd) (hws : WsOK ws) (K : KindsOK ks) (N : KindsND ks) (y0 y1 : Slot) : ∀ (m fuel : Nat) (cn : List Cq) (s : RS) (W : Wd),6 ≤ cn.length + m → m < fuel → cn.length ≤ 10 → RdAt W rd ca ws ks s → CdInv ks s.cs →
  match condsA ws ks m cn s with
  | .ok cn' s' => ∃ W',RdAt W' rd ca ws ks s' ∧ s'.cs = s.cs ∧ Stay W W' rd ca ∧ whileL (evE (cfgN T (n + 4)) cnC) (exS (cfgN T (n + 4)) cnB) fuel [y0,y1,.val (.own rd),.ol (cn.map cqD)] W = .ok (.nx [y0,y1,.val (.own rd),.ol (cn'.map cqD)]) W'
  | .bad i => ∃ W',Stay W W' rd ca ∧ whileL (evE (cfgN T (n + 4)) cnC) (exS (cfgN T (n + 4)) cnB) fuel [y0,y1,.val (.own rd),.ol (cn.map cqD)] W = .ex zZC (.tup [.int (i : Int)]) W':=by
 have cond : ∀ (cn : List Cq) (s : RS) (W : Wd),RdAt W rd ca ws ks s → evE (cfgN T (n + 4)) cnC [y0,y1,.val (.own rd),.ol (cn.map cqD)] W = .ok (.bl (decide (s.i < ws.length) && decide (cn.length < 6))) W:=fun cn s W h=>by
  have hr:=h.rd_
  unfold rdC at hr
  have hl : (((cn.map cqD).length : Nat) : Int) = (cn.length : Int):=by rw [List.length_map]
  have hl2 : (((ws.map D.str).length : Nat) : Int) = (ws.length : Int):=by rw [List.length_map]
  by_cases g1 : s.i < ws.length
  ·have g4 : (s.i : Int) < (((ws.map D.str).length : Nat) : Int):=by rw [hl2]; omega
   rw [decide_eq_true g1,Bool.true_and]
   by_cases g2 : cn.length < 6
   ·have g3 : (((cn.map cqD).length : Nat) : Int) < 6:=by rw [hl]; omega
    rw [decide_eq_true g2]
    clear h hl g2 hl2 g1
    generalize cn.map cqD = CS at *
    generalize ws.map D.str = WS at *
    generalize ks.map kI = KI at *
    walk_at "ev2" <;> rfl
   ·have g3 : ¬ (((cn.map cqD).length : Nat) : Int) < 6:=by rw [hl]; omega
    rw [decide_eq_false g2]
    clear h hl g2 hl2 g1
    generalize cn.map cqD = CS at *
    generalize ws.map D.str = WS at *
    generalize ks.map kI = KI at *
    walk_at "ev2" <;> rfl
  ·have g4 : ¬ (s.i : Int) < (((ws.map D.str).length : Nat) : Int):=by rw [hl2]; omega
   rw [decide_eq_false g1,Bool.false_and]
   clear h hl hl2 g1
   generalize cn.map cqD = CS at *
   generalize ws.map D.str = WS at *
   generalize ks.map kI = KI at *
   walk_at "ev2" <;> rfl
 intro m
 induction m with
 | zero =>
  intro fuel cn s W hm hf hl h I
  have hc:=cond cn s W h
  rw [decide_eq_false (show ¬ cn.length < 6 by omega),Bool.and_false] at hc
  refine ⟨W,h,rfl,.refl _ _ _, ?_⟩
  match fuel,hf with
  | f + 1,_=>exact zZCq hc
 | succ m ih =>
  intro fuel cn s W hm hf hl h I
  have hc:=cond cn s W h
  match fuel,hf with
  | f + 1,hf =>
   unfold condsA
   by_cases hg : s.i < ws.length ∧ cn.length < 6
   ·rw [if_pos hg]
    rw [decide_eq_true hg.1,decide_eq_true hg.2,Bool.true_and] at hc
    have ht:=zZKK n W rd ca ws ks s hws K N h I.c I.n
    have hr:=h.rd_
    unfold rdC at hr
    cases ho : condA ws ks s with
    | bad i =>
     rw [ho] at ht
     obtain ⟨W1,st,e1⟩:=ht
     refine ⟨W1,st,zZFo hc ?_⟩
     clear hc ih ho h hws st cond I N K hg
     generalize cn.map cqD = CN at *
     generalize ws.map D.str = WS at *
     generalize ks.map kI = KI at *
     walk_at "ev2"
    | ok c s1 =>
     rw [ho] at ht
     obtain ⟨W1,r1,st,e1⟩:=ht
     have z1:=zZLA ho
     have hbd : exS (cfgN T (n + 4)) cnB [y0,y1,.val (.own rd),.ol (cn.map cqD)] W = .ok (.nx [y0,y1,.val (.own rd),.ol ((cn ++ [c]).map cqD)]) W1:=by
      have hln : (cn.map cqD).length < cap:=by rw [List.length_map]; unfold cap; omega
      have em : (cn ++ [c]).map cqD = cn.map cqD ++ [cqD c]:=by rw [List.map_append]; rfl
      rw [em]
      clear hc ih ho h hws st cond I N K hg r1 em z1
      generalize cn.map cqD = CN at *
      generalize cqD c = CD at *
      generalize ws.map D.str = WS at *
      generalize ks.map kI = KI at *
      walk_at "ev2"
     have hz:=ih f (cn ++ [c]) s1 W1 (by rw [List.length_append,List.length_singleton]; omega) (by omega) (by rw [List.length_append,List.length_singleton]; omega) r1 (by rw [z1]; exact I)
     have hbn : (RO.ok c s1).bind (fun c s=>condsA ws ks m (cn ++ [c]) s) = condsA ws ks m (cn ++ [c]) s1:=rfl
     rw [hbn]
     cases hq : condsA ws ks m (cn ++ [c]) s1 with
     | ok v s' =>
      rw [hq] at hz
      obtain ⟨W',a1,a2,a4,a5⟩:=hz
      exact ⟨W',a1,a2.trans z1,st.trans a4,by rw [zZBi hc hbd]; exact a5⟩
     | bad i =>
      rw [hq] at hz
      obtain ⟨W',a4,a5⟩:=hz
      exact ⟨W',st.trans a4,by rw [zZBi hc hbd]; exact a5⟩
   ·rw [if_neg hg]
    have hd : (decide (s.i < ws.length) && decide (cn.length < 6)) = false:=by
     rw [Bool.eq_false_iff]
     intro z
     rw [Bool.and_eq_true,decide_eq_true_eq,decide_eq_true_eq] at z
     exact hg z
    rw [hd] at hc
    exact ⟨W,h,rfl,.refl _ _ _,zZCq hc⟩
theorem zZI4 (n : Nat) (t : Str) (KI : List D) (ws : List Str) (W : Wd) (ht : (t = "" ∧ ws = []) ∨ (t ≠ "" ∧ splitD (.str t) (.str " ") = some (ws.map .str))) :
  (cfgN T (n + 1)).init zZCD [.str t,.lst KI] W = .ok [(31,.lst (ws.map .str)),(32,.int 0),(20,.lst KI),(28,.own W.length)] (W ++ [.lst []]):=by
 have hc0 : 0 ≤ cap:=by decide
 have hn : ∀ (c : Cell) (W : Wd),newCell c W = .ok (.own W.length) (W ++ [c]):=fun _ _=>rfl
 rw [zZEv (F:=yZP) rfl]
 simp only [yZP,xZC]
 rcases ht with ⟨rfl,rfl⟩ | ⟨h1,h2⟩
 ·simp only [List.map_nil]
  walk_at "ev2"
 ·generalize ws.map D.str = WS at *
  walk_at "ev2"
theorem zZIA (n : Nat) (ca : Nat) (xs ys : List D) (W : Wd) (h : W[ca]? = some (.lst xs)) : (cfgN T (n + 1)).init yZB [.own ca,.lst ys] W = .ok [(28,.tup xs),(29,.tup ys)] W:=by
 rw [zZEv (F:=zZe) rfl]
 simp only [zZe,yZO]
 walk_at "ev2"
/-- nothing that stood there is changed -/
structure Ext0 (W W' : Wd) : Prop where
 l : W.length ≤ W'.length
 g : ∀ a,a < W.length → W'[a]? = W[a]?
theorem zZLH (n : Nat) (W : Wd) (t : Str) (ws : List Str) (ks : List Kd) (hws : WsOK ws) (K : KindsOK ks) (N : KindsND ks) (ht : (t = "" ∧ ws = []) ∨ (t ≠ "" ∧ splitD (.str t) (.str " ") = some (ws.map .str))) :
  match readA ws ks with
  | .ok cn s => ∃ W',Ext0 W W' ∧ (cfgN T (n + 5)).call zZBY [.str t,.lst (ks.map kI)] W = .ok (polQ s.cs cn) W'
  | .bad i => ∃ W',Ext0 W W' ∧ (cfgN T (n + 5)).call zZBY [.str t,.lst (ks.map kI)] W = .ex zZC (.tup [.int (i : Int)]) W':=by
 have hB : yZc = .seq (.asg (.nm 2) (.make zZCD (.cons (.var 0) (.cons (.var 1) .nil))))
  (.seq (.expr (.meth 40 (.var 2) .nil)) (.seq (.whil 1000000007 cdC cdB) (.seq (.asgO 3 (.disp .nil)) (.seq (.whil 1000000007 cnC cnB)
  (.seq (.ite (.cmp .lt (.fld 32 (.var 2)) (.b1 .len (.fld 31 (.var 2)))) (.seq (.raisE zZC (.fld 32 (.var 2))) .skip) .skip)
  (.seq (.freeze 3) (.seq (.ret (.make yZB (.cons (.fld 28 (.var 2)) (.cons (.var 3) .nil)))) .skip))))))):=rfl
 have hi:=zZI4 (n + 3) t (ks.map kI) ws W ht
 have hn : ∀ (c : Cell) (W : Wd),newCell c W = .ok (.own W.length) (W ++ [c]):=fun _ _=>rfl
 have hc0 : 0 ≤ cap:=by decide
 generalize hca : W.length = ca at *
 have hl1 : (W ++ [Cell.lst []]).length = ca + 1:=by rw [List.length_append,hca]; rfl
 have hrd : (W ++ [Cell.lst []] ++ [rdC ws 0 ks ca])[ca + 1]? = some (rdC ws 0 ks ca):=by rw [List.getElem?_append_right (by omega),hl1]; simp
 have hc1 : (W ++ [Cell.lst []] ++ [rdC ws 0 ks ca])[ca]? = some (.lst (([] : List Cd).map cdD)):=by
  rw [List.getElem?_append_left (by omega),List.getElem?_append_right (by omega),hca]
  simp
 have r0 : RdAt (W ++ [Cell.lst []] ++ [rdC ws 0 ks ca]) (ca + 1) ca ws ks ⟨0,[]⟩:=⟨hrd,hc1,by omega⟩
 have fin : ∀ W',Stay (W ++ [Cell.lst []] ++ [rdC ws 0 ks ca]) W' (ca + 1) ca → Ext0 W W':=fun W' q=>by
  have hp : (W ++ [Cell.lst []] ++ [rdC ws 0 ks ca]).length = ca + 2:=by rw [List.length_append,hl1]; rfl
  refine ⟨?_,fun a x => ?_⟩
  ·have:=q.l
   omega
  ·rw [q.g a (by omega) (by omega) (by omega),List.getElem?_append_left (by omega),List.getElem?_append_left (by omega)]
 have hstep : exS (cfgN T (n + 4)) (.asg (.nm 2) (.make zZCD (.cons (.var 0) (.cons (.var 1) .nil)))) [.val (.str t),.val (.lst (ks.map kI)),.no,.no] W = .ok (.nx [.val (.str t),.val (.lst (ks.map kI)),.val (.own (ca + 1)),.no]) (W ++ [Cell.lst []] ++ [rdC ws 0 ks ca]):=by
  have hn1:=hn (rdC ws 0 ks ca) (W ++ [Cell.lst []])
  rw [hl1] at hn1
  unfold rdC at hn1 ⊢
  have e0 : ((0 : Nat) : Int) = 0:=rfl
  rw [e0] at hn1 ⊢
  clear r0 fin hrd hc1 hl1 hca hB ht hn
  generalize W ++ [Cell.lst []] = WA at *
  generalize ws.map D.str = WS at *
  generalize ks.map kI = KI at *
  walk_at "ev2"
 rw [zZE (F:=zZBU) rfl,yZS rfl]
 show (match readA ws ks with
  | .ok cn s => ∃ W',Ext0 W W' ∧ bnd (exS (cfgN T (n + 4)) yZc [.val (.str t),.val (.lst (ks.map kI)),.no,.no] W) endR .mk = .ok (polQ s.cs cn) W'
  | .bad i => ∃ W',Ext0 W W' ∧ bnd (exS (cfgN T (n + 4)) yZc [.val (.str t),.val (.lst (ks.map kI)),.no,.no] W) endR .mk = .ex zZC (.tup [.int (i : Int)]) W')
 rw [hB,zZa hstep]
 clear hi hstep hB hn hrd hc1 hl1
 generalize W ++ [Cell.lst []] ++ [rdC ws 0 ks ca] = W0 at *
 have t1:=zZHk (n + 1) W0 (ca + 1) ca ws ks ⟨0,[]⟩ hws r0 (by simp) K.l
 have hr0:=r0.rd_
 unfold readA
 cases o1 : cardA ws ks ⟨0,[]⟩ with
 | bad i =>
  rw [o1] at t1
  obtain ⟨W1,st,e1⟩:=t1
  refine ⟨W1,fin W1 st, ?_⟩
  rw [yZD (W1:=W1) (c:=zZC) (p:=.tup [.int (i : Int)])]
  ·rfl
  ·clear o1 fin st r0 ht hws K N
   unfold rdC at hr0
   generalize ws.map D.str = WS at *
   generalize ks.map kI = KI at *
   walk_at "ev2"
 | ok u s1 =>
 rw [o1] at t1
 obtain ⟨W1,r1,st1,e1⟩:=t1
 obtain ⟨I1,l1⟩:=(zZJN ks).card hws N (by simp) o1
 have l1 : s1.cs.length = 1:=l1
 rw [zZa (W1:=W1) (e1:=[.val (.str t),.val (.lst (ks.map kI)),.val (.own (ca + 1)),.no]) (by
  clear o1 fin st1 r0 ht hws K N r1 I1
  unfold rdC at hr0
  generalize ws.map D.str = WS at *
  generalize ks.map kI = KI at *
  walk_at "ev2")]
 clear hr0 e1
 have hz:=zZIm (n + 1) (ca + 1) ca ws ks hws N K.l (.val (.str t)) (.val (.lst (ks.map kI))) .no 2 1000000007 s1 W1 (by omega) (by omega) (by omega) r1 I1
 have hbn : ∀ f : Unit → RS → RO (List Cq),(RO.ok u s1).bind f = f u s1:=fun _=>rfl
 rw [hbn]
 cases o2 : cardsA ws ks 2 s1 with
 | bad i =>
  rw [o2] at hz
  obtain ⟨W2,st,e2⟩:=hz
  refine ⟨W2,fin W2 (st1.trans st), ?_⟩
  rw [yZD (W1:=W2) (c:=zZC) (p:=.tup [.int (i : Int)]) (by rw [zZt]; exact e2)]
  rfl
 | ok v s2 =>
 rw [o2] at hz
 obtain ⟨W2,r2,I2,l2,st2,e2⟩:=hz
 rw [zZa (W1:=W2) (by rw [zZt]; exact e2)]
 clear e2
 rw [zZa (W1:=W2) (e1:=[.val (.str t),.val (.lst (ks.map kI)),.val (.own (ca + 1)),.ol (([] : List Cq).map cqD)]) (by
  clear o1 o2 fin st1 st2 r0 r1 r2 ht hws K N I1 I2
  generalize ks.map kI = KI at *
  simp only [List.map_nil]
  walk_at "ev2")]
 have hz:=zZI0 n (ca + 1) ca ws ks hws K N (.val (.str t)) (.val (.lst (ks.map kI))) 6 1000000007 [] s2 W2 (by simp) (by omega) (by simp) r2 I2
 have hbn : ∀ f : Unit → RS → RO (List Cq),(RO.ok v s2).bind f = f v s2:=fun _=>rfl
 rw [hbn]
 have st12:=st1.trans st2
 cases o3 : condsA ws ks 6 [] s2 with
 | bad i =>
  rw [o3] at hz
  obtain ⟨W3,st,e3⟩:=hz
  refine ⟨W3,fin W3 (st12.trans st), ?_⟩
  rw [yZD (W1:=W3) (c:=zZC) (p:=.tup [.int (i : Int)]) (by rw [zZt]; exact e3)]
  rfl
 | ok cn s3 =>
 rw [o3] at hz
 obtain ⟨W3,r3,z3,st3,e3⟩:=hz
 rw [zZa (W1:=W3) (by rw [zZt]; exact e3)]
 clear e3
 have hr3:=r3.rd_
 have hca3:=r3.ca_
 have hE:=fin W3 (st12.trans st3)
 have hbn : ∀ f : List Cq → RS → RO (List Cq),(RO.ok cn s3).bind f = f cn s3:=fun _=>rfl
 rw [hbn]
 have hl2 : (((ws.map D.str).length : Nat) : Int) = (ws.length : Int):=by rw [List.length_map]
 have hpi:=zZIA (n + 3) ca (s3.cs.map cdD) (cn.map cqD) W3 hca3
 by_cases g1 : s3.i < ws.length
 ·have g2 : (s3.i : Int) < (((ws.map D.str).length : Nat) : Int):=by rw [hl2]; omega
  rw [if_pos g1]
  refine ⟨W3,hE, ?_⟩
  clear o1 o2 o3 fin st1 st2 st3 st12 r0 r1 r2 r3 ht hws K N I1 I2 hE hl2 g1 hpi
  unfold rdC at hr3
  generalize cn.map cqD = CN at *
  generalize s3.cs.map cdD = CS at *
  generalize ws.map D.str = WS at *
  generalize ks.map kI = KI at *
  walk_at "ev2"
 ·have g2 : ¬ (s3.i : Int) < (((ws.map D.str).length : Nat) : Int):=by rw [hl2]; omega
  rw [if_neg g1]
  refine ⟨W3,hE, ?_⟩
  clear o1 o2 o3 fin st1 st2 st3 st12 r0 r1 r2 r3 ht hws K N I1 I2 hE hl2 g1
  unfold rdC at hr3
  simp only [polQ]
  generalize cn.map cqD = CN at *
  generalize s3.cs.map cdD = CS at *
  generalize ws.map D.str = WS at *
  generalize ks.map kI = KI at *
  walk_at "ev2"
def numZ (v : Int) : Str:=PySem.Str.ofString (toString v)
def cardW (c : Cd) : List Str:=[(PySem.Str.ofString "card"),c.nm,c.k,(PySem.Str.ofString "from")] ++ c.ns
def condW : Cq → List Str
 | .tell p=>[(PySem.Str.ofString "tell"),p.1,p.2]
 | .num w p v=>[w,p.1,p.2,numZ v]
 | .among p vs=>[(PySem.Str.ofString "among"),p.1,p.2] ++ vs.map numZ
 | .same p q=>[(PySem.Str.ofString "same"),p.1,p.2,q.1,q.2]
def polW (cs : List Cd) (cn : List Cq) : List Str:=cs.flatMap cardW ++ cn.flatMap condW
def numOK (v : Int) : Prop:=0 ≤ v ∧ v < 1000
def CqOK : Cq → Prop
 | .tell _=>True
 | .num _ _ v=>numOK v
 | .among _ vs=>vs.length ≤ 100 ∧ ∀ v ∈ vs,numOK v
 | .same _ _=>True
theorem zZE0 {v : Int} (h : numOK v) : conv .str (.int v) = some (.str (numZ v)):=by
 show (if strLen v then _ else _) = _
 rw [if_pos]
 ·rfl
 ·unfold strLen
  rw [decide_eq_true_eq]
  obtain ⟨h1,h2⟩:=h
  omega
theorem zZLP (n : Nat) (W : Wd) (y0 y2 y6 y7 : Slot) : ∀ (l : List Cd) (acc : List Str) (z3 z4 z5 : Slot),(∀ c ∈ l,c.ns.length ≤ 10) → acc.length + 14 * l.length ≤ 10000 → ∃ z3' z4' z5',
  forL (tgD (.tup (.cons (.nm 3) (.cons (.nm 4) (.cons (.nm 5) .nil))))) (exS (cfgN T n) ((forsS zZp).getD 0 .skip)) (l.map cdD) [y0,.ol (acc.map .str),y2,z3,z4,z5,y6,y7] W =
   .ok (.nx [y0,.ol ((acc ++ l.flatMap cardW).map .str),y2,z3',z4',z5',y6,y7]) W:=by
 simp only [zZp,forsS,List.getD_cons_zero]
 intro l
 induction l with
 | nil=>intro acc z3 z4 z5 _ _; exact ⟨z3,z4,z5,by simp only [List.map_nil,List.flatMap_nil,List.append_nil]; rfl⟩
 | cons c l ih =>
  intro acc z3 z4 z5 hl hb
  rw [List.length_cons] at hb
  have hns:=hl c List.mem_cons_self
  have hcw : (cardW c).length = 4 + c.ns.length:=by simp [cardW]; omega
  obtain ⟨y3,y4,y5,hz⟩:=ih (acc ++ cardW c) (.val (.str c.nm)) (.val (.str c.k)) (.val (.tup (c.ns.map .str))) (fun x hx=>hl x (List.mem_cons_of_mem _ hx)) (by rw [List.length_append,hcw]; omega)
  refine ⟨y3,y4,y5, ?_⟩
  have e : (acc ++ cardW c).map D.str = acc.map D.str ++ (.str "card" :: .str c.nm :: .str c.k :: .str "from" :: c.ns.map D.str):=by
   rw [List.map_append]
   rfl
  rw [List.flatMap_cons,← List.append_assoc,← hz,List.map_cons,zZP,e]
  have h1 : (D.str "card" :: .str c.nm :: .str c.k :: .str "from" :: c.ns.map D.str).length ≤ cap:=by simp only [List.length_cons,List.length_map]; unfold cap; omega
  have h2 : (acc.map D.str).length + (D.str "card" :: .str c.nm :: .str c.k :: .str "from" :: c.ns.map D.str).length ≤ cap:=by simp only [List.length_cons,List.length_map]; unfold cap; omega
  have hap : c.ns.map D.str ++ [] = c.ns.map D.str:=List.append_nil _
  clear ih hz hl hb e hcw hns
  simp only [cdD]
  generalize acc.map D.str = AC at *
  generalize c.ns.map D.str = NS at *
  walk_at "ev2"
theorem zZKN (n : Nat) (W : Wd) (y0 y3 y4 y5 : Slot) : ∀ (l : List Cq) (acc : List Str) (z2 z6 : Slot),(∀ c ∈ l,CqOK c) → acc.length + 110 * l.length ≤ 10000 → ∃ z2' z6',
  forL (tgD (.nm 2)) (exS (cfgN T n) ((forsS zZp).getD 1 .skip)) (l.map cqD) [y0,.ol (acc.map .str),z2,y3,y4,y5,z6,.no] W =
   .ok (.nx [y0,.ol ((acc ++ l.flatMap condW).map .str),z2',y3,y4,y5,z6',.no]) W:=by
 simp only [zZp,forsS,List.getD_cons_zero,List.getD_cons_succ]
 intro l
 induction l with
 | nil=>intro acc z2 z6 _ _; exact ⟨z2,z6,by simp only [List.map_nil,List.flatMap_nil,List.append_nil]; rfl⟩
 | cons c l ih =>
  intro acc z2 z6 hl hb
  rw [List.length_cons] at hb
  have hc:=hl c List.mem_cons_self
  have hl' : ∀ x ∈ l,CqOK x:=fun x hx=>hl x (List.mem_cons_of_mem _ hx)
  cases c with
  | tell p =>
   obtain ⟨y2,y6,hz⟩:=ih (acc ++ condW (.tell p)) (.val (cqD (.tell p))) (.val (.str p.2)) hl' (by rw [List.length_append]; simp only [condW,List.length_cons,List.length_nil]; omega)
   refine ⟨y2,y6, ?_⟩
   have e : (acc ++ condW (.tell p)).map D.str = acc.map D.str ++ [.str "tell"] ++ [.str p.1] ++ [.str p.2]:=by
    rw [List.map_append]
    simp only [condW,List.map_cons,List.map_nil,List.append_assoc,List.cons_append,List.nil_append] <;> rfl
   rw [List.flatMap_cons,← List.append_assoc,← hz,List.map_cons,zZP,e]
   have h1 : (acc.map D.str).length + 10 < 1000000:=by rw [List.length_map]; omega
   clear ih hz hl hb e hl' hc
   simp only [cqD]
   generalize acc.map D.str = AC at *
   walk_at "ev2"
  | num w p v =>
   obtain ⟨y2,y6,hz⟩:=ih (acc ++ condW (.num w p v)) (.val (cqD (.num w p v))) (.val (.int v)) hl' (by rw [List.length_append]; simp only [condW,List.length_cons,List.length_nil]; omega)
   refine ⟨y2,y6, ?_⟩
   have e : (acc ++ condW (.num w p v)).map D.str = acc.map D.str ++ [.str w] ++ [.str p.1] ++ [.str p.2] ++ [.str (numZ v)]:=by
    rw [List.map_append]
    simp only [condW,List.map_cons,List.map_nil,List.append_assoc,List.cons_append,List.nil_append]
   rw [List.flatMap_cons,← List.append_assoc,← hz,List.map_cons,zZP,e]
   have h1 : (acc.map D.str).length + 10 < 1000000:=by rw [List.length_map]; omega
   have hcv:=zZE0 hc
   clear ih hz hl hb e hl' hc
   simp only [cqD]
   generalize acc.map D.str = AC at *
   walk_at "ev2"
  | same p q =>
   obtain ⟨y2,y6,hz⟩:=ih (acc ++ condW (.same p q)) (.val (cqD (.same p q))) (.val (.str q.2)) hl' (by rw [List.length_append]; simp only [condW,List.length_cons,List.length_nil]; omega)
   refine ⟨y2,y6, ?_⟩
   have e : (acc ++ condW (.same p q)).map D.str = acc.map D.str ++ [.str "same"] ++ [.str p.1] ++ [.str p.2] ++ [.str q.1] ++ [.str q.2]:=by
    rw [List.map_append]
    simp only [condW,List.map_cons,List.map_nil,List.append_assoc,List.cons_append,List.nil_append] <;> rfl
   rw [List.flatMap_cons,← List.append_assoc,← hz,List.map_cons,zZP,e]
   have h1 : (acc.map D.str).length + 10 < 1000000:=by rw [List.length_map]; omega
   clear ih hz hl hb e hl' hc
   simp only [cqD]
   generalize acc.map D.str = AC at *
   walk_at "ev2"
  | among p vs =>
   obtain ⟨y2,y6,hz⟩:=ih (acc ++ condW (.among p vs)) (.val (cqD (.among p vs))) (.val (.tup (vs.map .int))) hl' (by rw [List.length_append]; simp only [condW,List.length_cons,List.length_nil,List.length_append,List.length_map]; have:=hc.1; omega)
   refine ⟨y2,y6, ?_⟩
   have e : (acc ++ condW (.among p vs)).map D.str = acc.map D.str ++ [.str "among"] ++ [.str p.1] ++ [.str p.2] ++ (vs.map fun v=>D.str (numZ v)):=by
    rw [List.map_append]
    simp only [condW,List.map_cons,List.map_nil,List.append_assoc,List.cons_append,List.nil_append,List.map_map]
    rfl
   rw [List.flatMap_cons,← List.append_assoc,← hz,List.map_cons,zZP,e]
   have h1 : (acc.map D.str).length + 10 < 1000000:=by rw [List.length_map]; omega
   have hcomp : ∀ (y0 y1 y2 y3 y4 y5 y6 : Slot) (b : Bool),compR (cfgN T n) (.b1 .str (.var 7)) (.nm 7) .nil [y0,y1,y2,y3,y4,y5,y6,.no] (vs.map D.int,b) W = .ok (vs.map fun v=>D.str (numZ v)) W:=by
    intro y0 y1 y2 y3 y4 y5 y6 b
    refine yZK D.int (fun v=>.str (numZ v)) vs (by have:=hc.1; unfold cap; omega) fun v hv=>⟨_,rfl, ?_⟩
    have hcv:=zZE0 (hc.2 v hv)
    show evE _ _ [y0,y1,y2,y3,y4,y5,y6,.val (.int v)] W = _
    clear ih hz hl hb e hl' hc
    walk_at "ev2"
   have h2 : (acc.map D.str).length + 10 + (vs.map fun v=>D.str (numZ v)).length ≤ 1000000:=by rw [List.length_map,List.length_map]; have:=hc.1; omega
   clear ih hz hl hb e hl' hc
   simp only [cqD]
   generalize acc.map D.str = AC at *
   generalize vs.map D.int = VI at *
   generalize (vs.map fun v=>D.str (numZ v)) = VS at *
   walk_at "ev2"
theorem zZJf (l : List Str) : strsD (l.map .str) = some l:=by
 induction l with
 | nil=>rfl
 | cons x l ih=>simp only [List.map_cons,strsD,ih,Option.map_some]
def spS : Str := " "
theorem zZIJ {ws : List Str} (W : Wd) (d : D) (hl : ws.length ≤ 10000) (hw : ∀ w ∈ ws,w.length ≤ 1000) : joinD W (.str spS) (.frz (ws.map .str) d) = some (.str (PySem.Txt.join spS ws)):=by
 show ((some (ws.map D.str)).bind fun xs=>(strsD xs).bind fun ys=>if (ys.map (·.length)).sum + ys.length * spS.length ≤ 16777216 then some (D.str (PySem.Txt.join spS ys)) else none) = _
 rw [Option.bind_some,zZJf,Option.bind_some,if_pos]
 have h1 : spS.length = 1:=by decide +kernel
 have h2 : ∀ l : List Str,(∀ w ∈ l,w.length ≤ 1000) → (l.map (·.length)).sum ≤ 1000 * l.length:=by
  intro l
  induction l with
  | nil=>intro _; simp
  | cons x l ih =>
   intro h
   have:=h x List.mem_cons_self
   have:=ih fun w hw=>h w (List.mem_cons_of_mem _ hw)
   rw [List.map_cons,List.sum_cons,List.length_cons]
   omega
 have:=h2 ws hw
 rw [h1]
 omega
structure PolOK (cs : List Cd) (cn : List Cq) : Prop where
 cl : cs.length ≤ 10
 cn_ : ∀ c ∈ cs,c.ns.length ≤ 10
 nl : cn.length ≤ 10
 nk : ∀ c ∈ cn,CqOK c
 w : ∀ w ∈ polW cs cn,w.length ≤ 1000
theorem zZJh (n : Nat) (W : Wd) (cs : List Cd) (cn : List Cq) (P : PolOK cs cn) : (cfgN T (n + 1)).call zZBV [polQ cs cn] W = .ok (.str (PySem.Txt.join spS (polW cs cn))) W:=by
 have hcl:=P.cl
 have hnl:=P.nl
 obtain ⟨z3,z4,z5,h1⟩:=zZLP n W (.val (polQ cs cn)) .no .no .no cs [] .no .no .no P.cn_ (by simp only [List.length_nil]; omega)
 have h14 : (cs.flatMap cardW).length ≤ 14 * cs.length:=by
  have : ∀ l : List Cd,(∀ c ∈ l,c.ns.length ≤ 10) → (l.flatMap cardW).length ≤ 14 * l.length:=by
   intro l
   induction l with
   | nil=>intro _; simp
   | cons c l ih =>
    intro h
    have a:=h c List.mem_cons_self
    have b:=ih fun x hx=>h x (List.mem_cons_of_mem _ hx)
    have e : (cardW c).length = 4 + c.ns.length:=by simp [cardW]; omega
    rw [List.flatMap_cons,List.length_append,List.length_cons,e]
    omega
  exact this cs P.cn_
 have h110 : (cn.flatMap condW).length ≤ 110 * cn.length:=by
  have : ∀ l : List Cq,(∀ c ∈ l,CqOK c) → (l.flatMap condW).length ≤ 110 * l.length:=by
   intro l
   induction l with
   | nil=>intro _; simp
   | cons c l ih =>
    intro h
    have a:=h c List.mem_cons_self
    have b:=ih fun x hx=>h x (List.mem_cons_of_mem _ hx)
    have e : (condW c).length ≤ 110:=by
     cases c with
     | tell p=>simp [condW]
     | num w p v=>simp [condW]
     | same p q=>simp [condW]
     | among p vs=>have:=a.1; simp only [condW,List.length_append,List.length_cons,List.length_nil,List.length_map]; omega
    rw [List.flatMap_cons,List.length_append,List.length_cons]
    omega
  exact this cn P.nk
 obtain ⟨z2,z6,h2⟩:=zZKN n W (.val (polQ cs cn)) z3 z4 z5 cn (cs.flatMap cardW) .no .no P.nk (by omega)
 rw [List.nil_append,List.map_nil] at h1
 have hj:=zZIJ W (.lst ((polW cs cn).map .str)) (ws:=polW cs cn) (by unfold polW; rw [List.length_append]; omega) P.w
 have hsp : (" " : Str) = spS:=rfl
 have hc0 : 0 ≤ cap:=by decide
 have hw : cs.flatMap cardW ++ cn.flatMap condW = polW cs cn:=rfl
 rw [hw] at h2
 rw [zZE (F:=xZH) rfl]
 simp only [zZp,forsS,List.getD_cons_zero,List.getD_cons_succ] at h1 h2
 simp only [xZH,zZp]
 rw [hsp]
 clear hsp P hcl hnl h14 h110 hw
 simp only [polQ] at *
 generalize PySem.Txt.join spS (polW cs cn) = TX at *
 generalize (polW cs cn).map D.str = PW at *
 generalize (cs.flatMap cardW).map D.str = CW at *
 generalize cs.map cdD = CS at *
 generalize cn.map cqD = CN at *
 walk_at "ev2"
theorem zZG {ws : List Str} {i : Nat} {w : Str} {r : List Str} (h : ws.drop i = w :: r) : wordA ws i = w ∧ i < ws.length ∧ ws.drop (i + 1) = r:=by
 have hi : i < ws.length:=by
  rcases Nat.lt_or_ge i ws.length with h1 | h1
  ·exact h1
  ·rw [List.drop_eq_nil_of_le h1] at h; cases h
 rw [List.drop_eq_getElem_cons hi] at h
 injection h with h1 h2
 refine ⟨?_,hi,h2⟩
 unfold wordA
 rw [List.getElem?_eq_getElem hi,h1]
 rfl
theorem zZHc {ws : List Str} {i : Nat} (h : ws.drop i = []) : wordA ws i = "" ∧ ws.length ≤ i:=by
 have hi:=List.drop_eq_nil_iff.mp h
 refine ⟨?_,hi⟩
 unfold wordA
 rw [List.getElem?_eq_none hi]
 rfl
theorem zZEb {ws r : List Str} {i : Nat} (h : ws.drop i = r) : wordA ws i = r.headD "" := by
 cases r with
 | nil=>exact (zZHc h).1
 | cons w r=>exact (zZG h).1
theorem zZM4 {w : Str} (h : w ∈ KEYL) : isNm w = false:=by
 unfold isNm
 rw [decide_eq_true h]
 simp
theorem zZMS : ∀ w ∈ KEYL,∃ c r,w.cps.toList = c :: r ∧ 97 ≤ c:=by
 have : ∀ w ∈ KEYL,(match w.cps.toList with | c :: _=>decide (97 ≤ c) | []=>false) = true:=by decide +kernel
 intro w hw
 have:=this w hw
 cases hq : w.cps.toList with
 | nil=>rw [hq] at this; cases this
 | cons c r=>rw [hq] at this; exact ⟨c,r,rfl,of_decide_eq_true this⟩
theorem zZL8 {w : Str} {c : Nat} {r : List Nat} (h : w.cps.toList = c :: r) (hc : 97 ≤ c) : numOf w = none:=yZa fun v hv e=>by
 obtain ⟨c',r',h1,_,h3,_⟩:=xZp hv
 rw [e,h] at h1
 cases h1
 have:=List.all_eq_true.mp h3 c List.mem_cons_self
 unfold digC at this
 simp only [Bool.and_eq_true,decide_eq_true_eq] at this
 omega
theorem zZMi {w : Str} (h : w ∈ KEYL) : numOf w = none:=by
 obtain ⟨c,r,h1,h2⟩:=zZMS w h
 exact zZL8 h1 h2
theorem zZND : isNm "" = false:=by decide +kernel
theorem zZMZ : numOf "" = none:=yZa fun v hv e=>by
 obtain ⟨c',r',h1,_,h3,_⟩:=xZp hv
 have : ("" : Str).cps.toList = []:=by decide +kernel
 rw [e,this] at h1
 cases h1
theorem zZKL : ∀ w ∈ CNDL,w ∈ KEYL:=by decide +kernel
theorem zZCz {ws al : List Str} {s : RS} {w : Str} {r : List Str} (h : ws.drop s.i = w :: r) (hw : w ∈ al) : takeA ws al s = .ok w { s with i:=s.i + 1 }:=by
 obtain ⟨h1,h2,_⟩:=zZG h
 unfold takeA
 rw [h1,if_pos ⟨h2,hw⟩]
theorem zZDj {ws tk : List Str} {s : RS} {w : Str} {r : List Str} (h : ws.drop s.i = w :: r) (hw : isNm w = true) (ht : w ∉ tk) : takeNmA ws tk s = .ok w { s with i:=s.i + 1 }:=by
 obtain ⟨h1,h2,_⟩:=zZG h
 unfold takeNmA
 rw [h1,if_pos ⟨hw,ht⟩]
theorem zZM1 (v : Nat) : numZ (v : Int) = numS v:=rfl
theorem zZIG {v : Int} (h0 : 0 ≤ v) (h1 : v < 100) : numOf (numZ v) = some v:=by
 obtain ⟨k,rfl⟩:=Int.eq_ofNat_of_zero_le h0
 rw [zZM1]
 exact zZGi (by omega)
theorem zZCl {ws : List Str} {s : RS} {v lo hi : Int} {r : List Str} (h : ws.drop s.i = numZ v :: r) (h0 : 0 ≤ v) (h1 : v < 100) (h2 : lo ≤ v) (h3 : v ≤ hi) : takeNumA ws lo hi s = .ok v { s with i:=s.i + 1 }:=by
 obtain ⟨e1,_,_⟩:=zZG h
 unfold takeNumA
 rw [e1,zZIG h0 h1]
 dsimp only
 rw [if_pos ⟨h2,h3⟩]
theorem zZAB (ks : List Kd) (cs : List Cd) : pairsA ks cs [] = allP ks cs:=by
 unfold pairsA
 rw [List.filter_eq_self]
 intro p _
 simp
theorem xZE {ws : List Str} {ks : List Kd} {wo : List (Str × Str)} {s : RS} {p : Str × Str} {r : List Str} (h : ws.drop s.i = p.1 :: p.2 :: r) (hp : p ∈ pairsA ks s.cs wo) : takeValA ws ks wo s = .ok p { s with i:=s.i + 2 }:=by
 obtain ⟨_,_,h2⟩:=zZG h
 unfold takeValA
 rw [zZCz h (List.mem_map_of_mem hp)]
 show (takeA ws (((pairsA ks s.cs wo).filter fun q=>decide (q.1 = p.1)).map fun p=>p.2) { s with i:=s.i + 1 }).bind _ = _
 rw [zZCz (s:={ s with i:=s.i + 1 }) h2 (List.mem_map_of_mem (List.mem_filter.mpr ⟨hp,decide_eq_true rfl⟩))]
 rfl
theorem zZHG {ws : List Str} {r : List Str} (hr : isNm (r.headD "") = false) : ∀ (ns pre : List Str) (m : Nat) (s : RS),ws.drop s.i = ns ++ r → (∀ w ∈ ns,isNm w = true) → (pre ++ ns).Nodup → (pre ++ ns).length ≤ 3 → ns.length ≤ m → issA ws m pre s = .ok (pre ++ ns) { s with i:=s.i + ns.length }
 | [],pre,m,s,h,_,_,_,_=>by
  rw [List.append_nil]
  cases m with
  | zero=>rfl
  | succ m =>
   unfold issA
   rw [if_neg]
   ·rfl
   ·rw [zZEb h]
    intro z
    rw [List.nil_append,hr] at z
    exact Bool.false_ne_true z.1
 | w :: ns,pre,m,s,h,hn,hd,hl,hm=>by
  obtain ⟨e1,e2,e3⟩:=zZG h
  cases m with
  | zero=>simp at hm
  | succ m =>
   have hw:=hn w List.mem_cons_self
   have hpre : w ∉ pre:=fun z=>by
    rw [List.nodup_append] at hd
    exact hd.2.2 w z w List.mem_cons_self rfl
   unfold issA
   rw [if_pos ⟨by rw [e1]; exact hw,by rw [List.length_append,List.length_cons] at hl; omega⟩,zZDj h hw hpre]
   show issA ws m (pre ++ [w]) { s with i:=s.i + 1 } = _
   have ea : pre ++ w :: ns = (pre ++ [w]) ++ ns:=by simp
   rw [ea] at hd hl ⊢
   rw [zZHG hr ns (pre ++ [w]) m { s with i:=s.i + 1 } e3 (fun x hx=>hn x (List.mem_cons_of_mem _ hx)) hd hl (by rw [List.length_cons] at hm; omega)]
   congr 2
   simp only [List.length_cons]
   omega
structure CardWF (ks : List Kd) (c : Cd) : Prop where
 nm : isNm c.nm = true
 k : c.k ∈ ks.map fun k=>k.1
 l : 1 ≤ c.ns.length ∧ c.ns.length ≤ 3
 ns : ∀ w ∈ c.ns,isNm w = true
 nd : c.ns.Nodup
theorem zZGj {ws : List Str} {ks : List Kd} {s : RS} {c : Cd} {r : List Str} (C : CardWF ks c) (h : ws.drop s.i = cardW c ++ r) (hn : c.nm ∉ s.cs.map fun c=>c.nm) (hr : isNm (r.headD "") = false) : cardA ws ks s = .ok () ⟨s.i + (cardW c).length,s.cs ++ [c]⟩:=by
 obtain ⟨nm,k,ns⟩:=c
 have hl:=C.l
 cases ns with
 | nil=>simp at hl
 | cons n0 ns =>
  have h : ws.drop s.i = (PySem.Str.ofString "card") :: nm :: k :: (PySem.Str.ofString "from") :: n0 :: (ns ++ r):=h
  obtain ⟨_,_,h2⟩:=zZG h
  obtain ⟨_,_,h3⟩:=zZG h2
  obtain ⟨_,_,h4⟩:=zZG h3
  obtain ⟨_,_,h5⟩:=zZG h4
  obtain ⟨_,_,h6⟩:=zZG h5
  unfold cardA
  rw [zZCz h (by simp)]
  show (takeNmA ws (s.cs.map fun c=>c.nm) { s with i:=s.i + 1 }).bind _ = _
  rw [zZDj (s:={ s with i:=s.i + 1 }) h2 C.nm hn]
  show (takeA ws (ks.map fun k=>k.1) { s with i:=s.i + 1 + 1 }).bind _ = _
  rw [zZCz (s:={ s with i:=s.i + 1 + 1 }) h3 C.k]
  show (takeA ws [(PySem.Str.ofString "from")] { s with i:=s.i + 1 + 1 + 1 }).bind _ = _
  rw [zZCz (s:={ s with i:=s.i + 1 + 1 + 1 }) h4 (by simp)]
  show (takeNmA ws [] { s with i:=s.i + 1 + 1 + 1 + 1 }).bind _ = _
  rw [zZDj (s:={ s with i:=s.i + 1 + 1 + 1 + 1 }) h5 (C.ns n0 List.mem_cons_self) (by simp)]
  show (issA ws 2 [n0] { s with i:=s.i + 1 + 1 + 1 + 1 + 1 }).bind _ = _
  rw [zZHG hr ns [n0] 2 { s with i:=s.i + 1 + 1 + 1 + 1 + 1 } h6 (fun w hw=>C.ns w (List.mem_cons_of_mem _ hw)) C.nd hl.2 (by simp only [List.length_cons] at hl; omega)]
  show RO.ok () (⟨s.i + 1 + 1 + 1 + 1 + 1 + ns.length,s.cs ++ [⟨nm,k,n0 :: ns⟩]⟩ : RS) = _
  congr 2
  simp only [cardW,List.length_append,List.length_cons,List.length_nil]
  omega
theorem zZIK {ws : List Str} {hi : Int} {r : List Str} (hr : numOf (r.headD "") = none) (hh : hi < 100) : ∀ (vs pre : List Int) (x : Int) (m : Nat) (s : RS),ws.drop s.i = vs.map numZ ++ r → (∀ v ∈ vs,0 ≤ v ∧ v ≤ hi) → (x :: vs).Pairwise (· < ·) → vs.length ≤ m → amA ws hi m (pre ++ [x]) s = .ok (pre ++ [x] ++ vs) { s with i:=s.i + vs.length }
 | [],pre,x,m,s,h,_,_,_=>by
  rw [List.append_nil]
  cases m with
  | zero=>rfl
  | succ m =>
   unfold amA
   rw [zZEb h,List.map_nil,List.nil_append,hr]
   rfl
 | v :: vs,pre,x,m,s,h,hv,hd,hm=>by
  cases m with
  | zero=>simp at hm
  | succ m =>
   obtain ⟨v0,v1⟩:=hv v List.mem_cons_self
   have h : ws.drop s.i = numZ v :: (vs.map numZ ++ r):=h
   obtain ⟨e1,_,e3⟩:=zZG h
   have hxv : x < v:=(List.pairwise_cons.mp hd).1 v List.mem_cons_self
   unfold amA
   rw [e1,zZIG v0 (by omega)]
   dsimp only
   rw [List.getLast?_append,List.getLast?_singleton]
   simp only [Option.some_or,Option.getD_some]
   rw [zZCl h v0 (by omega) (by omega) v1]
   show amA ws hi m (pre ++ [x] ++ [v]) { s with i:=s.i + 1 } = _
   rw [zZIK hr hh vs (pre ++ [x]) v m { s with i:=s.i + 1 } e3 (fun y hy=>hv y (List.mem_cons_of_mem _ hy)) (List.pairwise_cons.mp hd).2 (by rw [List.length_cons] at hm; omega)]
   congr 1
   ·simp
   ·simp only [List.length_cons]
    congr 1
    omega
def CqWF (ks : List Kd) (cs : List Cd) : Cq → Prop
 | .tell p=>p ∈ allP ks cs
 | .num w p v=>(w = "equal" ∨ w = "least") ∧ p ∈ allP ks cs ∧ 0 ≤ v ∧ v < sizeA ks cs p ∧ sizeA ks cs p ≤ 100
 | .among p vs=>p ∈ allP ks cs ∧ vs ≠ [] ∧ vs.Pairwise (· < ·) ∧ (∀ v ∈ vs,0 ≤ v ∧ v < sizeA ks cs p) ∧ sizeA ks cs p ≤ 100
 | .same p q=>p ∈ allP ks cs ∧ q ∈ allP ks cs ∧ q ≠ p
theorem zZLb {α : Type} {p q : α} : ∀ {l : List α},p ∈ l → q ∈ l → q ≠ p → 2 ≤ l.length
 | [],h,_,_=>by cases h
 | [x],h1,h2,hn=>by
  rw [List.mem_singleton] at h1 h2
  exact absurd (h2.trans h1.symm) hn
 | _ :: _ :: _,_,_,_=>by simp
theorem zZJD {ws : List Str} {ks : List Kd} {s : RS} {c : Cq} {r : List Str} (C : CqWF ks s.cs c) (h : ws.drop s.i = condW c ++ r) (hr : numOf (r.headD "") = none) : condA ws ks s = .ok c { s with i:=s.i + (condW c).length }:=by
 have hg : ∀ (w : Str) (p : Str × Str) (r : List Str),ws.drop s.i = w :: r → w ∈ CNDL → p ∈ allP ks s.cs → (w = "same" → 2 ≤ (allP ks s.cs).length) → condG ws ks s:=fun w p r h hw hp h2=>by
  obtain ⟨e1,_,_⟩:=zZG h
  unfold condG
  rw [e1,zZAB]
  refine ⟨hw, ?_⟩
  by_cases e : w = "same"
  ·rw [if_pos e]
   have:=h2 e
   omega
  ·rw [if_neg e]
   have:=List.length_pos_of_mem hp
   omega
 cases c with
 | tell p =>
  have h : ws.drop s.i = (PySem.Str.ofString "tell") :: p.1 :: p.2 :: r:=h
  obtain ⟨e1,_,e3⟩:=zZG h
  unfold condA
  rw [if_pos (hg _ p _ h (by decide +kernel) C (fun e=>absurd e (by decide +kernel))),xZE (s:={ s with i:=s.i + 1 }) e3 (by rw [zZAB]; exact C)]
  show (if wordA ws s.i = "tell" then _ else _) = _
  rw [if_pos e1]
  rfl
 | same p q =>
  have h : ws.drop s.i = (PySem.Str.ofString "same") :: p.1 :: p.2 :: q.1 :: q.2 :: r:=h
  obtain ⟨e1,_,e3⟩:=zZG h
  obtain ⟨_,_,e4⟩:=zZG e3
  obtain ⟨_,_,e5⟩:=zZG e4
  obtain ⟨c1,c2,c3⟩:=C
  unfold condA
  rw [if_pos (hg _ p _ h (by decide +kernel) c1 (fun _=>zZLb c1 c2 c3)),xZE (s:={ s with i:=s.i + 1 }) e3 (by rw [zZAB]; exact c1)]
  show (if wordA ws s.i = "tell" then _ else _) = _
  rw [if_neg (by rw [e1]; decide +kernel),if_pos e1,xZE (s:={ s with i:=s.i + 1 + 2 }) e5 (by
   unfold pairsA
   exact List.mem_filter.mpr ⟨c2,by simpa using c3⟩)]
  rfl
 | num w p v =>
  have h : ws.drop s.i = w :: p.1 :: p.2 :: numZ v :: r:=h
  obtain ⟨e1,_,e3⟩:=zZG h
  obtain ⟨_,_,e4⟩:=zZG e3
  obtain ⟨_,_,e5⟩:=zZG e4
  obtain ⟨c1,c2,c3,c4,c5⟩:=C
  have hw : w ∈ CNDL ∧ w ≠ "same" ∧ w ≠ "tell" ∧ w ≠ "among" := by
   rcases c1 with rfl | rfl <;> decide +kernel
  unfold condA
  rw [if_pos (hg _ p _ h hw.1 c2 (fun e=>absurd e hw.2.1)),xZE (s:={ s with i:=s.i + 1 }) e3 (by rw [zZAB]; exact c2)]
  show (if wordA ws s.i = "tell" then _ else _) = _
  rw [e1,if_neg hw.2.2.1,if_neg hw.2.1,if_pos hw.2.2.2]
  show (takeNumA ws 0 (sizeA ks s.cs p - 1) { s with i:=s.i + 1 + 2 }).bind _ = _
  rw [zZCl (s:={ s with i:=s.i + 1 + 2 }) e5 c3 (by omega) c3 (by omega)]
  rfl
 | among p vs =>
  obtain ⟨c1,c2,c3,c4,c5⟩:=C
  cases vs with
  | nil=>exact absurd rfl c2
  | cons v vs =>
   have h : ws.drop s.i = (PySem.Str.ofString "among") :: p.1 :: p.2 :: numZ v :: (vs.map numZ ++ r):=h
   obtain ⟨e1,hlt,e3⟩:=zZG h
   obtain ⟨_,_,e4⟩:=zZG e3
   obtain ⟨_,_,e5⟩:=zZG e4
   obtain ⟨_,_,e6⟩:=zZG e5
   obtain ⟨v0,v1⟩:=c4 v List.mem_cons_self
   unfold condA
   rw [if_pos (hg _ p _ h (by decide +kernel) c1 (fun e=>absurd e (by decide +kernel))),xZE (s:={ s with i:=s.i + 1 }) e3 (by rw [zZAB]; exact c1)]
   show (if wordA ws s.i = "tell" then _ else _) = _
   rw [e1,if_neg (by decide +kernel),if_neg (by decide +kernel),if_neg (by decide +kernel)]
   show (takeNumA ws 0 (sizeA ks s.cs p - 1) { s with i:=s.i + 1 + 2 }).bind _ = _
   rw [zZCl (s:={ s with i:=s.i + 1 + 2 }) e5 v0 (by omega) v0 (by omega)]
   show (amA ws (sizeA ks s.cs p - 1) ws.length ([] ++ [v]) { s with i:=s.i + 1 + 2 + 1 }).bind _ = _
   have hlen : vs.length ≤ ws.length:=by
    have : (ws.drop s.i).length ≤ ws.length:=by simp
    rw [h] at this
    simp only [List.length_cons,List.length_append,List.length_map] at this
    omega
   rw [zZIK hr (by omega) vs [] v ws.length { s with i:=s.i + 1 + 2 + 1 } e6 (fun y hy=>by have:=c4 y (List.mem_cons_of_mem _ hy); omega) c3 hlen]
   show RO.ok (Cq.among p (v :: vs)) (⟨s.i + 1 + 2 + 1 + vs.length,s.cs⟩ : RS) = _
   congr 2
   simp only [condW,List.length_append,List.length_cons,List.length_nil,List.map_cons,List.length_map]
   omega
structure PolWF (ks : List Kd) (cs : List Cd) (cn : List Cq) : Prop where
 c : ∀ c ∈ cs,CardWF ks c
 l : 1 ≤ cs.length ∧ cs.length ≤ 3
 nd : (cs.map fun c=>c.nm).Nodup
 nl : cn.length ≤ 6
 k : ∀ c ∈ cn,CqWF ks cs c
theorem zZFs {ks : List Kd} {cs : List Cd} {c : Cq} (C : CqWF ks cs c) : ∃ w r,condW c = w :: r ∧ w ∈ CNDL:=by
 cases c with
 | tell p=>exact ⟨_,_,rfl,by decide +kernel⟩
 | same p q=>exact ⟨_,_,rfl,by decide +kernel⟩
 | num w p v=>exact ⟨_,_,rfl,by rcases C.1 with rfl | rfl <;> decide +kernel⟩
 | among p vs=>exact ⟨_,_,rfl,by decide +kernel⟩
/-- what stands behind a card or a condition: nothing,or a word of the language -/
def HdK (r : List Str) : Prop:=r = [] ∨ ∃ w r',r = w :: r' ∧ w ∈ KEYL
theorem HdK.nm {r : List Str} (h : HdK r) : isNm (r.headD "") = false:=by
 rcases h with rfl | ⟨w,r',rfl,hw⟩
 ·exact zZND
 ·exact zZM4 hw
theorem HdK.num {r : List Str} (h : HdK r) : numOf (r.headD "") = none:=by
 rcases h with rfl | ⟨w,r',rfl,hw⟩
 ·exact zZMZ
 ·exact zZMi hw
theorem zZGe {ks : List Kd} {cs : List Cd} {cn : List Cq} (h : ∀ c ∈ cn,CqWF ks cs c) : HdK (cn.flatMap condW) ∧ (cn.flatMap condW).headD "" ≠ "card" := by
 cases cn with
 | nil=>exact ⟨.inl rfl,by decide +kernel⟩
 | cons c cn =>
  obtain ⟨w,r,e,hw⟩:=zZFs (h c List.mem_cons_self)
  rw [List.flatMap_cons,e]
  refine ⟨.inr ⟨w,_,rfl,zZKL w hw⟩, ?_⟩
  show w ≠ "card"
  intro z
  rw [z] at hw
  exact absurd hw (by decide +kernel)
theorem zZGZ {cs : List Cd} {r : List Str} (h : HdK r) : HdK (cs.flatMap cardW ++ r):=by
 cases cs with
 | nil=>exact h
 | cons c cs=>exact .inr ⟨(PySem.Str.ofString "card"),_,rfl,by decide +kernel⟩
theorem zZFu {ws : List Str} {ks : List Kd} {r : List Str} (hr : HdK r) (hc : r.headD "" ≠ "card") : ∀ (l : List Cd) (m : Nat) (s : RS),(∀ c ∈ l,CardWF ks c) → ((s.cs ++ l).map fun c=>c.nm).Nodup → (s.cs ++ l).length ≤ 3 → l.length ≤ m → ws.drop s.i = l.flatMap cardW ++ r → cardsA ws ks m s = .ok () ⟨s.i + (l.flatMap cardW).length,s.cs ++ l⟩
 | [],m,s,_,_,_,_,h=>by
  rw [List.append_nil]
  cases m with
  | zero=>rfl
  | succ m =>
   unfold cardsA
   rw [if_neg]
   ·rfl
   ·rw [zZEb h]
    exact fun z=>hc z.1
 | c :: l,m,s,hC,hd,hl,hm,h=>by
  cases m with
  | zero=>simp at hm
  | succ m =>
   rw [List.flatMap_cons,List.append_assoc] at h
   have hh : ∃ r',ws.drop s.i = (PySem.Str.ofString "card") :: r':=⟨_,h⟩
   obtain ⟨r',hh⟩:=hh
   obtain ⟨e1,_,_⟩:=zZG hh
   have hn : c.nm ∉ s.cs.map fun c=>c.nm:=fun z=>by
    rw [List.map_append,List.nodup_append] at hd
    exact hd.2.2 c.nm z c.nm (by simp) rfl
   have hd2 : ws.drop (s.i + (cardW c).length) = l.flatMap cardW ++ r:=by
    rw [← List.drop_drop,h,List.drop_left]
   unfold cardsA
   rw [if_pos ⟨e1,by rw [List.length_append,List.length_cons] at hl; omega⟩,zZGj (hC c List.mem_cons_self) h hn (zZGZ hr).nm]
   show cardsA ws ks m ⟨s.i + (cardW c).length,s.cs ++ [c]⟩ = _
   have ea : s.cs ++ c :: l = (s.cs ++ [c]) ++ l:=by simp
   rw [ea] at hd hl ⊢
   rw [zZFu hr hc l m ⟨s.i + (cardW c).length,s.cs ++ [c]⟩ (fun x hx=>hC x (List.mem_cons_of_mem _ hx)) hd hl (by rw [List.length_cons] at hm; omega) hd2]
   congr 2
   rw [List.flatMap_cons,List.length_append]
   show s.i + (cardW c).length + _ = _
   omega
theorem zZF0 {ws : List Str} {ks : List Kd} : ∀ (l : List Cq) (pre : List Cq) (m : Nat) (s : RS),(∀ c ∈ l,CqWF ks s.cs c) → (pre ++ l).length ≤ 6 → l.length ≤ m → ws.drop s.i = l.flatMap condW → condsA ws ks m pre s = .ok (pre ++ l) { s with i:=s.i + (l.flatMap condW).length }
 | [],pre,m,s,_,_,_,h=>by
  rw [List.append_nil]
  cases m with
  | zero=>rfl
  | succ m =>
   unfold condsA
   rw [if_neg]
   ·rfl
   ·have:=(zZHc h).2
    omega
 | c :: l,pre,m,s,hC,hl,hm,h=>by
  cases m with
  | zero=>simp at hm
  | succ m =>
   rw [List.flatMap_cons] at h
   obtain ⟨w,r',e,_⟩:=zZFs (hC c List.mem_cons_self)
   have hlt : s.i < ws.length:=(zZG (w:=w) (r:=r' ++ l.flatMap condW) (by rw [h,e]; rfl)).2.1
   have hd2 : ws.drop (s.i + (condW c).length) = l.flatMap condW:=by
    rw [← List.drop_drop,h,List.drop_left]
   have hl' : ∀ x ∈ l,CqWF ks s.cs x:=fun x hx=>hC x (List.mem_cons_of_mem _ hx)
   unfold condsA
   rw [if_pos ⟨hlt,by rw [List.length_append,List.length_cons] at hl; omega⟩,zZJD (hC c List.mem_cons_self) h (zZGe hl').1.num]
   show condsA ws ks m (pre ++ [c]) { s with i:=s.i + (condW c).length } = _
   have ea : pre ++ c :: l = (pre ++ [c]) ++ l:=by simp
   rw [ea] at hl ⊢
   rw [zZF0 l (pre ++ [c]) m { s with i:=s.i + (condW c).length } hl' hl (by rw [List.length_cons] at hm; omega) hd2]
   congr 2
   rw [List.flatMap_cons,List.length_append]
   show s.i + (condW c).length + _ = _
   omega
theorem zZJS {ks : List Kd} {cs : List Cd} {cn : List Cq} (P : PolWF ks cs cn) : readA (polW cs cn) ks = .ok cn ⟨(polW cs cn).length,cs⟩:=by
 obtain ⟨hK,hC⟩:=zZGe P.k
 have hl:=P.l
 cases cs with
 | nil=>simp at hl
 | cons c cs =>
  have h0 : (polW (c :: cs) cn).drop 0 = cardW c ++ (cs.flatMap cardW ++ cn.flatMap condW):=by
   unfold polW
   rw [List.drop_zero,List.flatMap_cons,List.append_assoc]
  have h1 : (polW (c :: cs) cn).drop (0 + (cardW c).length) = cs.flatMap cardW ++ cn.flatMap condW:=by
   rw [← List.drop_drop,h0,List.drop_left]
  have h2 : (polW (c :: cs) cn).drop (0 + (cardW c).length + (cs.flatMap cardW).length) = cn.flatMap condW:=by
   rw [← List.drop_drop,h1,List.drop_left]
  unfold readA
  rw [zZGj (s:=⟨0,[]⟩) (P.c c List.mem_cons_self) h0 (by simp) (zZGZ hK).nm]
  show (cardsA (polW (c :: cs) cn) ks 2 ⟨0 + (cardW c).length,[] ++ [c]⟩).bind _ = _
  rw [zZFu hK hC cs 2 ⟨0 + (cardW c).length,[] ++ [c]⟩ (fun x hx=>P.c x (List.mem_cons_of_mem _ hx)) (by simpa using P.nd) (by simpa using hl.2) (by simp only [List.length_cons] at hl; omega) h1]
  show (condsA (polW (c :: cs) cn) ks 6 [] ⟨0 + (cardW c).length + (cs.flatMap cardW).length,[c] ++ cs⟩).bind _ = _
  rw [zZF0 cn [] 6 ⟨0 + (cardW c).length + (cs.flatMap cardW).length,[c] ++ cs⟩ P.k (by simpa using P.nl) P.nl h2]
  show (if 0 + (cardW c).length + (cs.flatMap cardW).length + (cn.flatMap condW).length < (polW (c :: cs) cn).length then _ else _) = _
  have hlen : (polW (c :: cs) cn).length = 0 + (cardW c).length + (cs.flatMap cardW).length + (cn.flatMap condW).length:=by
   unfold polW
   rw [List.flatMap_cons,List.length_append,List.length_append]
   omega
  rw [if_neg (by omega),hlen]
  rfl
def nb : Nat → D → Bool
 | _,.non=>true
 | _,.int _=>true
 | _,.str s=>PyData.strOk s
 | n + 1,.tup xs=>xs.all (nb n)
 | n + 1,.lst xs=>xs.all (nb n)
 | _,_=>false
def dq (x y : D) : Bool:=(eqD x y).getD false
theorem zZGB {f : D → Option PyData} : ∀ {xs : List D},(∀ x ∈ xs,∃ p,f x = some p) → ∃ ps,xs.mapM f = some ps
 | [],_=>⟨[],rfl⟩
 | x :: xs,h=>by
  obtain ⟨p,hp⟩:=h x List.mem_cons_self
  obtain ⟨ps,hps⟩:=zZGB fun y hy=>h y (List.mem_cons_of_mem _ hy)
  exact ⟨p :: ps,by simp [List.mapM_cons,hp,hps]⟩
theorem zZLV : ∀ n x,nb n x = true → ∃ p,pd n x = some p:=by
 intro n
 induction n with
 | zero =>
  intro x h
  cases x <;> first | exact ⟨_,rfl⟩ | (simp only [nb] at h; exact ⟨_,by simp [pd,h]; rfl⟩) | (simp [nb] at h)
 | succ n ih =>
  intro x h
  cases x with
  | tup xs =>
   simp only [nb,List.all_eq_true] at h
   obtain ⟨ps,hp⟩:=zZGB fun y hy=>ih y (h y hy)
   exact ⟨.tuple ps,by simp [pd,hp]⟩
  | lst xs =>
   simp only [nb,List.all_eq_true] at h
   obtain ⟨ps,hp⟩:=zZGB fun y hy=>ih y (h y hy)
   exact ⟨.list ps,by simp [pd,hp]⟩
  | str s =>
   simp only [nb] at h
   exact ⟨.str s,by simp [pd,h]⟩
  | non=>exact ⟨_,rfl⟩
  | int i=>exact ⟨_,rfl⟩
  | _=>simp [nb] at h
theorem zZEm {n : Nat} (ih : ∀ x y p q,nb n x = true → nb n y = true → pd n x = some p → pd n y = some q → (PyData.eqv p q = true ↔ x = y)) :
  ∀ (xs ys : List D) (ps qs : List PyData),(∀ x ∈ xs,nb n x = true) → (∀ y ∈ ys,nb n y = true) → xs.mapM (pd n) = some ps → ys.mapM (pd n) = some qs → (PyData.eqvAll ps qs = true ↔ xs = ys)
 | [],[],ps,qs,_,_,h1,h2=>by
  simp at h1 h2
  subst h1 h2
  simp [PyData.eqvAll]
 | [],y :: ys,ps,qs,_,_,h1,h2=>by
  simp only [List.mapM_nil,List.mapM_cons,bind,pure,Option.bind_eq_some_iff] at h1 h2
  obtain ⟨q,_,qs',_,h3⟩:=h2
  cases h1; cases h3
  simp [PyData.eqvAll]
 | x :: xs,[],ps,qs,_,_,h1,h2=>by
  simp only [List.mapM_nil,List.mapM_cons,bind,pure,Option.bind_eq_some_iff] at h1 h2
  obtain ⟨q,_,qs',_,h3⟩:=h1
  cases h2; cases h3
  simp [PyData.eqvAll]
 | x :: xs,y :: ys,ps,qs,hx,hy,h1,h2=>by
  simp only [List.mapM_cons,bind,pure,Option.bind_eq_some_iff] at h1 h2
  obtain ⟨p,hp,ps',hps,h3⟩:=h1
  obtain ⟨q,hq,qs',hqs,h4⟩:=h2
  cases h3; cases h4
  have i1:=ih x y p q (hx x List.mem_cons_self) (hy y List.mem_cons_self) hp hq
  have i2:=zZEm ih xs ys ps' qs' (fun z hz=>hx z (List.mem_cons_of_mem _ hz)) (fun z hz=>hy z (List.mem_cons_of_mem _ hz)) hps hqs
  rw [show PyData.eqvAll (p :: ps') (q :: qs') = (PyData.eqv p q && PyData.eqvAll ps' qs') by simp [PyData.eqvAll]]
  rw [Bool.and_eq_true,i1,i2,List.cons_eq_cons]
theorem zZNX : ∀ n x y p q,nb n x = true → nb n y = true → pd n x = some p → pd n y = some q → (PyData.eqv p q = true ↔ x = y):=by
 intro n
 induction n with
 | zero =>
  intro x y p q hx hy h1 h2
  cases x <;> first | (simp [nb] at hx; done) | skip
  all_goals cases y <;> first | (simp [nb] at hy; done) | skip
  all_goals simp only [nb] at hx hy
  all_goals simp [pd, *] at h1 h2
  all_goals subst h1 h2
  all_goals simp [PyData.eqv]
 | succ n ih =>
  intro x y p q hx hy h1 h2
  cases x with
  | tup xs =>
   simp only [nb,List.all_eq_true] at hx
   simp only [pd,Option.map_eq_some_iff] at h1
   obtain ⟨ps,hps,rfl⟩:=h1
   cases y with
   | tup ys =>
    simp only [nb,List.all_eq_true] at hy
    simp only [pd,Option.map_eq_some_iff] at h2
    obtain ⟨qs,hqs,rfl⟩:=h2
    rw [show PyData.eqv (.tuple ps) (.tuple qs) = PyData.eqvAll ps qs by simp [PyData.eqv],zZEm ih xs ys ps qs hx hy hps hqs]
    simp
   | lst ys =>
    simp only [pd,Option.map_eq_some_iff] at h2
    obtain ⟨qs,hqs,rfl⟩:=h2
    simp [PyData.eqv]
   | non=>simp [pd] at h2; subst h2; simp [PyData.eqv]
   | int i=>simp [pd] at h2; subst h2; simp [PyData.eqv]
   | str s=>simp [pd] at h2; obtain ⟨_,rfl⟩:=h2; simp [PyData.eqv]
   | _=>simp [nb] at hy
  | lst xs =>
   simp only [nb,List.all_eq_true] at hx
   simp only [pd,Option.map_eq_some_iff] at h1
   obtain ⟨ps,hps,rfl⟩:=h1
   cases y with
   | lst ys =>
    simp only [nb,List.all_eq_true] at hy
    simp only [pd,Option.map_eq_some_iff] at h2
    obtain ⟨qs,hqs,rfl⟩:=h2
    rw [show PyData.eqv (.list ps) (.list qs) = PyData.eqvAll ps qs by simp [PyData.eqv],zZEm ih xs ys ps qs hx hy hps hqs]
    simp
   | tup ys =>
    simp only [pd,Option.map_eq_some_iff] at h2
    obtain ⟨qs,hqs,rfl⟩:=h2
    simp [PyData.eqv]
   | non=>simp [pd] at h2; subst h2; simp [PyData.eqv]
   | int i=>simp [pd] at h2; subst h2; simp [PyData.eqv]
   | str s=>simp [pd] at h2; obtain ⟨_,rfl⟩:=h2; simp [PyData.eqv]
   | _=>simp [nb] at hy
  | non =>
   simp [pd] at h1; subst h1
   cases y with
   | tup ys=>simp only [pd,Option.map_eq_some_iff] at h2; obtain ⟨qs,hqs,rfl⟩:=h2; simp [PyData.eqv]
   | lst ys=>simp only [pd,Option.map_eq_some_iff] at h2; obtain ⟨qs,hqs,rfl⟩:=h2; simp [PyData.eqv]
   | non=>simp [pd] at h2; subst h2; simp [PyData.eqv]
   | int i=>simp [pd] at h2; subst h2; simp [PyData.eqv]
   | str s=>simp [pd] at h2; obtain ⟨_,rfl⟩:=h2; simp [PyData.eqv]
   | _=>simp [nb] at hy
  | int i =>
   simp [pd] at h1; subst h1
   cases y with
   | tup ys=>simp only [pd,Option.map_eq_some_iff] at h2; obtain ⟨qs,hqs,rfl⟩:=h2; simp [PyData.eqv]
   | lst ys=>simp only [pd,Option.map_eq_some_iff] at h2; obtain ⟨qs,hqs,rfl⟩:=h2; simp [PyData.eqv]
   | non=>simp [pd] at h2; subst h2; simp [PyData.eqv]
   | int i=>simp [pd] at h2; subst h2; simp [PyData.eqv]
   | str s=>simp [pd] at h2; obtain ⟨_,rfl⟩:=h2; simp [PyData.eqv]
   | _=>simp [nb] at hy
  | str s =>
   simp [pd] at h1; obtain ⟨_,rfl⟩:=h1
   cases y with
   | tup ys=>simp only [pd,Option.map_eq_some_iff] at h2; obtain ⟨qs,hqs,rfl⟩:=h2; simp [PyData.eqv]
   | lst ys=>simp only [pd,Option.map_eq_some_iff] at h2; obtain ⟨qs,hqs,rfl⟩:=h2; simp [PyData.eqv]
   | non=>simp [pd] at h2; subst h2; simp [PyData.eqv]
   | int i=>simp [pd] at h2; subst h2; simp [PyData.eqv]
   | str s=>simp [pd] at h2; obtain ⟨_,rfl⟩:=h2; simp [PyData.eqv]
   | _=>simp [nb] at hy
  | _=>simp [nb] at hx
theorem zZNE {x y : D} {b : Bool} (hx : nb 60 x = true) (hy : nb 60 y = true) (h : eqF x y = some b) : b = true ↔ x = y:=by
 cases x <;> cases y <;> simp [nb,eqF] at * <;> first | (subst h; simp; done) | (simp [h]; done) | (simp [← h]; done)
theorem zZIt {x y : D} (hx : nb 60 x = true) (hy : nb 60 y = true) : eqD x y = some (dq x y) ∧ (dq x y = true ↔ x = y):=by
 obtain ⟨p,hp⟩:=zZLV 60 x hx
 obtain ⟨q,hq⟩:=zZLV 60 y hy
 have h:=zZNX 60 x y p q hx hy hp hq
 unfold dq
 cases he : eqF x y with
 | some b =>
  have e : eqD x y = some b:=by unfold eqD; rw [he]
  rw [e]
  exact ⟨rfl,zZNE hx hy he⟩
 | none =>
  have e : eqD x y = some (PyData.eqv p q):=by
   unfold eqD
   rw [he]
   simp only []
   rw [hp,hq]
   rfl
  rw [e]
  exact ⟨rfl,h⟩
theorem zZNn {x y : D} (hx : nb 60 x = true) (hy : nb 60 y = true) : cmpD .eq x y = some (.bl (dq x y)):=by
 show (eqD x y).map D.bl = _
 rw [(zZIt hx hy).1]
 rfl
theorem zZNm {x y : D} (hx : nb 60 x = true) (hy : nb 60 y = true) : cmpD .ne x y = some (.bl (!dq x y)):=by
 show (eqD x y).map (fun b=>D.bl (!b)) = _
 rw [(zZIt hx hy).1]
 rfl
theorem zZJa {x y : D} (hx : nb 60 x = true) (hy : nb 60 y = true) : dq x y = true ↔ x = y:=(zZIt hx hy).2
theorem zZLh (n : Nat) (xs : List Int) : nb (n + 1) (.tup (xs.map .int)) = true:=by
 simp only [nb,List.all_eq_true]
 intro x hx
 obtain ⟨i,_,rfl⟩:=List.mem_map.mp hx
 cases n <;> rfl
theorem zZH6 {xs ys : List Int} : xs.map D.int = ys.map D.int ↔ xs = ys:=by
 constructor
 ·intro h
  exact (List.map_inj_right (f:=D.int) (fun a b e=>by cases e; rfl)).mp h
 ·intro h; rw [h]
def Kp (p0 : Nat) (W W' : Wd) : Prop:=W.length ≤ W'.length ∧ ∀ a,a ≠ p0 → a < W.length → W'[a]? = W[a]?
theorem Kp.refl (p0 : Nat) (W : Wd) : Kp p0 W W:=⟨Nat.le_refl _,fun _ _ _=>rfl⟩
theorem Kp.trans {p0 : Nat} {A B C : Wd} (h1 : Kp p0 A B) (h2 : Kp p0 B C) : Kp p0 A C :=
 ⟨Nat.le_trans h1.1 h2.1,fun a ha hl=>(h2.2 a ha (Nat.lt_of_lt_of_le hl h1.1)).trans (h1.2 a ha hl)⟩
theorem Kp.setp (p0 : Nat) (W : Wd) (c : Cell) : Kp p0 W (W.set p0 c):=⟨by simp,fun a ha _=>List.getElem?_set_ne (Ne.symm ha)⟩
theorem Kp.get {p0 : Nat} {W W' : Wd} (h : Kp p0 W W') {a : Nat} {c : Cell} (ha : a ≠ p0) (hc : W[a]? = some c) : W'[a]? = some c:=(h.2 a ha (zZ0 hc)).trans hc
def PoolK (W0 W : Wd) (p0 : Nat) : Prop:=Pool W p0 ∧ Kp p0 W0 W
theorem zZq (n : Nat) (W0 W : Wd) (p : Nat) (z : Int) (h : PoolK W0 W p) (h1 : 0 < z) (h2 : z < 1073741824) : ∃ v W',(cfgN T (n + 1)).call zZB [.own p,.int z] W = .ok (.int v) W' ∧ 0 ≤ v ∧ v < z ∧ PoolK W0 W' p:=by
 obtain ⟨⟨ns,i,a,s,k,b,h,h0⟩,hk⟩:=h
 obtain ⟨v,i',a',s',k',e,q1,q2,q3⟩:=zZJ8 n W p z ns i a s k b h h0 h1 h2
 exact ⟨v,_,e,q1,q2,⟨ns,i',a',s',k',b,by rw [List.getElem?_set_self (zZ0 h)],q3⟩,hk.trans (Kp.setp p W _)⟩
theorem Kp.push {p0 : Nat} {W W' : Wd} (h : Kp p0 W W') (X : Wd) : Kp p0 W (W' ++ X) :=
 ⟨by have:=h.1; simp; omega,fun a ha hl=>by rw [List.getElem?_append_left (by have:=h.1; omega)]; exact h.2 a ha hl⟩
theorem zZJv {w : Str} (h : isNm w = true) : ∀ c ∈ w.cps.toList,97 ≤ c ∧ c ≤ 122:=by
 intro c hc
 unfold isNm at h
 simp only [Bool.and_eq_true] at h
 have:=List.all_eq_true.mp h.2.2 c hc
 unfold lowC at this
 simpa using this
theorem zZNg {w : Str} (h : isNm w = true) : 1 ≤ w.length ∧ w.length ≤ 8:=by
 unfold isNm at h
 simp only [Bool.and_eq_true,decide_eq_true_eq] at h
 exact h.1
theorem zZJZ {w : Str} {m : Nat} (hm : m < 0x110000) (h : ∀ c ∈ w.cps.toList,c ≤ m) : PySem.PyData.strOk w = true:=by
 unfold PySem.PyData.strOk
 rw [← Array.all_toList,List.all_eq_true]
 intro c hc
 have:=h c hc
 rw [decide_eq_true_eq]
 omega
theorem zZBF {w : Str} (h : isNm w = true) : PySem.PyData.strOk w = true:=zZJZ (m:=122) (by decide) fun c hc=>(zZJv h c hc).2
theorem zZMY (a b : Str) : (a ++ b).cps.toList = a.cps.toList ++ b.cps.toList:=by
 show (a.cps ++ b.cps).toList = _
 rw [Array.toList_append]
theorem zZLu (a b : Str) : (a ++ b).length = a.length + b.length:=by
 show (a.cps ++ b.cps).size = _
 rw [Array.size_append]
 rfl
def NAMES : List Str:=[(PySem.Str.ofString "a"),(PySem.Str.ofString "b"),(PySem.Str.ofString "me"),(PySem.Str.ofString "you"),(PySem.Str.ofString "town"),(PySem.Str.ofString "age"),(PySem.Str.ofString "club"),(PySem.Str.ofString "person")]
theorem zZJ6 : ∀ w ∈ NAMES,isNm w = true:=by decide +kernel
theorem zZNP {v : Nat} (h : v < 26) : atD (ltrs.cps.toList.map fun c=>D.str ⟨#[c]⟩) (.int (v : Int)) = some (.str ⟨#[97 + v]⟩):=by
 refine yZF ?_
 rw [zZJH,List.map_map,List.getElem?_map,List.getElem?_range h]
 show some (D.str ⟨#[v + 97]⟩) = _
 rw [Nat.add_comm]
theorem zZMy {a b : Str} (h : a.length + b.length ≤ 1000000) : binD .add (.str a) (.str b) = some (.str (a ++ b)):=by
 exact if_pos h
theorem zZLc : (PySem.Str.ofString "").cps.toList = []:=by decide +kernel
theorem zZJU (n p0 : Nat) (W0 : Wd) : ∀ (k : Nat) (i : Int) (acc : Str) (W : Wd) (z : Slot),PoolK W0 W p0 → acc.length + k ≤ 100 → (∀ c ∈ acc.cps.toList,97 ≤ c ∧ c ≤ 122) → ∃ (a : Str) (W' : Wd) (z' : Slot),a.length = acc.length + k ∧ (∀ c ∈ a.cps.toList,97 ≤ c ∧ c ≤ 122) ∧ PoolK W0 W' p0 ∧
  forL (tgD (.nm 2)) (exS (cfgN T (n + 1)) ((forsS zZu).getD 0 .skip)) (rangeD i k) [.val (.own p0),.val (.str acc),z] W = .ok (.nx [.val (.own p0),.val (.str a),z']) W':=by
 simp only [zZu,forsS,List.getD_cons_zero]
 intro k
 induction k with
 | zero=>intro i acc W z hP _ ha; exact ⟨acc,W,z,rfl,ha,hP,rfl⟩
 | succ k ih =>
  intro i acc W z hP hl ha
  obtain ⟨v,W1,d1,a1,b1,P1⟩:=zZq n W0 W p0 26 hP (by omega) (by omega)
  obtain ⟨v,rfl⟩:=Int.eq_ofNat_of_zero_le a1
  have hv : v < 26:=by omega
  have hat:=zZNP hv
  have hit : ∀ W : Wd,items W (.str (PySem.Str.ofString "abcdefghijklmnopqrstuvwxyz")) = some (ltrs.cps.toList.map fun c=>D.str ⟨#[c]⟩):=fun W=>zZER (w:=ltrs) W (by decide +kernel)
  have h1 : (⟨#[97 + v]⟩ : Str).length = 1:=rfl
  have hadd:=zZMy (a:=acc) (b:=⟨#[97 + v]⟩) (by rw [h1]; omega)
  have ea : (acc ++ (⟨#[97 + v]⟩ : Str)).length = acc.length + 1:=by rw [zZLu,h1]
  obtain ⟨a,W',z',q1,q2,q3,q4⟩:=ih (i + 1) (acc ++ ⟨#[97 + v]⟩) W1 (.val (.int i)) P1 (by rw [ea]; omega) (fun c hc=>by
   rw [zZMY] at hc
   rcases List.mem_append.mp hc with hc | hc
   ·exact ha c hc
   ·have : c = 97 + v:=by simpa using hc
    omega)
  rw [ea] at q1
  refine ⟨a,W',z',by omega,q2,q3, ?_⟩
  rw [yZ8,zZP]
  clear ih hP P1 ha q1 q2 q3 ea h1
  generalize (ltrs.cps.toList.map fun c=>D.str ⟨#[c]⟩) = CH at *
  generalize acc ++ (⟨#[97 + v]⟩ : Str) = AC at *
  walk_at "ev2"
theorem zZHs (neg : Bool) (W : Wd) (w : Str) (ws : List Str) (d : D) : inG neg W (.str w) (.frz (ws.map D.str) d) = some (.bl (if neg then !decide (w ∈ ws) else decide (w ∈ ws))):=by
 have key : inD (.str w) (ws.map D.str) = some (decide (w ∈ ws)):=by
  unfold inD
  rw [if_pos]
  ·congr 1
   rw [List.any_map]
   induction ws with
   | nil=>rfl
   | cons x ws ih =>
    rw [List.any_cons,ih]
    have : ((fun y=>eqVD y (D.str w)) ∘ D.str) x = decide (x = w):=by
     show (x == w) = _
     rw [Bool.eq_iff_iff,beq_iff_eq,decide_eq_true_eq]
    rw [this]
    by_cases e : x = w
    ·simp [e]
    ·have e2 : ¬ w = x:=fun h=>e h.symm
     simp [e,e2]
  ·have : (ws.map D.str).all flatD = true:=by
    rw [List.all_map]
    exact List.all_eq_true.mpr fun x _=>rfl
   rw [this]
   rfl
 show (some (ws.map D.str)).bind (fun xs=>(inD (.str w) xs).map fun k=>D.bl (if neg then !k else k)) = _
 rw [Option.bind_some,key]
 cases neg <;> rfl
theorem zZKT (n p0 : Nat) (W0 W : Wd) (hP : PoolK W0 W p0) : ∃ (w : Str) (W' : Wd),isNm w = true ∧ PoolK W0 W' p0 ∧ (cfgN T (n + 2)).call zZE7 [.own p0] W = .ok (.str w) W':=by
 obtain ⟨v,W1,d1,a1,b1,P1⟩:=zZq n W0 W p0 4 hP (by omega) (by omega)
 obtain ⟨u,W2,d2,a2,b2,P2⟩:=zZq n W0 W1 p0 8 P1 (by omega) (by omega)
 by_cases hv : 0 < v
 ·have hat : ∃ w,isNm w = true ∧ atD (NAMES.map D.str) (.int u) = some (.str w):=by
   obtain ⟨u,rfl⟩:=Int.eq_ofNat_of_zero_le a2
   have hu : u < NAMES.length:=by show u < 8; omega
   exact ⟨NAMES[u],zZJ6 _ (List.getElem_mem hu),yZF (by rw [List.getElem?_map,List.getElem?_eq_getElem hu]; rfl)⟩
  obtain ⟨w,hw,hat⟩:=hat
  simp only [NAMES,List.map_cons,List.map_nil] at hat
  refine ⟨w,W2,hw,P2, ?_⟩
  rw [zZE (F:=zZ9) rfl]
  simp only [zZ9,zZu]
  clear P1 P2 hP hw
  walk_at "ev2"
 ·obtain ⟨u,rfl⟩:=Int.eq_ofNat_of_zero_le a2
  obtain ⟨a,W3,z',q1,q2,q3,q4⟩:=zZJU n p0 W0 (1 + u) 0 "" W2 .no P2 (by show 0 + (1 + u) ≤ 100; omega) (fun c hc=>by rw [zZLc] at hc; cases hc)
  have hin : ∀ d,inG false W3 (.str a) (.frz (KEYL.map D.str) d) = _:=fun d=>zZHs false W3 a KEYL d
  generalize hD : decide (a ∈ KEYL) = B at hin
  simp only [KEYL,List.map_cons,List.map_nil] at hin
  rw [← hD] at hin
  clear hD B
  have hrg : ((1 : Int) + (u : Int)) = ((1 + u : Nat) : Int):=by omega
  have hcp : 1 + u ≤ 1000000:=by omega
  have hl : 1 ≤ a.length ∧ a.length ≤ 8:=by
   have : ("" : Str).length = 0:=rfl
   omega
  by_cases hk : a ∈ KEYL
  ·refine ⟨"z",W3,by decide +kernel,q3, ?_⟩
   rw [zZE (F:=zZ9) rfl]
   simp only [zZ9,zZu]
   rw [decide_eq_true hk] at hin
   simp only [zZu,forsS,List.getD_cons_zero] at q4
   clear P1 P2 hP q3 q2 q1 hl hk
   walk_at "ev2"
  ·refine ⟨a,W3, ?_,q3, ?_⟩
   ·unfold isNm
    simp only [Bool.and_eq_true,decide_eq_true_eq,Bool.not_eq_true']
    exact ⟨hl,decide_eq_false hk,List.all_eq_true.mpr fun c hc=>by unfold lowC; simpa using q2 c hc⟩
   ·rw [zZE (F:=zZ9) rfl]
    simp only [zZ9,zZu]
    rw [decide_eq_false hk] at hin
    simp only [zZu,forsS,List.getD_cons_zero] at q4
    clear P1 P2 hP q3 q2 q1 hl hk
    walk_at "ev2"
local macro_rules | `(tactic| walk_at "ev3") => `(tactic| simp -implicitDefEqProofs (disch:=first | assumption | omega | (simp only [List.length_cons,List.length_nil,List.length_append,List.length_map]; done) | (simp only [List.length_cons,List.length_nil,List.length_append,List.length_map,limI,cap]; omega) | decide) only [yZS,zZAe,zZBE,zZEK,v_bl,zZDX,zZDv,zZDF,zZC6,zZC2,xZq,v_in,zZBC,v_eq,v_ne,v_lt,v_le,v_gt,v_ge,v_is,zZBB,
 zZEA,zZBA,zZDs,v_or,zZCZ,zZD7,zZCI,zZDc,zZDf,zZEI,zZEH,zZDh,v_sl,zZDU,zZAb,zZDr,zZBy,zZBu,zZCB,zZBf,zZBl,zZDu,zZAu,zZEC,zZDW,zZD6,zZD5,zZAi,zZAm,zZDy,zZDb,yZn,zZBt,yZ1,zZB9,zZAc,xZy,xZw,zZDM,zZDT,E.isVar,zZA3,xZT,zZAv,zZCa,zZA2,xZW,zZCU,
 v_of,zZD8,zZDV,zZB2,zZB0,zZDP,zZBk,zZAU,zZAz,zZAV,zZA8,yZ3,zZEE,zZA5,zZCH,xZ2,zZBw,zZDD,zZC7,zZAj,zZDp,zZt,zZCP,xZb,xZZ,zZA0,zZD3,xZu,yZj,zZBo,zZCY,zZCA,zZBg,zZBp,zZBv,zZCX,zZCd,xZ8,zZDt,xZr,zZCN,zZCF,
 zZAy,xZs,yZN,yZb,zZDE,zZCW,zZAp,zZAs,xZx,zZDI,zZDR,zZD4,zZBh,zZDJ,zZDK,c_lt,c_le,c_gt,c_ge,zZDd,zZDe,zZDB,zZD0,zZC8,zZDn,zZD1,zZDa,t_bl,zZDN,zZDm,zZDi,zZDG,zZDO,zZDY,zZC4,zZDx,yZC,yZt,zZED,zZCO,zZEG,zZEF,k_bl,
 zZCe,xZP,xZh,zZ1,zZA7,zZAa,zZAY,zZX,Option.bind_some,Option.map_some,List.getElem?_cons_zero,List.getElem?_cons_succ,List.set_cons_zero,List.set_cons_succ,List.map_cons,List.map_nil,List.length_cons,List.length_nil,List.cons_append,List.nil_append,List.replicate,
 decide_eq_true_eq,Int.reduceSub,Int.reduceAdd,Int.reduceNeg,Int.reduceLT,Int.reduceLE,Int.reduceEq,Nat.reduceAdd,Nat.reduceSub,List.getElem?_set,List.length_set,List.length_map,List.set_set,eq_self,Bool.false_eq_true,Int.reduceToNat,Int.toNat_natCast,Int.reducePow,Option.map_some,tyD,decide_true,decide_false,if_true,if_false,Bool.not_true,Bool.not_false,zZA9,zZAd,zZBx,xZg,zZCL,zZAS,yZ0,zZAL,zZAr,yZz,yZU,zZAg,zZAX,zZDg,zZAW,zZAf,xZQ,xZo,zZA1,yZs,zZBn,zZCS,zZAl,xZj,zZAt,yZi,zZAQ,Option.isNone_none,Option.isNone_some,Nat.reduceEqDiff,Nat.reduceLT,xZA,yZZ,zZCJ,zZAw,yZo,yZg,zZAx,zZAR,zZDw,zZAk,zZAZ,yZq,R.calm_ok,zZB3,zZDS,zZCV,zZAn,zZAO,zZDA,zZB8,yZh,yZl,zZCG,zZDC,zZDH,zZAT,zZAq,zZAN,zZAo,zZAP,zZBj,zZBe,xZO,xZ4,xZa,yZw,xZX,xZz,zZAK,xZe,zZCR,zZB7,yZx,yZr,yZX,v_gs,v_gk,zZEB,zZDo,zZDZ,zZB1,xZi,zZDQ,zZCQ,zZA6,zZBs,yZp,yZm,yZk,xZS,xZv,xZR,xZ1,xZt,xZV,xZk,xZn,xZ0,xZN,xZd,xZY,xZl,xZ3,xZc,xZf,xZm,zZDq,zZEJ,zZDL,zZDz,zZC1,zZCE,zZFt,zZEW,zZCw,zZEk,zZBm,zZCr,Option.map_some,cast0,cast1,cast2,cast3,cast4,cast5,List.append_nil,zZCc,zZ1,Int.zero_sub,s_te,s_tl,s_ta,s_ts,s_et,s_el,s_ea,s_es,s_lt,s_le,s_la,s_ls,s_at,s_ae,s_al,s_as,s_st,s_se,s_sl,s_sa,Option.isSome_none,Option.isSome_some,Bool.not_true,Bool.not_false,zZEn,zZEU,zZEZ,zZES,zZET,Bool.or_false,Bool.or_self,Bool.true_or,Bool.true_eq_false, *])
def SPARE : List Str:=[(PySem.Str.ofString "pp"),(PySem.Str.ofString "qq"),(PySem.Str.ofString "rr"),(PySem.Str.ofString "ss"),(PySem.Str.ofString "tt"),(PySem.Str.ofString "uu"),(PySem.Str.ofString "vv"),(PySem.Str.ofString "ww"),(PySem.Str.ofString "xx")]
theorem zZK2 : ∀ w ∈ SPARE,isNm w = true:=by decide +kernel
theorem zZLO : SPARE.Nodup:=by decide +kernel
def pickN (ns : List Str) : Str → List Str → Str
 | w,[]=>w
 | w,o :: os=>if w ∈ ns then pickN ns o os else pickN ns w os
theorem zZEo {ns : List Str} : ∀ {os : List Str} {w : Str},pickN ns w os ∈ ns → w ∈ ns ∧ ∀ o ∈ os,o ∈ ns
 | [],w,h=>⟨h,fun _ z=>by cases z⟩
 | o :: os,w,h=>by
  unfold pickN at h
  by_cases hw : w ∈ ns
  ·rw [if_pos hw] at h
   obtain ⟨h1,h2⟩:=zZEo h
   refine ⟨hw,fun x hx => ?_⟩
   rcases List.mem_cons.mp hx with rfl | hx
   ·exact h1
   ·exact h2 x hx
  ·rw [if_neg hw] at h
   exact absurd (zZEo h).1 hw
theorem zZFV {ns : List Str} : ∀ {os : List Str} {w : Str},isNm w = true → (∀ o ∈ os,isNm o = true) → isNm (pickN ns w os) = true
 | [],w,h,_=>h
 | o :: os,w,h,ho=>by
  unfold pickN
  have h2 : ∀ x ∈ os,isNm x = true:=fun x hx=>ho x (List.mem_cons_of_mem _ hx)
  split
  ·exact zZFV (ho o List.mem_cons_self) h2
  ·exact zZFV h h2
theorem zZFj {α : Type} [DecidableEq α] : ∀ {l m : List α},l.Nodup → (∀ x ∈ l,x ∈ m) → l.length ≤ m.length
 | [],m,_,_=>by simp
 | x :: l,m,hd,h=>by
  obtain ⟨h1,h2⟩:=List.nodup_cons.mp hd
  have hx:=h x List.mem_cons_self
  have h3:=zZFj (l:=l) (m:=m.erase x) h2 fun y hy=>(List.mem_erase_of_ne (fun (e : y = x)=>h1 (e ▸ hy))).mpr (h y (List.mem_cons_of_mem _ hy))
  rw [List.length_erase_of_mem hx] at h3
  have:=List.length_pos_of_mem hx
  rw [List.length_cons]
  omega
theorem zZJl {ns : List Str} {w : Str} (h : ns.length < 9) : pickN ns w SPARE ∉ ns:=fun z=>by
 have:=zZFj zZLO (zZEo z).2
 have : SPARE.length = 9:=rfl
 omega
theorem xZA (W : Wd) (w : Str) (ws : List Str) (i : Nat) : inG false W (.str w) (.slot i (ws.map D.str)) = some (.bl (decide (w ∈ ws))):=zZHs false W w ws .non
def unB : S:=(forsS zZo).getD 0 .skip
theorem zZIq (n : Nat) (W : Wd) (s0 s1 s3 : Slot) (ns : List Str) : ∀ (os : List Str) (w : Str) (z : Slot),∃ z',
  forL (tgD (.nm 5)) (exS (cfgN T n) ((forsS unB).getD 0 .skip)) (os.map D.str) [s0,s1,.ol (ns.map .str),s3,.val (.str w),z] W = .ok (.nx [s0,s1,.ol (ns.map .str),s3,.val (.str (pickN ns w os)),z']) W:=by
 simp only [unB,zZo,forsS,List.getD_cons_zero]
 intro os
 induction os with
 | nil=>intro w z; exact ⟨z,rfl⟩
 | cons o os ih =>
  intro w z
  have hin:=xZA W w ns 2
  unfold pickN
  by_cases h : w ∈ ns
  ·obtain ⟨z',hz⟩:=ih o (.val (.str o))
   refine ⟨z', ?_⟩
   rw [if_pos h,List.map_cons,zZP]
   rw [decide_eq_true h] at hin
   clear ih
   generalize ns.map D.str = NS at *
   walk_at "ev3"
  ·obtain ⟨z',hz⟩:=ih w (.val (.str o))
   refine ⟨z', ?_⟩
   rw [if_neg h,List.map_cons,zZP]
   rw [decide_eq_false h] at hin
   clear ih
   generalize ns.map D.str = NS at *
   walk_at "ev3"
theorem zZHz (n p0 : Nat) (W0 : Wd) (s1 : Slot) : ∀ (k : Nat) (i : Int) (ns : List Str) (W : Wd) (z3 z4 z5 : Slot),PoolK W0 W p0 → ns.length + k ≤ 9 → (∀ w ∈ ns,isNm w = true) → ns.Nodup → ∃ (l : List Str) (W' : Wd) (z3' z4' z5' : Slot),l.length = ns.length + k ∧ (∀ w ∈ l,isNm w = true) ∧ l.Nodup ∧ PoolK W0 W' p0 ∧
  forL (tgD (.nm 3)) (exS (cfgN T (n + 2)) unB) (rangeD i k) [.val (.own p0),s1,.ol (ns.map .str),z3,z4,z5] W = .ok (.nx [.val (.own p0),s1,.ol (l.map .str),z3',z4',z5']) W':=by
 simp only [unB,zZo,forsS,List.getD_cons_zero]
 intro k
 induction k with
 | zero=>intro i ns W z3 z4 z5 hP _ h1 h2; exact ⟨ns,W,z3,z4,z5,rfl,h1,h2,hP,rfl⟩
 | succ k ih =>
  intro i ns W z3 z4 z5 hP hl h1 h2
  obtain ⟨w,W1,w1,P1,d1⟩:=zZKT n p0 W0 W hP
  obtain ⟨y5,hs⟩:=zZIq (n + 2) W1 (.val (.own p0)) s1 (.val (.int i)) ns SPARE w z5
  have hn:=zZFV (ns:=ns) w1 zZK2
  have hnew:=zZJl (ns:=ns) (w:=w) (by omega)
  generalize pickN ns w SPARE = x at *
  obtain ⟨l,W',z3',z4',z5',q1,q2,q3,q4,q5⟩:=ih (i + 1) (ns ++ [x]) W1 (.val (.int i)) (.val (.str x)) y5 P1 (by rw [List.length_append,List.length_singleton]; omega) (fun y hy=>by
   rcases List.mem_append.mp hy with hy | hy
   ·exact h1 y hy
   ·rw [List.mem_singleton.mp hy]; exact hn) (by
   rw [List.nodup_append]
   refine ⟨h2,by simp,fun a ha b hb e => ?_⟩
   rw [List.mem_singleton] at hb
   exact hnew (hb ▸ e ▸ ha))
  refine ⟨l,W',z3',z4',z5',by rw [q1,List.length_append,List.length_singleton]; omega,q2,q3,q4, ?_⟩
  rw [yZ8,zZP]
  have hap : (ns ++ [x]).map D.str = ns.map D.str ++ [.str x]:=by rw [List.map_append]; rfl
  have hlc : (ns.map D.str).length < 1000000:=by rw [List.length_map]; omega
  rw [hap] at q5
  simp only [SPARE,List.map_cons,List.map_nil] at hs
  clear ih hP P1 q1 q2 q3 q4 h1 h2 hn hnew hl hap
  simp only [unB,zZo,forsS,List.getD_cons_zero] at hs
  generalize ns.map D.str = NS at *
  walk_at "ev3"
theorem zZBa (n p0 c : Nat) (W0 W : Wd) (hP : PoolK W0 W p0) (hc : c ≤ 9) : ∃ (l : List Str) (W' : Wd),l.length = c ∧ (∀ w ∈ l,isNm w = true) ∧ l.Nodup ∧ PoolK W0 W' p0 ∧ (cfgN T (n + 3)).call yZJ [.own p0,.int (c : Int)] W = .ok (.lst (l.map .str)) W':=by
 obtain ⟨l,W',z3,z4,z5,q1,q2,q3,q4,q5⟩:=zZHz n p0 W0 (.val (.int (c : Int))) c 0 [] W .no .no .no hP (by simpa using hc) (fun w hw=>by cases hw) (by simp)
 refine ⟨l,W',by simpa using q1,q2,q3,q4, ?_⟩
 rw [zZE (F:=xZK) rfl]
 have hc1 : c ≤ 1000000:=by omega
 simp only [List.map_nil,unB,zZo,forsS,List.getD_cons_zero] at q5
 simp only [xZK,zZo]
 clear q1 q2 q3 q4 hP
 walk_at "ev3"
structure KdWF (k : Kd) : Prop where
 nm : isNm k.1 = true
 nd : (k.2.map fun f=>f.1).Nodup
 l : k.2.length ≤ 4
 f : ∀ f ∈ k.2,isNm f.1 = true ∧ 1 ≤ f.2 ∧ f.2 ≤ 16
structure KsWF (ks : List Kd) : Prop where
 l : 1 ≤ ks.length ∧ ks.length ≤ 8
 nd : (ks.map fun k=>k.1).Nodup
 k : ∀ k ∈ ks,KdWF k
theorem zZID (n p0 : Nat) (W0 : Wd) (y1 y2 y3 : Slot) : ∀ (ns : List Str) (W : Wd),PoolK W0 W p0 → ∃ (fs : List (Str × Int)) (W' : Wd),fs.map (fun f=>f.1) = ns ∧ (∀ f ∈ fs,1 ≤ f.2 ∧ f.2 ≤ 16) ∧ PoolK W0 W' p0 ∧
  compL (fun d=>tgD (.nm 4) d [.val (.own p0),y1,y2,y3,.no]) (evTs (cfgN T (n + 1)) .nil) (evE (cfgN T (n + 1)) (.tup (.cons (.var 4) (.cons (.bin .add (.int 1) (.call zZB (.cons (.var 0) (.cons (.int 16) .nil)))) .nil)))) (ns.map .str) W = .ok (fs.map flD) W':=by
 intro ns
 induction ns with
 | nil=>intro W hP; exact ⟨[],W,rfl,by simp,hP,rfl⟩
 | cons x ns ih =>
  intro W hP
  obtain ⟨v,W1,d1,a1,b1,P1⟩:=zZq n W0 W p0 16 hP (by omega) (by omega)
  obtain ⟨fs,W',h1,h2,h3,h4⟩:=ih W1 P1
  refine ⟨(x,1 + v) :: fs,W',by rw [List.map_cons,h1],fun f hf => ?_,h3, ?_⟩
  ·rcases List.mem_cons.mp hf with rfl | hf
   ·exact ⟨by show 1 ≤ 1 + v; omega,by show 1 + v ≤ 16; omega⟩
   ·exact h2 f hf
  ·rw [List.map_cons,List.map_cons]
   refine zZFO (e1:=[.val (.own p0),y1,y2,y3,.val (.str x)]) rfl zZHV ?_ h4
   clear ih h4 hP P1
   simp only [flD]
   walk_at "ev3"
theorem zZIr (n p0 : Nat) (W0 : Wd) : ∀ (ns : List Str) (acc : List Kd) (W : Wd) (z2 z3 : Slot),PoolK W0 W p0 → acc.length + ns.length ≤ 8 → (∀ w ∈ ns,isNm w = true) → (∀ k ∈ acc,KdWF k) → ∃ (ks : List Kd) (W' : Wd) (z2' z3' : Slot),ks.map (fun k=>k.1) = acc.map (fun k=>k.1) ++ ns ∧ (∀ k ∈ ks,KdWF k) ∧ PoolK W0 W' p0 ∧
  forL (tgD (.nm 2)) (exS (cfgN T (n + 3)) ((forsS zZV).getD 0 .skip)) (ns.map .str) [.val (.own p0),.ol (acc.map kT),z2,z3,.no] W = .ok (.nx [.val (.own p0),.ol (ks.map kT),z2',z3',.no]) W':=by
 simp only [zZV,forsS,List.getD_cons_zero]
 intro ns
 induction ns with
 | nil=>intro acc W z2 z3 hP _ _ ha; exact ⟨acc,W,z2,z3,by simp,ha,hP,rfl⟩
 | cons x ns ih =>
  intro acc W z2 z3 hP hl hn ha
  rw [List.length_cons] at hl
  obtain ⟨v,W1,d1,a1,b1,P1⟩:=zZq (n + 2) W0 W p0 5 hP (by omega) (by omega)
  obtain ⟨c,rfl⟩:=Int.eq_ofNat_of_zero_le a1
  obtain ⟨l,W2,l1,l2,l3,P2,d2⟩:=zZBa n p0 c W0 W1 P1 (by omega)
  obtain ⟨fs,W3,f1,f2,P3,d3⟩:=zZID (n + 2) p0 W0 (.ol (acc.map kT)) (.val (.str x)) z3 l W2 P2
  have hk : KdWF (x,fs):=by
   have hlen : fs.length = l.length:=by rw [← f1,List.length_map]
   refine ⟨hn x List.mem_cons_self,by rw [f1]; exact l3,by show fs.length ≤ 4; omega,fun f hf=>⟨l2 _ ?_,f2 f hf⟩⟩
   rw [← f1]
   exact List.mem_map_of_mem hf
  obtain ⟨ks,W',z2',z3',q1,q2,q3,q4⟩:=ih (acc ++ [(x,fs)]) W3 (.val (.str x)) (.val (.lst (fs.map flD))) P3 (by rw [List.length_append,List.length_singleton]; omega) (fun w hw=>hn w (List.mem_cons_of_mem _ hw)) (fun k hk2=>by
   rcases List.mem_append.mp hk2 with h | h
   ·exact ha k h
   ·rw [List.mem_singleton.mp h]; exact hk)
  refine ⟨ks,W',z2',z3',by rw [q1,List.map_append,List.append_assoc]; rfl,q2,q3, ?_⟩
  rw [List.map_cons,zZP]
  have hcomp : ∀ b,compR (cfgN T (n + 3)) (.tup (.cons (.var 4) (.cons (.bin .add (.int 1) (.call zZB (.cons (.var 0) (.cons (.int 16) .nil)))) .nil))) (.nm 4) .nil [.val (.own p0),.ol (acc.map kT),.val (.str x),z3,.no] (l.map D.str,b) W2 = .ok (fs.map flD) W3:=fun b=>by
   rw [zZC3 (by rw [List.length_map]; unfold cap; omega)]
   exact d3
  have hap : (acc ++ [(x,fs)]).map kT = acc.map kT ++ [.tup [.str x,.tup (fs.map flD)]]:=by rw [List.map_append]; rfl
  have hlc : (acc.map kT).length < 1000000:=by rw [List.length_map]; omega
  rw [hap] at q4
  clear ih hP P1 P2 P3 hn ha hk q1 q2 q3 f1 f2 l1 l2 l3 d3 hap hl
  generalize acc.map kT = AC at *
  generalize fs.map flD = FS at *
  generalize l.map D.str = LS at *
  walk_at "ev3"
theorem zZHq (n p0 : Nat) (W0 W : Wd) (hP : PoolK W0 W p0) : ∃ (ks : List Kd) (W' : Wd),KsWF ks ∧ PoolK W0 W' p0 ∧ (cfgN T (n + 4)).call zZB6 [.own p0] W = .ok (.lst (ks.map kT)) W':=by
 obtain ⟨u,W1,d1,a1,b1,P1⟩:=zZq (n + 2) W0 W p0 3 hP (by omega) (by omega)
 obtain ⟨v,W2,d2,a2,b2,P2⟩:=zZq (n + 2) W0 W1 p0 8 P1 (by omega) (by omega)
 obtain ⟨x,W3,d3,a3,b3,P3⟩:=zZq (n + 2) W0 W2 p0 4 P2 (by omega) (by omega)
 obtain ⟨u,rfl⟩:=Int.eq_ofNat_of_zero_le a1
 obtain ⟨v,rfl⟩:=Int.eq_ofNat_of_zero_le a2
 have main : ∀ c : Nat,1 ≤ c → c ≤ 8 → ∃ (l : List Str) (ks : List Kd) (W4 W' : Wd) (z2 z3 : Slot),KsWF ks ∧ PoolK W0 W' p0 ∧ (cfgN T (n + 3)).call yZJ [.own p0,.int (c : Int)] W3 = .ok (.lst (l.map .str)) W4 ∧
   forL (tgD (.nm 2)) (exS (cfgN T (n + 3)) ((forsS zZV).getD 0 .skip)) (l.map .str) [.val (.own p0),.ol [],.no,.no,.no] W4 = .ok (.nx [.val (.own p0),.ol (ks.map kT),z2,z3,.no]) W':=by
  intro c c1 c8
  obtain ⟨l,W4,l1,l2,l3,P4,d4⟩:=zZBa n p0 c W0 W3 P3 (by omega)
  obtain ⟨ks,W',z2,z3,q1,q2,q3,q4⟩:=zZIr n p0 W0 l [] W4 .no .no P4 (by simpa using (by omega : l.length ≤ 8)) l2 (fun k h=>by cases h)
  rw [List.map_nil,List.nil_append] at q1
  have hl : ks.length = l.length:=by rw [← q1,List.length_map]
  exact ⟨l,ks,W4,W',z2,z3,⟨by omega,by rw [q1]; exact l3,q2⟩,q3,d4,q4⟩
 simp only [zZV,forsS,List.getD_cons_zero] at main
 by_cases hx : x = 0
 ·obtain ⟨l,ks,W4,W',z2,z3,K,P,d4,q⟩:=main (1 + v) (by omega) (by omega)
  refine ⟨ks,W',K,P, ?_⟩
  rw [zZE (F:=zZs) rfl]
  simp only [zZs,zZV]
  have e : ((1 : Int) + (v : Int)) = ((1 + v : Nat) : Int):=by omega
  clear main K P P1 P2 P3 hP
  generalize l.map D.str = LS at *
  walk_at "ev3"
 ·obtain ⟨l,ks,W4,W',z2,z3,K,P,d4,q⟩:=main (1 + u) (by omega) (by omega)
  refine ⟨ks,W',K,P, ?_⟩
  rw [zZE (F:=zZs) rfl]
  simp only [zZs,zZV]
  have e : ((1 : Int) + (u : Int)) = ((1 + u : Nat) : Int):=by omega
  clear main K P P1 P2 P3 hP
  generalize l.map D.str = LS at *
  walk_at "ev3"
theorem zZEr {α β : Type} [DecidableEq β] {f : α → β} {x : α} : ∀ {l : List α},(l.map f).Nodup → x ∈ l → l.filter (fun y=>decide (f y = f x)) = [x]
 | [],_,h=>by cases h
 | y :: l,hd,h=>by
  rw [List.map_cons,List.nodup_cons] at hd
  rcases List.mem_cons.mp h with rfl | h
  ·rw [List.filter_cons_of_pos (by simp)]
   have : l.filter (fun y=>decide (f y = f x)) = []:=by
    rw [List.filter_eq_nil_iff]
    intro y hy e
    exact hd.1 (of_decide_eq_true e ▸ List.mem_map_of_mem hy)
   rw [this]
  ·rw [List.filter_cons_of_neg,zZEr hd.2 h]
   intro e
   exact hd.1 (of_decide_eq_true e ▸ List.mem_map_of_mem h)
theorem zZGE {α β : Type} [DecidableEq β] {f : α → β} {x : α} : ∀ {l : List α},(l.map f).Nodup → x ∈ l → l.find? (fun y=>decide (f y = f x)) = some x
 | [],_,h=>by cases h
 | y :: l,hd,h=>by
  rw [List.map_cons,List.nodup_cons] at hd
  rcases List.mem_cons.mp h with rfl | h
  ·rw [List.find?_cons_of_pos (by simp)]
  ·rw [List.find?_cons_of_neg,zZGE hd.2 h]
   intro e
   exact hd.1 (of_decide_eq_true e ▸ List.mem_map_of_mem h)
def prS (x : (Str × Str) × Int) : D:=.tup [prD x.1,.int x.2]
def cdS (ks : List Kd) (c : Cd) : List ((Str × Str) × Int):=(kfs ks c.k).map fun f=>((c.nm,f.1),f.2)
def allS (ks : List Kd) (cs : List Cd) : List ((Str × Str) × Int):=cs.flatMap (cdS ks)
theorem zZLI (ks : List Kd) (cs : List Cd) : (allS ks cs).map (fun x=>x.1) = allP ks cs:=by
 unfold allS allP
 rw [List.map_flatMap]
 congr 1
 funext c
 unfold cdS cdP
 rw [List.map_map]
 rfl
theorem zZBz {ks : List Kd} {k : Str} (K : KsWF ks) (h : k ∈ ks.map fun k=>k.1) : ∃ x ∈ ks,x.1 = k ∧ kfind ks k = some x ∧ kfs ks k = x.2 ∧ ks.filter (fun y=>decide (y.1 = k)) = [x]:=by
 obtain ⟨x,hx,rfl⟩:=List.mem_map.mp h
 have h1 : kfind ks x.1 = some x:=zZGE (f:=fun k : Kd=>k.1) K.nd hx
 exact ⟨x,hx,rfl,h1,zZAM h1,zZEr (f:=fun k : Kd=>k.1) K.nd hx⟩
theorem zZD9 {ks : List Kd} {cs : List Cd} (K : KsWF ks) (hc : ∀ c ∈ cs,c.k ∈ ks.map fun k=>k.1) (hd : (cs.map fun c=>c.nm).Nodup) {p : Str × Str} {z : Int} (h : (p,z) ∈ allS ks cs) : p ∈ allP ks cs ∧ sizeA ks cs p = z ∧ 1 ≤ z ∧ z ≤ 16:=by
 have h1 : p ∈ allP ks cs:=by
  rw [← zZLI]
  exact List.mem_map_of_mem (f:=fun x : (Str × Str) × Int=>x.1) h
 obtain ⟨c,hm,hx⟩:=List.mem_flatMap.mp h
 obtain ⟨f,hf,e⟩:=List.mem_map.mp hx
 cases e
 obtain ⟨x,hxm,hxn,_,hfs,_⟩:=zZBz K (hc c hm)
 have hf2:=hf
 rw [hfs] at hf2
 have W:=(K.k x hxm)
 refine ⟨h1, ?_,(W.f f hf2).2⟩
 unfold sizeA
 have e1 : cs.filter (fun c_1=>decide (c_1.nm = c.nm)) = [c]:=zZEr (f:=fun c : Cd=>c.nm) hd hm
 show (match cs.filter (fun c_1=>decide (c_1.nm = c.nm)) with | c' :: _=>(((kfs ks c'.k).find? fun g : Str × Int=>decide (g.1 = f.1)).map fun f : Str × Int=>f.2).getD 0 | []=>0) = _
 rw [e1]
 show (((kfs ks c.k).find? fun g : Str × Int=>decide (g.1 = f.1)).map fun f : Str × Int=>f.2).getD 0 = f.2
 rw [hfs,zZGE (f:=fun f : Str × Int=>f.1) W.nd hf2]
 rfl
theorem zZFd {ks : List Kd} (K : KsWF ks) : ∀ {cs : List Cd},(∀ c ∈ cs,c.k ∈ ks.map fun k=>k.1) → (allS ks cs).length ≤ 4 * cs.length
 | [],_=>by simp [allS]
 | c :: cs,h=>by
  obtain ⟨x,hxm,_,_,hfs,_⟩:=zZBz K (h c List.mem_cons_self)
  have i:=zZFd K (cs:=cs) fun x hx=>h x (List.mem_cons_of_mem _ hx)
  unfold allS at *
  rw [List.flatMap_cons,List.length_append,List.length_cons]
  have : (cdS ks c).length ≤ 4:=by unfold cdS; rw [List.length_map,hfs]; exact (K.k x hxm).l
  omega
theorem zZIC (n : Nat) (ks : List Kd) (K : KsWF ks) (W : Wd) (s1 : Slot) : ∀ (cs : List Cd) (acc : List ((Str × Str) × Int)) (z3 z4 z5 z6 : Slot),(∀ c ∈ cs,c.k ∈ ks.map fun k=>k.1) → acc.length + 4 * cs.length ≤ 1000 → ∃ z3' z4' z5' z6',
  forL (tgD (.tup (.cons (.nm 3) (.cons (.nm 4) (.cons (.nm 5) .nil))))) (exS (cfgN T n) ((forsS yZR).getD 0 .skip)) (cs.map cdD) [.val (.lst (ks.map kT)),s1,.val (.lst (acc.map prS)),z3,z4,z5,z6,.no,.no,.no] W =
   .ok (.nx [.val (.lst (ks.map kT)),s1,.val (.lst ((acc ++ allS ks cs).map prS)),z3',z4',z5',z6',.no,.no,.no]) W:=by
 simp only [yZR,forsS,List.getD_cons_zero]
 intro cs
 induction cs with
 | nil=>intro acc z3 z4 z5 z6 _ _; exact ⟨z3,z4,z5,z6,by simp only [allS,List.flatMap_nil,List.append_nil]; rfl⟩
 | cons c cs ih =>
  intro acc z3 z4 z5 z6 hc hl
  rw [List.length_cons] at hl
  obtain ⟨x,hxm,hxn,_,hfs,hfl⟩:=zZBz K (hc c List.mem_cons_self)
  have hx4:=(K.k x hxm).l
  have hk8:=K.l.2
  have ecd : cdS ks c = x.2.map fun f=>((c.nm,f.1),f.2):=by unfold cdS; rw [hfs]
  have hcl : (cdS ks c).length ≤ 4:=by rw [ecd,List.length_map]; exact hx4
  obtain ⟨z3',z4',z5',z6',hz⟩:=ih (acc ++ cdS ks c) (.val (.str c.nm)) (.val (.str c.k)) (.val (.tup (c.ns.map .str))) (.val (flsD x.2)) (fun y hy=>hc y (List.mem_cons_of_mem _ hy)) (by rw [List.length_append]; omega)
  refine ⟨z3',z4',z5',z6', ?_⟩
  have ea : allS ks (c :: cs) = cdS ks c ++ allS ks cs:=by unfold allS; rw [List.flatMap_cons]
  rw [ea,← List.append_assoc,← hz,List.map_cons,zZP]
  have c1 : ∀ (y3 y5 y6 : Slot) b,compR (cfgN T n) (.var 6) (.tup (.cons (.nm 7) (.cons (.nm 6) .nil))) (.cons (.cmp .eq (.var 7) (.var 4)) .nil) [.val (.lst (ks.map kT)),s1,.val (.lst (acc.map prS)),y3,.val (.str c.k),y5,y6,.no,.no,.no] (ks.map kT,b) W = .ok [flsD x.2] W:=by
   intro y3 y5 y6 b
   have:=yZv (g:=cfgN T n) (elt:=.var 6) (t:=.tup (.cons (.nm 7) (.cons (.nm 6) .nil))) (ifs:=.cons (.cmp .eq (.var 7) (.var 4)) .nil) (e:=[.val (.lst (ks.map kT)),s1,.val (.lst (acc.map prS)),y3,.val (.str c.k),y5,y6,.no,.no,.no]) kT (fun k=>flsD k.2) (fun k=>decide (k.1 = c.k)) ks (b:=b) (W:=W) (by unfold cap; omega) (fun k _=>⟨[.val (.lst (ks.map kT)),s1,.val (.lst (acc.map prS)),y3,.val (.str c.k),y5,.val (flsD k.2),.val (.str k.1),.no,.no],rfl,by
    clear ih hz
    by_cases e : k.1 = c.k
    ·rw [decide_eq_true e]
     walk_at "ev3"
    ·rw [decide_eq_false e]
     walk_at "ev3",fun _=>rfl⟩)
   rw [this,hfl]
   rfl
  have c2 : ∀ (y4 y5 : Slot) b,compR (cfgN T n) (.tup (.cons (.tup (.cons (.var 3) (.cons (.var 8) .nil))) (.cons (.var 9) .nil))) (.tup (.cons (.nm 8) (.cons (.nm 9) .nil))) .nil [.val (.lst (ks.map kT)),s1,.val (.lst (acc.map prS)),.val (.str c.nm),y4,y5,.val (flsD x.2),.no,.no,.no] (x.2.map flD,b) W = .ok ((cdS ks c).map prS) W:=by
   intro y4 y5 b
   rw [ecd,List.map_map]
   refine yZK flD _ x.2 (by unfold cap; omega) fun f _=>⟨[.val (.lst (ks.map kT)),s1,.val (.lst (acc.map prS)),.val (.str c.nm),y4,y5,.val (flsD x.2),.no,.val (.str f.1),.val (.int f.2)],rfl, ?_⟩
   clear ih hz c1
   show _ = R.ok (prS ((c.nm,f.1),f.2)) W
   simp only [prS,prD]
   walk_at "ev3"
  have hap : (acc ++ cdS ks c).map prS = acc.map prS ++ (cdS ks c).map prS:=by rw [List.map_append]
  have hl1 : (acc.map prS).length + ((cdS ks c).map prS).length ≤ 1000000:=by rw [List.length_map,List.length_map]; omega
  rw [hap]
  clear ih hz hap ecd ea hc hcl hx4 hk8 hfl hfs
  simp only [cdD,flsD] at *
  generalize acc.map prS = AC at *
  generalize (cdS ks c).map prS = CS at *
  generalize x.2.map flD = FS at *
  generalize ks.map kT = KS at *
  walk_at "ev3"
theorem zZFy (n : Nat) (ks : List Kd) (K : KsWF ks) (cs : List Cd) (d : D) (W : Wd) (hd : d = .tup (cs.map cdD) ∨ d = .lst (cs.map cdD)) (hc : ∀ c ∈ cs,c.k ∈ ks.map fun k=>k.1) (hl : cs.length ≤ 100) :
  (cfgN T (n + 1)).call zZB4 [.lst (ks.map kT),d] W = .ok (.lst ((allS ks cs).map prS)) W:=by
 obtain ⟨z3,z4,z5,z6,hz⟩:=zZIC n ks K W (.val d) cs [] .no .no .no .no hc (by simp; omega)
 rw [zZE (F:=zZAI) rfl]
 simp only [yZR,forsS,List.getD_cons_zero,List.map_nil,List.nil_append] at hz
 simp only [zZAI,yZR]
 generalize ks.map kT = KS at *
 generalize (allS ks cs).map prS = AS at *
 clear hc K
 rcases hd with rfl | rfl
 ·generalize cs.map cdD = CS at *
  walk_at "ev3"
 ·generalize cs.map cdD = CS at *
  walk_at "ev3"
theorem zZJp {tg : D → Option Env} {tst elt : Env → Wd → R D} {W W0 W1 W2 : Wd} {d x : D} {ds xs : List D} {e1 : Env} (h1 : tg d = some e1) (h2 : tst e1 W = .ok (.bl true) W0) (h3 : elt e1 W0 = .ok x W1) (h4 : compL tg tst elt ds W1 = .ok xs W2) :
  compL tg tst elt (d :: ds) W = .ok (x :: xs) W2:=by
 simp only [compL,h1,zZX,R.bind_ok,R.calm_ok,h2,h3,h4]
theorem zZKw {tg : D → Option Env} {tst elt : Env → Wd → R D} {W W0 W2 : Wd} {d : D} {ds xs : List D} {e1 : Env} (h1 : tg d = some e1) (h2 : tst e1 W = .ok (.bl false) W0) (h4 : compL tg tst elt ds W0 = .ok xs W2) :
  compL tg tst elt (d :: ds) W = .ok xs W2:=by
 simp only [compL,h1,zZX,R.bind_ok,R.calm_ok,h2,h4]
theorem KsWF.kok {ks : List Kd} (K : KsWF ks) : KindsOK ks:=⟨by have:=K.l.2; omega,fun k hk f hf=>zZBF ((K.k k hk).f f hf).1⟩
theorem KsWF.knd {ks : List Kd} (K : KsWF ks) : KindsND ks:=⟨fun k hk=>⟨(K.k k hk).nd,by have:=(K.k k hk).l; omega⟩⟩
structure CsWF (ks : List Kd) (cs : List Cd) : Prop where
 c : ∀ c ∈ cs,CardWF ks c
 l : 1 ≤ cs.length ∧ cs.length ≤ 3
 nd : (cs.map fun c=>c.nm).Nodup
theorem CsWF.ck {ks : List Kd} {cs : List Cd} (C : CsWF ks cs) : ∀ c ∈ cs,c.k ∈ ks.map fun k=>k.1:=fun c hc=>(C.c c hc).k
theorem CsWF.cok {ks : List Kd} {cs : List Cd} (K : KsWF ks) (C : CsWF ks cs) : CardsOK ks cs:=⟨by have:=C.l.2; omega,fun c hc=>by
 obtain ⟨x,hx,_,h,_⟩:=zZBz K (C.ck c hc)
 exact ⟨x,h,by have:=(K.k x hx).l; omega⟩,fun c hc=>zZBF (C.c c hc).nm⟩
theorem zZH5 (n p0 : Nat) (W0 : Wd) (ks : List Kd) (K : KsWF ks) : ∀ (ns : List Str) (acc : List Cd) (W : Wd) (z3 z7 : Slot),PoolK W0 W p0 → acc.length + ns.length ≤ 3 → (∀ w ∈ ns,isNm w = true) → (∀ c ∈ acc,CardWF ks c) → ∃ (cs : List Cd) (W' : Wd) (z3' z7' : Slot),cs.map (fun c=>c.nm) = acc.map (fun c=>c.nm) ++ ns ∧ (∀ c ∈ cs,CardWF ks c) ∧ PoolK W0 W' p0 ∧
  forL (tgD (.nm 3)) (exS (cfgN T (n + 3)) ((forsS zZW).getD 0 .skip)) (ns.map .str) [.val (.own p0),.val (.lst (ks.map kT)),.ol (acc.map cdD),z3,.no,.no,.no,z7,.no,.no,.no,.no,.no,.no,.no,.no] W = .ok (.nx [.val (.own p0),.val (.lst (ks.map kT)),.ol (cs.map cdD),z3',.no,.no,.no,z7',.no,.no,.no,.no,.no,.no,.no,.no]) W':=by
 simp only [zZW,forsS,List.getD_cons_zero]
 have hk:=K.l
 intro ns
 induction ns with
 | nil=>intro acc W z3 z7 hP _ _ ha; exact ⟨acc,W,z3,z7,by simp,ha,hP,rfl⟩
 | cons x ns ih =>
  intro acc W z3 z7 hP hl hn ha
  rw [List.length_cons] at hl
  obtain ⟨v,W1,d1,a1,b1,P1⟩:=zZq (n + 2) W0 W p0 (ks.length : Int) hP (by omega) (by omega)
  obtain ⟨v,rfl⟩:=Int.eq_ofNat_of_zero_le a1
  have hv : v < ks.length:=by omega
  have hat : atD (ks.map kT) (.int (v : Int)) = some (.tup [.str ks[v].1,flsD ks[v].2]):=yZF (by simp [hv,kT])
  have hkm : ks[v].1 ∈ ks.map fun k=>k.1:=List.mem_map_of_mem (List.getElem_mem hv)
  generalize ks[v] = kd at *
  obtain ⟨u,W2,d2,a2,b2,P2⟩:=zZq (n + 2) W0 W1 p0 3 P1 (by omega) (by omega)
  obtain ⟨u,rfl⟩:=Int.eq_ofNat_of_zero_le a2
  obtain ⟨l,W3,l1,l2,l3,P3,d3⟩:=zZBa n p0 (1 + u) W0 W2 P2 (by omega)
  have hc : CardWF ks ⟨x,kd.1,l⟩:=⟨hn x List.mem_cons_self,hkm,(by show 1 ≤ l.length ∧ l.length ≤ 3; omega),l2,l3⟩
  obtain ⟨cs,W',z3',z7',q1,q2,q3,q4⟩:=ih (acc ++ [⟨x,kd.1,l⟩]) W3 (.val (.str x)) (.val (.str kd.1)) P3 (by rw [List.length_append,List.length_singleton]; omega) (fun w hw=>hn w (List.mem_cons_of_mem _ hw)) (fun k hk2=>by
   rcases List.mem_append.mp hk2 with h | h
   ·exact ha k h
   ·rw [List.mem_singleton.mp h]; exact hc)
  refine ⟨cs,W',z3',z7',by rw [q1,List.map_append,List.append_assoc]; rfl,q2,q3, ?_⟩
  rw [List.map_cons,zZP]
  have hap : (acc ++ [(⟨x,kd.1,l⟩ : Cd)]).map cdD = acc.map cdD ++ [.tup [.str x,.str kd.1,.tup (l.map .str)]]:=by rw [List.map_append]; rfl
  have hlc : (acc.map cdD).length < 1000000:=by rw [List.length_map]; omega
  have e : ((1 : Int) + (u : Int)) = ((1 + u : Nat) : Int):=by omega
  have hkl : ((ks.map kT).length : Int) = (ks.length : Int):=by rw [List.length_map]
  rw [hap] at q4
  clear ih hP P1 P2 P3 hn ha hc q1 q2 q3 l1 l2 l3 hap hl hkm hk hv
  generalize acc.map cdD = AC at *
  generalize l.map D.str = LS at *
  walk_at "ev3"
theorem zZKi (n p0 : Nat) (W0 : Wd) (y1 y2 y3 y4 y5 y6 y7 y8 y9 y10 y11 y12 y13 y14 : Slot) : ∀ (k : Nat) (i : Int) (W : Wd),PoolK W0 W p0 → ∃ (ns : List Int) (W' : Wd),ns.length ≤ k ∧ (∀ x ∈ ns,i ≤ x ∧ x < i + k) ∧ ns.Pairwise (· < ·) ∧ PoolK W0 W' p0 ∧
  compL (fun d=>tgD (.nm 15) d [.val (.own p0),y1,y2,y3,y4,y5,y6,y7,y8,y9,y10,y11,y12,y13,y14,.no]) (evTs (cfgN T (n + 1)) (.cons (.cmp .eq (.call zZB (.cons (.var 0) (.cons (.int 3) .nil))) (.int 0)) .nil)) (evE (cfgN T (n + 1)) (.var 15)) (rangeD i k) W = .ok (ns.map .int) W':=by
 intro k
 induction k with
 | zero=>intro i W hP; exact ⟨[],W,by simp,by simp,by simp,hP,rfl⟩
 | succ k ih =>
  intro i W hP
  obtain ⟨v,W1,d1,a1,b1,P1⟩:=zZq n W0 W p0 3 hP (by omega) (by omega)
  obtain ⟨ns,W',h1,h2,h5,h3,h4⟩:=ih (i + 1) W1 P1
  by_cases hv : v = 0
  ·refine ⟨i :: ns,W',by simpa using h1,fun x hx => ?_,List.pairwise_cons.mpr ⟨fun y hy=>by have:=h2 y hy; omega,h5⟩,h3, ?_⟩
   ·rcases List.mem_cons.mp hx with rfl | hx
    ·omega
    ·have:=h2 x hx; omega
   ·rw [yZ8,List.map_cons]
    refine zZJp (e1:=[.val (.own p0),y1,y2,y3,y4,y5,y6,y7,y8,y9,y10,y11,y12,y13,y14,.val (.int i)]) (W0:=W1) (W1:=W1) rfl ?_ ?_ h4
    ·clear ih h4 hP P1
     walk_at "ev3"
    ·rfl
  ·refine ⟨ns,W',by omega,fun x hx=>(by have:=h2 x hx; omega),h5,h3, ?_⟩
   rw [yZ8]
   refine zZKw (e1:=[.val (.own p0),y1,y2,y3,y4,y5,y6,y7,y8,y9,y10,y11,y12,y13,y14,.val (.int i)]) (W0:=W1) rfl ?_ h4
   clear ih h4 hP P1
   walk_at "ev3"
theorem zZGx {p : Str × Str} (h : PySem.PyData.strOk p.1 = true ∧ PySem.PyData.strOk p.2 = true) (n : Nat) : nb (n + 1) (prD p) = true:=by
 have e : ∀ s : Str,PySem.PyData.strOk s = true → nb n (.str s) = true:=fun s hs=>by cases n <;> exact hs
 show [D.str p.1,.str p.2].all (nb n) = true
 simp only [List.all_cons,List.all_nil,e _ h.1,e _ h.2,Bool.and_self]
theorem zZMe {p q : Str × Str} (h : prD p = prD q) : p = q:=by
 obtain ⟨a,b⟩:=p
 obtain ⟨c,d⟩:=q
 simp only [prD,D.tup.injEq,List.cons.injEq,D.str.injEq,and_true] at h
 rw [h.1,h.2]
theorem zZNl {p q : Str × Str} (hp : PySem.PyData.strOk p.1 = true ∧ PySem.PyData.strOk p.2 = true) (hq : PySem.PyData.strOk q.1 = true ∧ PySem.PyData.strOk q.2 = true) : cmpD .ne (.tup [.str p.1,.str p.2]) (.tup [.str q.1,.str q.2]) = some (.bl (!decide (p = q))):=by
 show cmpD .ne (prD p) (prD q) = _
 rw [zZNm (zZGx hp 59) (zZGx hq 59)]
 have:=zZJa (zZGx hp 59) (zZGx hq 59)
 congr 3
 rw [Bool.eq_iff_iff,this,decide_eq_true_eq]
 exact ⟨zZMe,fun e=>by rw [e]⟩
local macro_rules | `(tactic| walk_at "ev4") => `(tactic| simp -implicitDefEqProofs (disch:=first | assumption | omega | (simp only [List.length_cons,List.length_nil,List.length_append,List.length_map]; done) | (simp only [List.length_cons,List.length_nil,List.length_append,List.length_map,limI,cap]; omega) | decide) only [yZS,zZAe,zZBE,zZEK,v_bl,zZDX,zZDv,zZDF,zZC6,zZC2,xZq,v_in,zZBC,v_eq,v_ne,v_lt,v_le,v_gt,v_ge,v_is,zZBB,
 zZEA,zZBA,zZDs,v_or,zZCZ,zZD7,zZCI,zZDc,zZDf,zZEI,zZEH,zZDh,v_sl,zZDU,zZAb,zZDr,zZBy,zZBu,zZCB,zZBf,zZBl,zZDu,zZAu,zZEC,zZDW,zZD6,zZD5,zZAi,zZAm,zZDy,zZDb,yZn,zZBt,yZ1,zZB9,zZAc,xZy,xZw,zZDM,zZDT,E.isVar,zZA3,xZT,zZAv,zZCa,zZA2,xZW,zZCU,
 v_of,zZD8,zZDV,zZB2,zZB0,zZDP,zZBk,zZAU,zZAz,zZAV,zZA8,yZ3,zZEE,zZA5,zZCH,xZ2,zZBw,zZDD,zZC7,zZAj,zZDp,zZt,zZCP,xZb,xZZ,zZA0,zZD3,xZu,yZj,zZBo,zZCY,zZCA,zZBg,zZBp,zZBv,zZCX,zZCd,xZ8,zZDt,xZr,zZCN,zZCF,
 zZAy,xZs,yZN,yZb,zZDE,zZCW,zZAp,zZAs,xZx,zZDI,zZDR,zZD4,zZBh,zZDJ,zZDK,c_lt,c_le,c_gt,c_ge,zZDd,zZDe,zZDB,zZD0,zZC8,zZDn,zZD1,zZDa,t_bl,zZDN,zZDm,zZDi,zZDG,zZDO,zZDY,zZC4,zZDx,yZC,yZt,zZED,zZCO,zZEG,zZEF,k_bl,
 zZCe,xZP,xZh,zZ1,zZA7,zZAa,zZAY,zZX,Option.bind_some,Option.map_some,List.getElem?_cons_zero,List.getElem?_cons_succ,List.set_cons_zero,List.set_cons_succ,List.map_cons,List.map_nil,List.length_cons,List.length_nil,List.cons_append,List.nil_append,List.replicate,
 decide_eq_true_eq,Int.reduceSub,Int.reduceAdd,Int.reduceNeg,Int.reduceLT,Int.reduceLE,Int.reduceEq,Nat.reduceAdd,Nat.reduceSub,List.getElem?_set,List.length_set,List.length_map,List.set_set,eq_self,Bool.false_eq_true,Int.reduceToNat,Int.toNat_natCast,Int.reducePow,Option.map_some,tyD,decide_true,decide_false,if_true,if_false,Bool.not_true,Bool.not_false,zZA9,zZAd,zZBx,xZg,zZCL,zZAS,yZ0,zZAL,zZAr,yZz,yZU,zZAg,zZAX,zZDg,zZAW,zZAf,xZQ,xZo,zZA1,yZs,zZBn,zZCS,zZAl,xZj,zZAt,yZi,zZAQ,Option.isNone_none,Option.isNone_some,Nat.reduceEqDiff,Nat.reduceLT,xZA,yZZ,zZCJ,zZAw,yZo,yZg,zZAx,zZAR,zZDw,zZAk,zZAZ,yZq,R.calm_ok,zZB3,zZDS,zZCV,zZAn,zZAO,zZDA,zZB8,yZh,yZl,zZCG,zZDC,zZDH,zZAT,zZAq,zZAN,zZAo,zZAP,zZBj,zZBe,xZO,xZ4,xZa,yZw,xZX,xZz,zZAK,xZe,zZCR,zZB7,yZx,yZr,yZX,v_gs,v_gk,zZEB,zZDo,zZDZ,zZB1,xZi,zZDQ,zZCQ,zZA6,zZBs,yZp,yZm,yZk,xZS,xZv,xZR,xZ1,xZt,xZV,xZk,xZn,xZ0,xZN,xZd,xZY,xZl,xZ3,xZc,xZf,xZm,zZDq,zZEJ,zZDL,zZDz,zZC1,zZCE,zZFt,zZEW,zZCw,zZEk,zZBm,zZCr,Option.map_some,cast0,cast1,cast2,cast3,cast4,cast5,List.append_nil,zZCc,zZ1,Int.zero_sub,s_te,s_tl,s_ta,s_ts,s_et,s_el,s_ea,s_es,s_lt,s_le,s_la,s_ls,s_at,s_ae,s_al,s_as,s_st,s_se,s_sl,s_sa,Option.isSome_none,Option.isSome_some,Bool.not_true,Bool.not_false,zZEn,zZEU,zZEZ,zZES,zZET,Bool.or_false,Bool.or_self,Bool.true_or,Bool.true_eq_false,List.flatten_cons,List.flatten_nil,List.append_nil, *])
theorem yZi {xs ys : List D} (h : xs.length + ys.length ≤ 1000000) : binD .add (.tup xs) (.tup ys) = some (.tup (xs ++ ys)):=if_pos h
def otS (p : Str × Str) (ps : List ((Str × Str) × Int)) : List (Str × Str):=(ps.filter fun x => !decide (x.1 = p)).map fun x=>x.1
theorem zZH0 (n : Nat) (p : Str × Str) (hp : PySem.PyData.strOk p.1 = true ∧ PySem.PyData.strOk p.2 = true) (ps : List ((Str × Str) × Int)) (hps : ∀ x ∈ ps,PySem.PyData.strOk x.1.1 = true ∧ PySem.PyData.strOk x.1.2 = true) (hl : ps.length ≤ 1000) (W : Wd) (y0 y1 y2 y3 y4 y5 y6 y7 y8 y9 y11 y12 y15 : Slot) (b : Bool) :
  compR (cfgN T n) (.var 13) (.tup (.cons (.nm 13) (.cons (.nm 14) .nil))) (.cons (.cmp .ne (.var 13) (.var 10)) .nil) [y0,y1,y2,y3,y4,y5,y6,y7,y8,y9,.val (.tup [.str p.1,.str p.2]),y11,y12,.no,.no,y15] (ps.map prS,b) W = .ok ((otS p ps).map prD) W:=by
 unfold otS
 rw [List.map_map]
 refine yZv prS _ (fun x => !decide (x.1 = p)) ps (by unfold cap; omega) fun x hx=>⟨[y0,y1,y2,y3,y4,y5,y6,y7,y8,y9,.val (.tup [.str p.1,.str p.2]),y11,y12,.val (prD x.1),.val (.int x.2),y15],rfl, ?_,fun _=>rfl⟩
 have:=zZNl (hps x hx) hp
 show evTs (cfgN T n) _ _ W = _
 simp only [prD]
 generalize (!decide (x.1 = p)) = B at *
 walk_at "ev4"
structure StepO (n p0 : Nat) (W0 : Wd) (ks : List Kd) (cs : List Cd) (acc : List Cq) (B : S) (z3 z6 z7 z8 z9 z10 z11 z12 : Slot) (W : Wd) : Prop where
 ex : ∃ (acc' : List Cq) (W' : Wd) (z8' z9' z10' z11' z12' : Slot),acc'.length ≤ acc.length + 1 ∧ (∀ c ∈ acc',CqWF ks cs c) ∧ PoolK W0 W' p0 ∧
  exS (cfgN T n) B [.val (.own p0),.val (.lst (ks.map kT)),.val (.lst (cs.map cdD)),z3,.ol (acc.map cqD),.val (.lst ((allS ks cs).map prS)),z6,z7,z8,z9,z10,z11,z12,.no,.no,.no] W =
   .ok (.nx [.val (.own p0),.val (.lst (ks.map kT)),.val (.lst (cs.map cdD)),z3,.ol (acc'.map cqD),.val (.lst ((allS ks cs).map prS)),z6,z7,z8',z9',z10',z11',z12',.no,.no,.no]) W'
theorem zZNO {ks : List Kd} {cs : List Cd} {acc : List Cq} {c : Cq} (ha : ∀ c ∈ acc,CqWF ks cs c) (hc : CqWF ks cs c) : ∀ x ∈ acc ++ [c],CqWF ks cs x:=fun x hx=>by
 rcases List.mem_append.mp hx with h | h
 ·exact ha x h
 ·rw [List.mem_singleton.mp h]; exact hc
theorem zZB5 {n p0 : Nat} {W0 : Wd} {ks : List Kd} {cs : List Cd} {acc : List Cq} {B : S} {z3 z6 z7 z8 z9 z10 z11 z12 : Slot} {W : Wd} (ha : ∀ c ∈ acc,CqWF ks cs c) (c : Cq) (W' : Wd) (y8 y9 y10 y11 y12 : Slot) (hc : CqWF ks cs c) (hP : PoolK W0 W' p0)
  (he : exS (cfgN T n) B [.val (.own p0),.val (.lst (ks.map kT)),.val (.lst (cs.map cdD)),z3,.ol (acc.map cqD),.val (.lst ((allS ks cs).map prS)),z6,z7,z8,z9,z10,z11,z12,.no,.no,.no] W =
   .ok (.nx [.val (.own p0),.val (.lst (ks.map kT)),.val (.lst (cs.map cdD)),z3,.ol (acc.map cqD ++ [cqD c]),.val (.lst ((allS ks cs).map prS)),z6,z7,y8,y9,y10,y11,y12,.no,.no,.no]) W') : StepO n p0 W0 ks cs acc B z3 z6 z7 z8 z9 z10 z11 z12 W :=
 ⟨⟨acc ++ [c],W',y8,y9,y10,y11,y12,by simp,zZNO ha hc,hP,by rw [List.map_append]; exact he⟩⟩
theorem zZK9 (n p0 : Nat) (W0 : Wd) (ks : List Kd) (K : KsWF ks) (cs : List Cd) (C : CsWF ks cs) (acc : List Cq) (hl : acc.length ≤ 100) (ha : ∀ c ∈ acc,CqWF ks cs c) (z3 z6 z7 z8 z9 z10 z11 z12 : Slot) (W : Wd) (hP : PoolK W0 W p0) :
  StepO (n + 1) p0 W0 ks cs acc ((forsS zZW).getD 1 .skip) z3 z6 z7 z8 z9 z10 z11 z12 W:=by
 simp only [zZW,forsS,List.getD_cons_zero,List.getD_cons_succ]
 have hlen:=zZFd K C.ck
 have hc3:=C.l.2
 cases hq : allS ks cs with
 | nil =>
  refine ⟨⟨acc,W,z8,z9,z10,z11,z12,by omega,ha,hP, ?_⟩⟩
  rw [hq]
  rw [List.map_nil]
  clear hP ha
  walk_at "ev4"
 | cons x0 xr =>
  have hpos : 0 < (allS ks cs).length:=by rw [hq]; simp
  clear hq
  have hall : ∀ x ∈ allS ks cs,PySem.PyData.strOk x.1.1 = true ∧ PySem.PyData.strOk x.1.2 = true:=fun x hx=>zZF5 K.kok (C.cok K) x.1 (zZD9 K C.ck C.nd hx).1
  obtain ⟨v,W1,d1,a1,b1,P1⟩:=zZq n W0 W p0 ((allS ks cs).length : Int) hP (by omega) (by omega)
  obtain ⟨v,rfl⟩:=Int.eq_ofNat_of_zero_le a1
  have hv : v < (allS ks cs).length:=by omega
  have hx:=List.getElem_mem hv
  have hat : atD ((allS ks cs).map prS) (.int (v : Int)) = some (prS (allS ks cs)[v]):=yZF (by simp [hv])
  generalize (allS ks cs)[v] = x at *
  obtain ⟨p,z⟩:=x
  obtain ⟨m1,m2,m3,m4⟩:=zZD9 K C.ck C.nd hx
  obtain ⟨w,W2,d2,a2,b2,P2⟩:=zZq n W0 W1 p0 5 P1 (by omega) (by omega)
  have hoth:=zZH0 (n + 1) p (hall (p,z) hx) (allS ks cs) hall (by omega) W2
  have hotm : ∀ q ∈ otS p (allS ks cs),q ∈ allP ks cs ∧ q ≠ p:=fun q hq=>by
   obtain ⟨y,hy,rfl⟩:=List.mem_map.mp hq
   obtain ⟨y1,y2⟩:=List.mem_filter.mp hy
   exact ⟨(zZD9 K C.ck C.nd (p:=y.1) (z:=y.2) y1).1,by simpa using y2⟩
  have hotl : (otS p (allS ks cs)).length ≤ (allS ks cs).length:=by unfold otS; rw [List.length_map]; exact List.length_filter_le _ _
  have hln : (((allS ks cs).map prS).length : Int) = ((allS ks cs).length : Int):=by rw [List.length_map]
  have hlq : 0 < ((allS ks cs).length : Int):=by omega
  have hacl : (acc.map cqD).length < 1000000:=by rw [List.length_map]; omega
  by_cases w4 : w = 4 ∧ 0 < ((otS p (allS ks cs)).length : Int)
  ·obtain ⟨rfl,ho⟩:=w4
   obtain ⟨u,W3,d3,a3,b3,P3⟩:=zZq n W0 W2 p0 ((otS p (allS ks cs)).length : Int) P2 ho (by omega)
   obtain ⟨u,rfl⟩:=Int.eq_ofNat_of_zero_le a3
   have hu : u < (otS p (allS ks cs)).length:=by omega
   have hqm:=List.getElem_mem hu
   have hat2 : atD ((otS p (allS ks cs)).map prD) (.int (u : Int)) = some (prD (otS p (allS ks cs))[u]):=yZF (by simp [hu])
   have hol : (((otS p (allS ks cs)).map prD).length : Int) = ((otS p (allS ks cs)).length : Int):=by rw [List.length_map]
   generalize (otS p (allS ks cs))[u] = q at *
   obtain ⟨q1,q2⟩:=hotm q hqm
   refine zZB5 ha (.same p q) W3 (.val (.int 4)) (.val (.lst ((otS p (allS ks cs)).map prD))) (.val (.tup [.str p.1,.str p.2])) (.val (.int z)) z12 ⟨m1,q1,q2⟩ P3 ?_
   have hb1 : binD .add (.tup [.str "same"]) (.tup [.str p.1,.str p.2]) = some (.tup [.str "same",.str p.1,.str p.2]):=rfl
   have hb2 : binD .add (.tup [.str "same",.str p.1,.str p.2]) (.tup [.str q.1,.str q.2]) = some (.tup [.str "same",.str p.1,.str p.2,.str q.1,.str q.2]):=rfl
   clear hotm hall ha hP P1 P2 P3 hqm hx q1 q2 m1 m2 m3 m4 K C hotl hlen
   simp only [cqD,prS,prD] at *
   generalize acc.map cqD = AC at *
   generalize ((allS ks cs).map fun x=>D.tup [.tup [.str x.1.1,.str x.1.2],.int x.2]) = PS at *
   walk_at "ev4"
  ·have hol : (((otS p (allS ks cs)).map prD).length : Int) = ((otS p (allS ks cs)).length : Int):=by rw [List.length_map]
   have hb0 : ∀ s : Str,binD .add (.tup [.str s]) (.tup [.str p.1,.str p.2]) = some (.tup [.str s,.str p.1,.str p.2]):=fun s=>rfl
   have hb2 : ∀ (s : Str) (d : D),binD .add (.tup [.str s,.str p.1,.str p.2]) (.tup [d]) = some (.tup [.str s,.str p.1,.str p.2,d]):=fun s d=>rfl
   have hneg : (w = 4 ∧ (otS p (allS ks cs)).length = 0) ∨ w ≠ 4:=by
    by_cases h : w = 4
    ·exact .inl ⟨h,by
      have : ¬ 0 < ((otS p (allS ks cs)).length : Int):=fun z=>w4 ⟨h,z⟩
      omega⟩
    ·exact .inr h
   by_cases w3 : w = 3
   ·subst w3
    obtain ⟨vs,W3,v1,v2,v3,P3,d3⟩:=zZKi n p0 W0 (.val (.lst (ks.map kT))) (.val (.lst (cs.map cdD))) z3 (.ol (acc.map cqD)) (.val (.lst ((allS ks cs).map prS))) z6 z7 (.val (.int 3)) (.val (.lst ((otS p (allS ks cs)).map prD))) (.val (.tup [.str p.1,.str p.2])) (.val (.int z)) z12 .no .no z.toNat 0 W2 P2
    have hcomp : ∀ b,compR (cfgN T (n + 1)) (.var 15) (.nm 15) (.cons (.cmp .eq (.call zZB (.cons (.var 0) (.cons (.int 3) .nil))) (.int 0)) .nil) [.val (.own p0),.val (.lst (ks.map kT)),.val (.lst (cs.map cdD)),z3,.ol (acc.map cqD),.val (.lst ((allS ks cs).map prS)),z6,z7,.val (.int 3),.val (.lst ((otS p (allS ks cs)).map prD)),.val (.tup [.str p.1,.str p.2]),.val (.int z),z12,.no,.no,.no] (rangeD 0 z.toNat,b) W2 = .ok (vs.map .int) W3:=fun b=>by
     rw [zZC3 (by rw [zZJT]; unfold cap; omega)]
     exact d3
    by_cases hv0 : vs = []
    ·subst hv0
     refine zZB5 ha (.among p [z - 1]) W3 (.val (.int 3)) (.val (.lst ((otS p (allS ks cs)).map prD))) (.val (.tup [.str p.1,.str p.2])) (.val (.int z)) (.val (.lst [.int (z - 1)])) ⟨m1,by simp,by simp,fun v hv=>by rw [List.mem_singleton] at hv; subst hv; omega,by omega⟩ P3 ?_
     have hg : -4611686018427387904 ≤ z ∧ z < 4611686018427387904:=by omega
     clear hotm hall ha hP P1 P2 P3 hx m1 m2 m3 m4 K C hotl hlen d3 v1 v2 v3 hneg
     simp only [cqD,prS,prD,List.map_cons,List.map_nil] at *
     generalize acc.map cqD = AC at *
     generalize ((allS ks cs).map fun x=>D.tup [.tup [.str x.1.1,.str x.1.2],.int x.2]) = PS at *
     walk_at "ev4"
    ·refine zZB5 ha (.among p vs) W3 (.val (.int 3)) (.val (.lst ((otS p (allS ks cs)).map prD))) (.val (.tup [.str p.1,.str p.2])) (.val (.int z)) (.val (.lst (vs.map .int))) ⟨m1,hv0,v3,fun v hv=>by have:=v2 v hv; omega,by omega⟩ P3 ?_
     have hg : -4611686018427387904 ≤ z ∧ z < 4611686018427387904:=by omega
     have hvl : (vs.map D.int).length ≤ 1000:=by rw [List.length_map]; omega
     have hvp : ¬ (((vs.map D.int).length : Int) = 0):=by
      rw [List.length_map]
      intro h
      exact hv0 (List.length_eq_zero_iff.mp (by omega))
     clear hotm hall ha hP P1 P2 P3 hx m1 m2 m3 m4 K C hotl hlen d3 v1 v2 v3 hneg hv0
     simp only [cqD,prS,prD] at *
     generalize acc.map cqD = AC at *
     generalize vs.map D.int = VS at *
     generalize ((allS ks cs).map fun x=>D.tup [.tup [.str x.1.1,.str x.1.2],.int x.2]) = PS at *
     walk_at "ev4"
   ·by_cases w0 : 0 < w
    ·obtain ⟨u,W3,d3,a3,b3,P3⟩:=zZq n W0 W2 p0 z P2 (by omega) (by omega)
     have hwd : ∃ s : Str,(s = "equal" ∨ s = "least") ∧ atD [.str "equal",.str "least"] (.int (w % 2)) = some (.str s):=by
      rcases (by omega : w % 2 = 0 ∨ w % 2 = 1) with h | h
      ·rw [h]; exact ⟨_,.inl rfl,rfl⟩
      ·rw [h]; exact ⟨_,.inr rfl,rfl⟩
     obtain ⟨s,hs,hsat⟩:=hwd
     refine zZB5 ha (.num s p u) W3 (.val (.int w)) (.val (.lst ((otS p (allS ks cs)).map prD))) (.val (.tup [.str p.1,.str p.2])) (.val (.int z)) z12 ⟨hs,m1,a3,by omega,by omega⟩ P3 ?_
     clear hotm hall ha hP P1 P2 P3 hx m1 m2 m3 m4 K C hotl hlen hs
     simp only [cqD,prS,prD] at *
     generalize acc.map cqD = AC at *
     generalize ((allS ks cs).map fun x=>D.tup [.tup [.str x.1.1,.str x.1.2],.int x.2]) = PS at *
     rcases hneg with ⟨rfl,h0⟩ | hneg
     ·have h0' : (((otS p (allS ks cs)).map fun p=>D.tup [.str p.1,.str p.2]).length : Int) = 0:=by rw [List.length_map]; omega
      walk_at "ev4"
     ·walk_at "ev4"
    ·have hw0 : w = 0:=by omega
     subst hw0
     refine zZB5 ha (.tell p) W2 (.val (.int 0)) (.val (.lst ((otS p (allS ks cs)).map prD))) (.val (.tup [.str p.1,.str p.2])) (.val (.int z)) z12 m1 P2 ?_
     clear hotm hall ha hP P1 P2 hx m1 m2 m3 m4 K C hotl hlen
     simp only [cqD,prS,prD] at *
     generalize acc.map cqD = AC at *
     generalize ((allS ks cs).map fun x=>D.tup [.tup [.str x.1.1,.str x.1.2],.int x.2]) = PS at *
     walk_at "ev4"
theorem zZIB (n p0 : Nat) (W0 : Wd) (ks : List Kd) (K : KsWF ks) (cs : List Cd) (C : CsWF ks cs) (z3 z7 : Slot) : ∀ (k : Nat) (i : Int) (acc : List Cq) (W : Wd) (z6 z8 z9 z10 z11 z12 : Slot),PoolK W0 W p0 → acc.length + k ≤ 100 → (∀ c ∈ acc,CqWF ks cs c) → ∃ (cn : List Cq) (W' : Wd) (z6' z8' z9' z10' z11' z12' : Slot),cn.length ≤ acc.length + k ∧ (∀ c ∈ cn,CqWF ks cs c) ∧ PoolK W0 W' p0 ∧
  forL (tgD (.nm 6)) (exS (cfgN T (n + 1)) ((forsS zZW).getD 1 .skip)) (rangeD i k) [.val (.own p0),.val (.lst (ks.map kT)),.val (.lst (cs.map cdD)),z3,.ol (acc.map cqD),.val (.lst ((allS ks cs).map prS)),z6,z7,z8,z9,z10,z11,z12,.no,.no,.no] W =
   .ok (.nx [.val (.own p0),.val (.lst (ks.map kT)),.val (.lst (cs.map cdD)),z3,.ol (cn.map cqD),.val (.lst ((allS ks cs).map prS)),z6',z7,z8',z9',z10',z11',z12',.no,.no,.no]) W':=by
 intro k
 induction k with
 | zero=>intro i acc W z6 z8 z9 z10 z11 z12 hP _ ha; exact ⟨acc,W,z6,z8,z9,z10,z11,z12,by omega,ha,hP,rfl⟩
 | succ k ih =>
  intro i acc W z6 z8 z9 z10 z11 z12 hP hl ha
  obtain ⟨a1,W1,y8,y9,y10,y11,y12,s1,s2,s3,s4⟩:=(zZK9 n p0 W0 ks K cs C acc (by omega) ha z3 (.val (.int i)) z7 z8 z9 z10 z11 z12 W hP).ex
  obtain ⟨cn,W',z6',z8',z9',z10',z11',z12',q1,q2,q3,q4⟩:=ih (i + 1) a1 W1 (.val (.int i)) y8 y9 y10 y11 y12 s3 (by omega) s2
  refine ⟨cn,W',z6',z8',z9',z10',z11',z12',by omega,q2,q3, ?_⟩
  rw [yZ8,zZP]
  generalize (forsS zZW).getD 1 .skip = B at *
  clear ih ha s1 s2 s3 q1 q2 q3 hP
  walk_at "ev4"
def polD (cs : List Cd) (cn : List Cq) : D:=.tup [.tup (cs.map cdD),.tup (cn.map cqD)]
theorem zZE4 (n p0 : Nat) (W0 W : Wd) (ks : List Kd) (K : KsWF ks) (hP : PoolK W0 W p0) : ∃ (cs : List Cd) (cn : List Cq) (W' : Wd),PolWF ks cs cn ∧ PoolK W0 W' p0 ∧ (cfgN T (n + 4)).call zZBZ [.own p0,.lst (ks.map kT)] W = .ok (polD cs cn) W':=by
 obtain ⟨v,W1,d1,a1,b1,P1⟩:=zZq (n + 2) W0 W p0 3 hP (by omega) (by omega)
 obtain ⟨v,rfl⟩:=Int.eq_ofNat_of_zero_le a1
 obtain ⟨l,W2,l1,l2,l3,P2,d2⟩:=zZBa n p0 (1 + v) W0 W1 P1 (by omega)
 obtain ⟨cs,W3,z3,z7,c1,c2,P3,d3⟩:=zZH5 n p0 W0 ks K l [] W2 .no .no P2 (by simp; omega) l2 (fun c h=>by cases h)
 rw [List.map_nil,List.nil_append] at c1
 have hcl : cs.length = l.length:=by rw [← c1,List.length_map]
 have C : CsWF ks cs:=⟨c2,by omega,by rw [c1]; exact l3⟩
 have hp:=zZFy (n + 2) ks K cs (.lst (cs.map cdD)) W3 (.inr rfl) C.ck (by have:=C.l.2; omega)
 obtain ⟨u,W4,d4,a4,b4,P4⟩:=zZq (n + 2) W0 W3 p0 7 P3 (by omega) (by omega)
 obtain ⟨u,rfl⟩:=Int.eq_ofNat_of_zero_le a4
 obtain ⟨cn,W',z6,z8,z9,z10,z11,z12,q1,q2,q3,q4⟩:=zZIB (n + 2) p0 W0 ks K cs C z3 z7 u 0 [] W4 .no .no .no .no .no .no P4 (by simp; omega) (fun c h=>by cases h)
 refine ⟨cs,cn,W',⟨C.c,C.l,C.nd,by simp at q1; omega,q2⟩,q3, ?_⟩
 rw [zZE (F:=xZF) rfl]
 simp only [zZW,forsS,List.getD_cons_zero,List.getD_cons_succ,List.map_nil] at d3 q4
 simp only [xZF,zZW,polD]
 have e : ((1 : Int) + (v : Int)) = ((1 + v : Nat) : Int):=by omega
 have hg : -4611686018427387904 ≤ (u : Int) ∧ (u : Int) < 4611686018427387904:=by omega
 clear hP P1 P2 P3 P4 l2 l3 l1 c1 c2 C q1 q2 q3 K hcl
 generalize l.map D.str = LS at *
 generalize cs.map cdD = CS at *
 generalize cn.map cqD = CN at *
 generalize (allS ks cs).map prS = PS at *
 generalize ks.map kT = KS at *
 walk_at "ev4"
theorem zZJC (xs : List D) (k : Nat) : cutD xs (some (k : Int)) none = xs.drop k:=by
 unfold cutD
 rw [HT.sIx_nat,HT.sIx_none]
 rcases Nat.le_total k xs.length with h | h
 ·rw [Nat.min_eq_left h,List.take_of_length_le (by rw [List.length_drop]; omega)]
 ·rw [Nat.min_eq_right h,List.drop_eq_nil_of_le (Nat.le_refl _),List.drop_eq_nil_of_le h,List.take_nil]
theorem zZM0 (a b c : D) (r : List D) : cutD (a :: b :: c :: r) none (some 3) = [a,b,c]:=(zZKe (a :: b :: c :: r) 3).trans rfl
theorem zZNG (a b c : D) (r : List D) : cutD (a :: b :: c :: r) (some 3) none = r:=(zZJC (a :: b :: c :: r) 3).trans rfl
local macro_rules | `(tactic| walk_at "ev5") => `(tactic| simp -implicitDefEqProofs (disch:=first | assumption | omega | (simp only [List.length_cons,List.length_nil,List.length_append,List.length_map]; done) | (simp only [List.length_cons,List.length_nil,List.length_append,List.length_map,limI,cap]; omega) | decide) only [yZS,zZAe,zZBE,zZEK,v_bl,zZDX,zZDv,zZDF,zZC6,zZC2,xZq,v_in,zZBC,v_eq,v_ne,v_lt,v_le,v_gt,v_ge,v_is,zZBB,
 zZEA,zZBA,zZDs,v_or,zZCZ,zZD7,zZCI,zZDc,zZDf,zZEI,zZEH,zZDh,v_sl,zZDU,zZAb,zZDr,zZBy,zZBu,zZCB,zZBf,zZBl,zZDu,zZAu,zZEC,zZDW,zZD6,zZD5,zZAi,zZAm,zZDy,zZDb,yZn,zZBt,yZ1,zZB9,zZAc,xZy,xZw,zZDM,zZDT,E.isVar,zZA3,xZT,zZAv,zZCa,zZA2,xZW,zZCU,
 v_of,zZD8,zZDV,zZB2,zZB0,zZDP,zZBk,zZAU,zZAz,zZAV,zZA8,yZ3,zZEE,zZA5,zZCH,xZ2,zZBw,zZDD,zZC7,zZAj,zZDp,zZt,zZCP,xZb,xZZ,zZA0,zZD3,xZu,yZj,zZBo,zZCY,zZCA,zZBg,zZBp,zZBv,zZCX,zZCd,xZ8,zZDt,xZr,zZCN,zZCF,
 zZAy,xZs,yZN,yZb,zZDE,zZCW,zZAp,zZAs,xZx,zZDI,zZDR,zZD4,zZBh,zZDJ,zZDK,c_lt,c_le,c_gt,c_ge,zZDd,zZDe,zZDB,zZD0,zZC8,zZDn,zZD1,zZDa,t_bl,zZDN,zZDm,zZDi,zZDG,zZDO,zZDY,zZC4,zZDx,yZC,yZt,zZED,zZCO,zZEG,zZEF,k_bl,
 zZCe,xZP,xZh,zZ1,zZA7,zZAa,zZAY,zZX,Option.bind_some,Option.map_some,List.getElem?_cons_zero,List.getElem?_cons_succ,List.set_cons_zero,List.set_cons_succ,List.map_cons,List.map_nil,List.length_cons,List.length_nil,List.cons_append,List.nil_append,List.replicate,
 decide_eq_true_eq,Int.reduceSub,Int.reduceAdd,Int.reduceNeg,Int.reduceLT,Int.reduceLE,Int.reduceEq,Nat.reduceAdd,Nat.reduceSub,List.getElem?_set,List.length_set,List.length_map,List.set_set,eq_self,Bool.false_eq_true,Int.reduceToNat,Int.toNat_natCast,Int.reducePow,Option.map_some,tyD,decide_true,decide_false,if_true,if_false,Bool.not_true,Bool.not_false,zZA9,zZAd,zZBx,xZg,zZCL,zZAS,yZ0,zZAL,zZAr,yZz,yZU,zZAg,zZAX,zZDg,zZAW,zZAf,xZQ,xZo,zZA1,yZs,zZBn,zZCS,zZAl,xZj,zZAt,yZi,zZAQ,Option.isNone_none,Option.isNone_some,Nat.reduceEqDiff,Nat.reduceLT,xZA,yZZ,zZCJ,zZAw,yZo,yZg,zZAx,zZAR,zZDw,zZAk,zZAZ,yZq,R.calm_ok,zZB3,zZDS,zZCV,zZAn,zZAO,zZDA,zZB8,yZh,yZl,zZCG,zZDC,zZDH,zZAT,zZAq,zZAN,zZAo,zZAP,zZBj,zZBe,xZO,xZ4,xZa,yZw,xZX,xZz,zZAK,xZe,zZCR,zZB7,yZx,yZr,yZX,v_gs,v_gk,zZEB,zZDo,zZDZ,zZB1,xZi,zZDQ,zZCQ,zZA6,zZBs,yZp,yZm,yZk,xZS,xZv,xZR,xZ1,xZt,xZV,xZk,xZn,xZ0,xZN,xZd,xZY,xZl,xZ3,xZc,xZf,xZm,zZDq,zZEJ,zZDL,zZDz,zZC1,zZCE,zZFt,zZEW,zZCw,zZEk,zZBm,zZCr,Option.map_some,cast0,cast1,cast2,cast3,cast4,cast5,List.append_nil,zZCc,zZ1,Int.zero_sub,s_te,s_tl,s_ta,s_ts,s_et,s_el,s_ea,s_es,s_lt,s_le,s_la,s_ls,s_at,s_ae,s_al,s_as,s_st,s_se,s_sl,s_sa,Option.isSome_none,Option.isSome_some,Bool.not_true,Bool.not_false,zZEn,zZEU,zZEZ,zZES,zZET,Bool.or_false,Bool.or_self,Bool.true_or,Bool.true_eq_false,List.append_nil,zZM0,zZNG, *])
theorem zZKS (n : Nat) (W : Wd) (y0 y2 : Slot) : ∀ (l : List Cd) (acc : List Str) (z3 z4 z5 : Slot),(∀ c ∈ l,c.ns.length ≤ 10) → acc.length + 14 * l.length ≤ 10000 → ∃ z3' z4' z5',
  forL (tgD (.tup (.cons (.nm 3) (.cons (.nm 4) (.cons (.nm 5) .nil))))) (exS (cfgN T n) ((forsS zZy).getD 0 .skip)) (l.map cdD) [y0,.ol (acc.map .str),y2,z3,z4,z5,.no] W =
   .ok (.nx [y0,.ol ((acc ++ l.flatMap cardW).map .str),y2,z3',z4',z5',.no]) W:=by
 simp only [zZy,forsS,List.getD_cons_zero]
 intro l
 induction l with
 | nil=>intro acc z3 z4 z5 _ _; exact ⟨z3,z4,z5,by simp only [List.map_nil,List.flatMap_nil,List.append_nil]; rfl⟩
 | cons c l ih =>
  intro acc z3 z4 z5 hl hb
  rw [List.length_cons] at hb
  have hns:=hl c List.mem_cons_self
  have hcw : (cardW c).length = 4 + c.ns.length:=by simp [cardW]; omega
  obtain ⟨y3,y4,y5,hz⟩:=ih (acc ++ cardW c) (.val (.str c.nm)) (.val (.str c.k)) (.val (.tup (c.ns.map .str))) (fun x hx=>hl x (List.mem_cons_of_mem _ hx)) (by rw [List.length_append,hcw]; omega)
  refine ⟨y3,y4,y5, ?_⟩
  have e : (acc ++ cardW c).map D.str = (acc.map D.str ++ [.str "card",.str c.nm,.str c.k,.str "from"]) ++ c.ns.map D.str:=by
   rw [List.map_append,List.append_assoc]
   rfl
  rw [List.flatMap_cons,← List.append_assoc,← hz,List.map_cons,zZP,e]
  have h1 : (acc.map D.str).length + 4 ≤ 1000000:=by rw [List.length_map]; omega
  have h2 : (acc.map D.str ++ [D.str "card",D.str c.nm,D.str c.k,D.str "from"]).length + (c.ns.map D.str).length ≤ cap:=by simp only [List.length_append,List.length_cons,List.length_nil,List.length_map]; unfold cap; omega
  clear ih hz hl hb e hcw hns
  simp only [cdD]
  generalize acc.map D.str = AC at *
  generalize c.ns.map D.str = NS at *
  walk_at "ev5"
theorem zZLM (n : Nat) (W : Wd) (ks : List Kd) (cs : List Cd) (y0 y3 y4 y5 : Slot) : ∀ (l : List Cq) (acc : List Str) (z2 : Slot),(∀ c ∈ l,CqWF ks cs c ∧ (condW c).length ≤ 110) → acc.length + 110 * l.length ≤ 10000 → ∃ z2',
  forL (tgD (.nm 2)) (exS (cfgN T n) ((forsS zZy).getD 1 .skip)) (l.map cqD) [y0,.ol (acc.map .str),z2,y3,y4,y5,.no] W =
   .ok (.nx [y0,.ol ((acc ++ l.flatMap condW).map .str),z2',y3,y4,y5,.no]) W:=by
 simp only [zZy,forsS,List.getD_cons_zero,List.getD_cons_succ]
 intro l
 induction l with
 | nil=>intro acc z2 _ _; exact ⟨z2,by simp only [List.map_nil,List.flatMap_nil,List.append_nil]; rfl⟩
 | cons c l ih =>
  intro acc z2 hl hb
  rw [List.length_cons] at hb
  obtain ⟨hc,hcl⟩:=hl c List.mem_cons_self
  obtain ⟨y2,hz⟩:=ih (acc ++ condW c) (.val (cqD c)) (fun x hx=>hl x (List.mem_cons_of_mem _ hx)) (by rw [List.length_append]; omega)
  refine ⟨y2, ?_⟩
  rw [List.flatMap_cons,← List.append_assoc,← hz,List.map_cons,zZP]
  have h1 : (acc.map D.str).length + 10 ≤ 1000000:=by rw [List.length_map]; omega
  clear ih hz
  cases c with
  | tell p =>
   have e : (acc ++ condW (.tell p)).map D.str = acc.map D.str ++ [.str "tell",.str p.1,.str p.2]:=by
    rw [List.map_append]; rfl
   rw [e]
   clear hl hc
   simp only [cqD]
   generalize acc.map D.str = AC at *
   walk_at "ev5"
  | num w p v =>
   obtain ⟨hw,_,v0,v1,v2⟩:=hc
   have hcv : conv .str (.int v) = some (.str (numZ v)):=zZE0 ⟨v0,by omega⟩
   have e : (acc ++ condW (.num w p v)).map D.str = acc.map D.str ++ [.str w,.str p.1,.str p.2] ++ [.str (numZ v)]:=by
    rw [List.map_append,List.append_assoc]; rfl
   rw [e]
   clear hl
   simp only [cqD]
   generalize acc.map D.str = AC at *
   rcases hw with rfl | rfl
   ·walk_at "ev5"
   ·walk_at "ev5"
  | same p q =>
   have e : (acc ++ condW (.same p q)).map D.str = acc.map D.str ++ [.str "same",.str p.1,.str p.2] ++ [.str q.1,.str q.2]:=by
    rw [List.map_append,List.append_assoc]; rfl
   rw [e]
   clear hl hc
   simp only [cqD]
   generalize acc.map D.str = AC at *
   walk_at "ev5"
  | among p vs =>
   have e : (acc ++ condW (.among p vs)).map D.str = acc.map D.str ++ [.str "among",.str p.1,.str p.2] ++ (vs.map fun v=>D.str (numZ v)):=by
    rw [List.map_append,List.append_assoc]
    simp only [condW,List.map_cons,List.map_nil,List.cons_append,List.nil_append,List.map_map]
    rfl
   have hvl : vs.length ≤ 110:=by simp only [condW,List.length_append,List.length_map,List.length_cons,List.length_nil] at hcl; omega
   rw [e]
   obtain ⟨_,_,_,hv,hsz⟩:=hc
   have hcomp : ∀ (y0 y1 y2 y3 y4 y5 : Slot) (b : Bool),compR (cfgN T n) (.b1 .str (.var 6)) (.nm 6) .nil [y0,y1,y2,y3,y4,y5,.no] (vs.map D.int,b) W = .ok (vs.map fun v=>D.str (numZ v)) W:=by
    intro y0 y1 y2 y3 y4 y5 b
    refine yZK D.int (fun v=>.str (numZ v)) vs (by unfold cap; omega) fun v hv'=>⟨_,rfl, ?_⟩
    have hcv : conv .str (.int v) = some (.str (numZ v)):=zZE0 ⟨(hv v hv').1,by have:=(hv v hv').2; omega⟩
    show evE _ _ [y0,y1,y2,y3,y4,y5,.val (.int v)] W = _
    clear hl hb e hv hv'
    walk_at "ev5"
   have h2 : (acc.map D.str).length + 10 + (vs.map fun v=>D.str (numZ v)).length ≤ 1000000:=by rw [List.length_map,List.length_map]; omega
   clear hl hb e hv hcl hvl
   simp only [cqD]
   generalize acc.map D.str = AC at *
   generalize (vs.map fun v=>D.str (numZ v)) = NS at *
   generalize vs.map D.int = VS at *
   walk_at "ev5"
theorem zZF6 : ∀ (vs : List Int) (lo : Int),vs.Pairwise (· < ·) → (∀ v ∈ vs,lo ≤ v ∧ v < 100) → 0 ≤ lo → (vs.length : Int) ≤ max 0 (100 - lo)
 | [],lo,_,_,_=>by simp; omega
 | v :: vs,lo,h,hv,h0=>by
  have h1:=hv v List.mem_cons_self
  obtain ⟨h2,h3⟩:=List.pairwise_cons.mp h
  have:=zZF6 vs (v + 1) h3 (fun x hx=>⟨by have:=h2 x hx; omega,(hv x (List.mem_cons_of_mem _ hx)).2⟩) (by omega)
  rw [List.length_cons]
  omega
theorem zZGo {ks : List Kd} {cs : List Cd} {c : Cq} (C : CqWF ks cs c) : (condW c).length ≤ 110:=by
 cases c with
 | tell p=>show 3 ≤ 110; omega
 | num w p v=>show 4 ≤ 110; omega
 | same p q=>show 5 ≤ 110; omega
 | among p vs =>
  obtain ⟨_,_,h1,h2,h3⟩:=C
  have:=zZF6 vs 0 h1 (fun v hv=>⟨(h2 v hv).1,by have:=(h2 v hv).2; omega⟩) (by omega)
  simp only [condW,List.length_append,List.length_map,List.length_cons,List.length_nil]
  omega
theorem zZIy (n : Nat) (W : Wd) (ks : List Kd) (cs : List Cd) (cn : List Cq) (P : PolWF ks cs cn) : (cfgN T (n + 1)).call zZEg [polD cs cn] W = .ok (.lst ((polW cs cn).map .str)) W:=by
 have hl:=P.l
 have hn:=P.nl
 have hcw : ∀ l : List Cd,(∀ c ∈ l,CardWF ks c) → (l.flatMap cardW).length ≤ 14 * l.length:=by
  intro l
  induction l with
  | nil=>intro _; simp
  | cons c l ih =>
   intro h
   have:=ih fun x hx=>h x (List.mem_cons_of_mem _ hx)
   have h2:=(h c List.mem_cons_self).l
   rw [List.flatMap_cons,List.length_append,List.length_cons]
   have : (cardW c).length = 4 + c.ns.length:=by simp [cardW]; omega
   omega
 have hcl:=hcw cs P.c
 obtain ⟨z3,z4,z5,h1⟩:=zZKS n W (.val (polD cs cn)) .no cs [] .no .no .no (fun c hc=>by have:=(P.c c hc).l; omega) (by simp; omega)
 obtain ⟨z2,h2⟩:=zZLM n W ks cs (.val (polD cs cn)) z3 z4 z5 cn (cs.flatMap cardW) .no (fun c hc=>⟨P.k c hc,zZGo (P.k c hc)⟩) (by omega)
 have e : polW cs cn = cs.flatMap cardW ++ cn.flatMap condW:=rfl
 rw [e]
 rw [zZE (F:=zZAD) rfl]
 simp only [zZy,forsS,List.getD_cons_zero,List.getD_cons_succ,List.map_nil,List.nil_append,polD] at h1 h2
 simp only [zZAD,zZy,polD]
 clear hcw hcl hl hn P e
 generalize (cs.flatMap cardW ++ cn.flatMap condW).map D.str = R1 at *
 generalize (cs.flatMap cardW).map D.str = R2 at *
 generalize cs.map cdD = CS at *
 generalize cn.map cqD = CN at *
 walk_at "ev5"
local macro_rules | `(tactic| walk_at "ev6") => `(tactic| simp -implicitDefEqProofs (disch:=first | assumption | omega | (simp only [List.length_cons,List.length_nil,List.length_append,List.length_map]; done) | (simp only [List.length_cons,List.length_nil,List.length_append,List.length_map,limI,cap]; omega) | decide) only [yZS,zZAe,zZBE,zZEK,v_bl,zZDX,zZDv,zZDF,zZC6,zZC2,xZq,v_in,zZBC,v_eq,v_ne,v_lt,v_le,v_gt,v_ge,v_is,zZBB,
 zZEA,zZBA,zZDs,v_or,zZCZ,zZD7,zZCI,zZDc,zZDf,zZEI,zZEH,zZDh,v_sl,zZDU,zZAb,zZDr,zZBy,zZBu,zZCB,zZBf,zZBl,zZDu,zZAu,zZEC,zZDW,zZD6,zZD5,zZAi,zZAm,zZDy,zZDb,yZn,zZBt,yZ1,zZB9,zZAc,xZy,xZw,zZDM,zZDT,E.isVar,zZA3,xZT,zZAv,zZCa,zZA2,xZW,zZCU,
 v_of,zZD8,zZDV,zZB2,zZB0,zZDP,zZBk,zZAU,zZAz,zZAV,zZA8,yZ3,zZEE,zZA5,zZCH,xZ2,zZBw,zZDD,zZC7,zZAj,zZDp,zZt,zZCP,xZb,xZZ,zZA0,zZD3,xZu,yZj,zZBo,zZCY,zZCA,zZBg,zZBp,zZBv,zZCX,zZCd,xZ8,zZDt,xZr,zZCN,zZCF,
 zZAy,xZs,yZN,yZb,zZDE,zZCW,zZAp,zZAs,xZx,zZDI,zZDR,zZD4,zZBh,zZDJ,zZDK,c_lt,c_le,c_gt,c_ge,zZDd,zZDe,zZDB,zZD0,zZC8,zZDn,zZD1,zZDa,t_bl,zZDN,zZDm,zZDi,zZDG,zZDO,zZDY,zZC4,zZDx,yZC,yZt,zZED,zZCO,zZEG,zZEF,k_bl,
 zZCe,xZP,xZh,zZ1,zZA7,zZAa,zZAY,zZX,Option.bind_some,Option.map_some,List.getElem?_cons_zero,List.getElem?_cons_succ,List.set_cons_zero,List.set_cons_succ,List.map_cons,List.map_nil,List.length_cons,List.length_nil,List.cons_append,List.nil_append,List.replicate,
 decide_eq_true_eq,Int.reduceSub,Int.reduceAdd,Int.reduceNeg,Int.reduceLT,Int.reduceLE,Int.reduceEq,Nat.reduceAdd,Nat.reduceSub,List.getElem?_set,List.length_set,List.length_map,List.set_set,eq_self,Bool.false_eq_true,Int.reduceToNat,Int.toNat_natCast,Int.reducePow,Option.map_some,tyD,decide_true,decide_false,if_true,if_false,Bool.not_true,Bool.not_false,zZA9,zZAd,zZBx,xZg,zZCL,zZAS,yZ0,zZAL,zZAr,yZz,yZU,zZAg,zZAX,zZDg,zZAW,zZAf,xZQ,xZo,zZA1,yZs,zZBn,zZCS,zZAl,xZj,zZAt,yZi,zZAQ,Option.isNone_none,Option.isNone_some,Nat.reduceEqDiff,Nat.reduceLT,xZA,yZZ,zZCJ,zZAw,yZo,yZg,zZAx,zZAR,zZDw,zZAk,zZAZ,yZq,R.calm_ok,zZB3,zZDS,zZCV,zZAn,zZAO,zZDA,zZB8,yZh,yZl,zZCG,zZDC,zZDH,zZAT,zZAq,zZAN,zZAo,zZAP,zZBj,zZBe,xZO,xZ4,xZa,yZw,xZX,xZz,zZAK,xZe,zZCR,zZB7,yZx,yZr,yZX,v_gs,v_gk,zZEB,zZDo,zZDZ,zZB1,xZi,zZDQ,zZCQ,zZA6,zZBs,yZp,yZm,yZk,xZS,xZv,xZR,xZ1,xZt,xZV,xZk,xZn,xZ0,xZN,xZd,xZY,xZl,xZ3,xZc,xZf,xZm,zZDq,zZEJ,zZDL,zZDz,zZC1,zZCE,zZFt,zZEW,zZCw,zZEk,zZBm,zZCr,Option.map_some,cast0,cast1,cast2,cast3,cast4,cast5,List.append_nil,zZCc,zZ1,Int.zero_sub,s_te,s_tl,s_ta,s_ts,s_et,s_el,s_ea,s_es,s_lt,s_le,s_la,s_ls,s_at,s_ae,s_al,s_as,s_st,s_se,s_sl,s_sa,Option.isSome_none,Option.isSome_some,Bool.not_true,Bool.not_false,zZEn,zZEU,zZEZ,zZES,zZET,Bool.or_false,Bool.or_self,Bool.true_or,Bool.true_eq_false,List.append_nil, *])
theorem zZH7 {ws : List Str} (hl : ws.length ≤ 1000) (hw : ∀ w ∈ ws,w.length ≤ 100 ∧ 32 ∉ w.cps.toList) (hne : ws ≠ [PySem.Str.ofString ""]) :
  (PySem.Txt.join spS ws = "" ∧ ws = []) ∨ (PySem.Txt.join spS ws ≠ "" ∧ splitD (.str (PySem.Txt.join spS ws)) (.str " ") = some (ws.map .str)):=by
 by_cases hn : ws = []
 ·subst hn
  exact .inl ⟨by decide +kernel,rfl⟩
 ·have hs : PySem.Txt.split (PySem.Txt.join spS ws) spS = ws:=TL.split_join (s:=32) (S:=[]) (by decide +kernel) (by decide +kernel) hn fun p hp=>(hw p hp).2
  refine .inr ⟨fun e => ?_, ?_⟩
  ·rw [e] at hs
   have : PySem.Txt.split "" spS = [PySem.Str.ofString ""]:=by decide +kernel
   rw [this] at hs
   exact hne hs.symm
  ·show (if (spS.length == 0) = false ∧ (PySem.Txt.join spS ws).length + 2 ≤ cap then some ((PySem.Txt.split (PySem.Txt.join spS ws) spS).map D.str) else none) = _
   rw [hs,if_pos]
   refine ⟨by decide +kernel, ?_⟩
   have h1:=PySem.StrLaws.join_length_le spS ws
   rw [← TL.join_eq] at h1
   have h2 : ∀ l : List Str,(∀ w ∈ l,w.length ≤ 100) → (l.map (·.length)).sum ≤ 100 * l.length:=by
    intro l
    induction l with
    | nil=>intro _; simp
    | cons x l ih =>
     intro h
     have:=h x List.mem_cons_self
     have:=ih fun w hw=>h w (List.mem_cons_of_mem _ hw)
     rw [List.map_cons,List.sum_cons,List.length_cons]
     omega
   have h3:=h2 ws fun w h=>(hw w h).1
   have h4 : spS.length = 1:=by decide +kernel
   rw [h4] at h1
   unfold cap
   omega
theorem zZNk {w : Str} (h : isNm w = true) : 32 ∉ w.cps.toList:=fun z=>by have:=zZJv h 32 z; omega
def GdW (w : Str) : Prop:=w.length ≤ 100 ∧ 32 ∉ w.cps.toList ∧ PySem.PyData.strOk w = true
theorem yZ5 {w : Str} (h : isNm w = true) : GdW w:=⟨by have:=(zZNg h).2; omega,zZNk h,zZBF h⟩
theorem zZBr : ∀ w ∈ KEYL,GdW w:=by
 unfold GdW
 decide +kernel
theorem zZJE {v : Int} (h0 : 0 ≤ v) (h1 : v < 100) : GdW (numZ v):=by
 have key : ∀ v : Nat,v < 100 → (numZ (v : Int)).length ≤ 100 ∧ 32 ∉ (numZ (v : Int)).cps.toList ∧ PySem.PyData.strOk (numZ (v : Int)) = true:=by decide +kernel
 obtain ⟨k,rfl⟩:=Int.eq_ofNat_of_zero_le h0
 exact key k (by omega)
theorem zZAA {ks : List Kd} {cs : List Cd} (K : KsWF ks) (C : CsWF ks cs) {p : Str × Str} (h : p ∈ allP ks cs) : isNm p.1 = true ∧ isNm p.2 = true:=by
 obtain ⟨c,hc,hp⟩:=List.mem_flatMap.mp h
 obtain ⟨f,hf,rfl⟩:=List.mem_map.mp hp
 obtain ⟨x,hx,_,_,hfs,_⟩:=zZBz K (C.ck c hc)
 rw [hfs] at hf
 exact ⟨(C.c c hc).nm,((K.k x hx).f f hf).1⟩
theorem PolWF.cs {ks : List Kd} {cs : List Cd} {cn : List Cq} (P : PolWF ks cs cn) : CsWF ks cs:=⟨P.c,P.l,P.nd⟩
theorem zZHD {ks : List Kd} {cs : List Cd} {cn : List Cq} (K : KsWF ks) (P : PolWF ks cs cn) : ∀ w ∈ polW cs cn,GdW w:=by
 intro w hw
 rcases List.mem_append.mp hw with hw | hw
 ·obtain ⟨c,hc,hw⟩:=List.mem_flatMap.mp hw
  have C:=P.c c hc
  obtain ⟨x,hx,hxn,_⟩:=zZBz K C.k
  rcases List.mem_append.mp hw with hw | hw
  ·simp only [List.mem_cons,List.not_mem_nil,or_false] at hw
   rcases hw with rfl | rfl | rfl | rfl
   ·exact zZBr _ (by decide +kernel)
   ·exact yZ5 C.nm
   ·rw [← hxn]; exact yZ5 (K.k x hx).nm
   ·exact zZBr _ (by decide +kernel)
  ·exact yZ5 (C.ns w hw)
 ·obtain ⟨c,hc,hw⟩:=List.mem_flatMap.mp hw
  have k:=P.k c hc
  cases c with
  | tell p =>
   have:=zZAA K P.cs (p:=p) k
   simp only [condW,List.mem_cons,List.not_mem_nil,or_false] at hw
   rcases hw with rfl | rfl | rfl
   ·exact zZBr _ (by decide +kernel)
   ·exact yZ5 this.1
   ·exact yZ5 this.2
  | num u p v =>
   obtain ⟨hu,hp,v0,v1,v2⟩:=k
   have:=zZAA K P.cs hp
   simp only [condW,List.mem_cons,List.not_mem_nil,or_false] at hw
   rcases hw with rfl | rfl | rfl | rfl
   ·rcases hu with rfl | rfl
    ·exact zZBr _ (by decide +kernel)
    ·exact zZBr _ (by decide +kernel)
   ·exact yZ5 this.1
   ·exact yZ5 this.2
   ·exact zZJE v0 (by omega)
  | same p q =>
   have h1:=zZAA K P.cs k.1
   have h2:=zZAA K P.cs k.2.1
   simp only [condW,List.mem_cons,List.not_mem_nil,or_false] at hw
   rcases hw with rfl | rfl | rfl | rfl | rfl
   ·exact zZBr _ (by decide +kernel)
   ·exact yZ5 h1.1
   ·exact yZ5 h1.2
   ·exact yZ5 h2.1
   ·exact yZ5 h2.2
  | among p vs =>
   obtain ⟨hp,_,_,hv,hz⟩:=k
   have:=zZAA K P.cs hp
   rcases List.mem_append.mp hw with hw | hw
   ·simp only [List.mem_cons,List.not_mem_nil,or_false] at hw
    rcases hw with rfl | rfl | rfl
    ·exact zZBr _ (by decide +kernel)
    ·exact yZ5 this.1
    ·exact yZ5 this.2
   ·obtain ⟨v,hm,rfl⟩:=List.mem_map.mp hw
    exact zZJE (hv v hm).1 (by have:=(hv v hm).2; omega)
theorem zZFJ {ks : List Kd} {cs : List Cd} {cn : List Cq} (P : PolWF ks cs cn) : 5 ≤ (polW cs cn).length ∧ (polW cs cn).length ≤ 1000:=by
 have hl:=P.l
 have hn:=P.nl
 have h1 : ∀ l : List Cd,(∀ c ∈ l,CardWF ks c) → 5 * l.length ≤ (l.flatMap cardW).length ∧ (l.flatMap cardW).length ≤ 7 * l.length:=by
  intro l
  induction l with
  | nil=>intro _; simp
  | cons c l ih =>
   intro h
   have:=ih fun x hx=>h x (List.mem_cons_of_mem _ hx)
   have h2:=(h c List.mem_cons_self).l
   rw [List.flatMap_cons,List.length_append,List.length_cons]
   have : (cardW c).length = 4 + c.ns.length:=by simp [cardW]; omega
   omega
 have h2 : ∀ l : List Cq,(∀ c ∈ l,CqWF ks cs c) → (l.flatMap condW).length ≤ 110 * l.length:=by
  intro l
  induction l with
  | nil=>intro _; simp
  | cons c l ih =>
   intro h
   have:=ih fun x hx=>h x (List.mem_cons_of_mem _ hx)
   have h2:=zZGo (h c List.mem_cons_self)
   rw [List.flatMap_cons,List.length_append,List.length_cons]
   omega
 have a:=h1 cs P.c
 have b:=h2 cn P.k
 unfold polW
 rw [List.length_append]
 omega
theorem zZJY {ks : List Kd} {cs : List Cd} {cn : List Cq} (K : KsWF ks) (P : PolWF ks cs cn) :
  (PySem.Txt.join spS (polW cs cn) = "" ∧ polW cs cn = []) ∨ (PySem.Txt.join spS (polW cs cn) ≠ "" ∧ splitD (.str (PySem.Txt.join spS (polW cs cn))) (.str " ") = some ((polW cs cn).map .str)):=by
 have h:=zZFJ P
 have g:=zZHD K P
 exact zZH7 h.2 (fun w hw=>⟨(g w hw).1,(g w hw).2.1⟩) fun e=>by
  rw [e] at h
  simp at h
theorem zZKv {ks : List Kd} {cs : List Cd} {cn : List Cq} (K : KsWF ks) (P : PolWF ks cs cn) : WsOK (polW cs cn):=⟨(zZFJ P).2,fun w hw=>by
 have g:=zZHD K P w hw
 exact ⟨by have:=g.1; omega,g.2.2⟩⟩
theorem zZNe {ks : List Kd} {cs : List Cd} {cn : List Cq} (K : KsWF ks) (P : PolWF ks cs cn) : PolOK cs cn:=by
 have hl:=P.l
 have hn:=P.nl
 refine ⟨by omega,fun c hc=>by have:=(P.c c hc).l; omega,by omega,fun c hc => ?_,fun w hw=>by have:=(zZHD K P w hw).1; omega⟩
 have k:=P.k c hc
 cases c with
 | tell p=>exact trivial
 | num u p v=>exact ⟨k.2.2.1,by have:=k.2.2.2; omega⟩
 | same p q=>exact trivial
 | among p vs =>
  obtain ⟨_,_,h1,h2,h3⟩:=k
  have:=zZF6 vs 0 h1 (fun v hv=>⟨(h2 v hv).1,by have:=(h2 v hv).2; omega⟩) (by omega)
  exact ⟨by omega,fun v hv=>⟨(h2 v hv).1,by have:=(h2 v hv).2; omega⟩⟩
theorem zZU {g : Cfg} {a b : S} {e e1 : Env} {W W1 : Wd} {X : R D} (h : exS g a e W = .ok (.nx e1) W1) (k : bnd (exS g b e1 W1) endR .mk = X) : bnd (exS g (.seq a b) e W) endR .mk = X:=by
 rw [yZ3,h]
 exact k
theorem zZBP (n : Nat) (d1 d2 : D) (xs ys : List D) (W : Wd) (h1 : d1 = .tup xs ∨ d1 = .lst xs) (h2 : d2 = .tup ys ∨ d2 = .lst ys) : (cfgN T (n + 1)).init yZB [d1,d2] W = .ok [(28,.tup xs),(29,.tup ys)] W:=by
 rw [zZEv (F:=zZe) rfl]
 simp only [zZe,yZO]
 rcases h1 with rfl | rfl <;> rcases h2 with rfl | rfl <;> walk_at "ev6"
def CdS (c : Cd) : Prop:=PySem.PyData.strOk c.nm = true ∧ PySem.PyData.strOk c.k = true ∧ ∀ w ∈ c.ns,PySem.PyData.strOk w = true
def PrS (p : Str × Str) : Prop:=PySem.PyData.strOk p.1 = true ∧ PySem.PyData.strOk p.2 = true
def CqS : Cq → Prop
 | .tell p=>PrS p
 | .num w p _=>PySem.PyData.strOk w = true ∧ PrS p
 | .among p _=>PrS p
 | .same p q=>PrS p ∧ PrS q
structure PolS (cs : List Cd) (cn : List Cq) : Prop where
 c : ∀ c ∈ cs,CdS c
 k : ∀ c ∈ cn,CqS c
theorem yZE (n : Nat) {s : Str} (h : PySem.PyData.strOk s = true) : nb n (.str s) = true:=by cases n <;> exact h
theorem zZNt (n : Nat) {c : Cd} (h : CdS c) : nb (n + 2) (cdD c) = true:=by
 obtain ⟨h1,h2,h3⟩:=h
 show [D.str c.nm,.str c.k,.tup (c.ns.map .str)].all (nb (n + 1)) = true
 have h4 : nb (n + 1) (.tup (c.ns.map .str)) = true:=by
  show (c.ns.map D.str).all (nb n) = true
  rw [List.all_map]
  exact List.all_eq_true.mpr fun w hw=>yZE n (h3 w hw)
 simp only [List.all_cons,List.all_nil,yZE (n + 1) h1,yZE (n + 1) h2,h4,Bool.and_self]
theorem zZHX (n : Nat) : ∀ s ∈ CNDL,nb n (.str s) = true:=fun s hs=>yZE n ((by decide +kernel : ∀ s ∈ CNDL,PySem.PyData.strOk s = true) s hs)
theorem zZNR (n : Nat) (i : Int) : nb n (.int i) = true:=by cases n <;> rfl
theorem zZNh (n : Nat) {c : Cq} (h : CqS c) : nb (n + 2) (cqD c) = true:=by
 cases c with
 | tell p =>
  show [D.str "tell",.str p.1,.str p.2].all (nb (n + 1)) = true
  simp only [List.all_cons,List.all_nil,zZHX (n + 1) "tell" (by decide +kernel),yZE (n + 1) h.1,yZE (n + 1) h.2,Bool.and_self]
 | num w p v =>
  show [D.str w,.str p.1,.str p.2,.int v].all (nb (n + 1)) = true
  simp only [List.all_cons,List.all_nil,yZE (n + 1) h.1,yZE (n + 1) h.2.1,yZE (n + 1) h.2.2,zZNR,Bool.and_self]
 | among p vs =>
  show [D.str "among",.str p.1,.str p.2,.tup (vs.map .int)].all (nb (n + 1)) = true
  simp only [List.all_cons,List.all_nil,zZHX (n + 1) "among" (by decide +kernel),yZE (n + 1) h.1,yZE (n + 1) h.2,zZLh,Bool.and_self]
 | same p q =>
  show [D.str "same",.str p.1,.str p.2,.str q.1,.str q.2].all (nb (n + 1)) = true
  simp only [List.all_cons,List.all_nil,zZHX (n + 1) "same" (by decide +kernel),yZE (n + 1) h.1.1,yZE (n + 1) h.1.2,yZE (n + 1) h.2.1,yZE (n + 1) h.2.2,Bool.and_self]
theorem zZFz {cs : List Cd} {cn : List Cq} (P : PolS cs cn) : nb 60 (polD cs cn) = true:=by
 show [D.tup (cs.map cdD),.tup (cn.map cqD)].all (nb 59) = true
 have h1 : nb 59 (.tup (cs.map cdD)) = true:=by
  show (cs.map cdD).all (nb 58) = true
  rw [List.all_map]
  exact List.all_eq_true.mpr fun c hc=>zZNt 56 (P.c c hc)
 have h2 : nb 59 (.tup (cn.map cqD)) = true:=by
  show (cn.map cqD).all (nb 58) = true
  rw [List.all_map]
  exact List.all_eq_true.mpr fun c hc=>zZNh 56 (P.k c hc)
 simp only [List.all_cons,List.all_nil,h1,h2,Bool.and_self]
theorem zZH2 {xs ys : List Str} (h : xs.map D.str = ys.map D.str) : xs = ys:=(List.map_inj_right (f:=D.str) (fun a b e=>by cases e; rfl)).mp h
theorem zZMJ {a b : Cd} (h : cdD a = cdD b) : a = b:=by
 obtain ⟨a1,a2,a3⟩:=a
 obtain ⟨b1,b2,b3⟩:=b
 simp only [cdD,D.tup.injEq,List.cons.injEq,D.str.injEq,and_true] at h
 obtain ⟨rfl,rfl,h⟩:=h
 rw [zZH2 h]
theorem zZMT {a b : Cq} (h : cqD a = cqD b) : a = b:=by
 cases a with
 | tell p =>
  obtain ⟨p1,p2⟩:=p
  cases b with
  | tell q =>
   obtain ⟨q1,q2⟩:=q
   simp only [cqD,D.tup.injEq,List.cons.injEq,D.str.injEq,and_true,true_and] at h
   rw [h.1,h.2]
  | num w q v=>simp [cqD] at h
  | among q vs=>simp [cqD] at h
  | same q r=>simp [cqD] at h
 | num w p v =>
  obtain ⟨p1,p2⟩:=p
  cases b with
  | tell q=>simp [cqD] at h
  | num w2 q v2 =>
   obtain ⟨q1,q2⟩:=q
   simp only [cqD,D.tup.injEq,List.cons.injEq,D.str.injEq,D.int.injEq,and_true,true_and] at h
   rw [h.1,h.2.1,h.2.2.1,h.2.2.2]
  | among q vs=>simp [cqD] at h
  | same q r=>simp [cqD] at h
 | among p vs =>
  obtain ⟨p1,p2⟩:=p
  cases b with
  | tell q=>simp [cqD] at h
  | num w2 q v2=>simp [cqD] at h
  | among q vs2 =>
   obtain ⟨q1,q2⟩:=q
   simp only [cqD,D.tup.injEq,List.cons.injEq,D.str.injEq,and_true,true_and,zZH6] at h
   rw [h.1,h.2.1,h.2.2]
  | same q r=>simp [cqD] at h
 | same p r =>
  obtain ⟨p1,p2⟩:=p
  obtain ⟨r1,r2⟩:=r
  cases b with
  | tell q=>simp [cqD] at h
  | num w2 q v2=>simp [cqD] at h
  | among q vs2=>simp [cqD] at h
  | same q s =>
   obtain ⟨q1,q2⟩:=q
   obtain ⟨s1,s2⟩:=s
   simp only [cqD,D.tup.injEq,List.cons.injEq,D.str.injEq,and_true,true_and] at h
   rw [h.1,h.2.1,h.2.2.1,h.2.2.2]
theorem zZKk {cs cs' : List Cd} {cn cn' : List Cq} (h : polD cs cn = polD cs' cn') : cs = cs' ∧ cn = cn':=by
 simp only [polD,D.tup.injEq,List.cons.injEq,and_true] at h
 exact ⟨(List.map_inj_right fun a b e=>zZMJ e).mp h.1,(List.map_inj_right fun a b e=>zZMT e).mp h.2⟩
def polE (cs : List Cd) (cn : List Cq) (cs' : List Cd) (cn' : List Cq) : Bool:=dq (polD cs cn) (polD cs' cn')
theorem zZHT {cs cs' : List Cd} {cn cn' : List Cq} (P : PolS cs cn) (P' : PolS cs' cn') : polE cs cn cs' cn' = true ↔ cs = cs' ∧ cn = cn' :=
 (zZJa (zZFz P) (zZFz P')).trans ⟨zZKk,fun h=>by rw [h.1,h.2]⟩
theorem zZGP {cs cs' : List Cd} {cn cn' : List Cq} (P : PolS cs cn) (P' : PolS cs' cn') (h : cs ≠ cs' ∨ cn ≠ cn') : polE cs cn cs' cn' = false:=by
 cases hb : polE cs cn cs' cn' with
 | false=>rfl
 | true =>
  have:=(zZHT P P').mp hb
  rcases h with h | h
  ·exact absurd this.1 h
  ·exact absurd this.2 h
theorem zZIR {cs cs' : List Cd} {cn cn' : List Cq} (P : PolS cs cn) (P' : PolS cs' cn') : cmpD .eq (polD cs cn) (polD cs' cn') = some (.bl (polE cs cn cs' cn')):=zZNn (zZFz P) (zZFz P')
theorem zZCt (n : Nat) (cs cs' : List Cd) (cn cn' : List Cq) (W : Wd) (P : PolS cs cn) (P' : PolS cs' cn') : (cfgN T (n + 1)).call yZL [polQ cs cn,polQ cs' cn'] W = .ok (.bl (polE cs cn cs' cn')) W:=by
 have h:=zZIR P P'
 rw [zZE (F:=yZe) rfl]
 simp only [yZe,zZAH]
 simp only [polD,polQ] at *
 generalize polE cs cn cs' cn' = B at *
 generalize cs.map cdD = C1 at *
 generalize cs'.map cdD = C2 at *
 generalize cn.map cqD = N1 at *
 generalize cn'.map cqD = N2 at *
 clear P P'
 walk_at "ev6"
theorem PolWF.s {ks : List Kd} {cs : List Cd} {cn : List Cq} (K : KsWF ks) (P : PolWF ks cs cn) : PolS cs cn:=by
 have hk : ∀ c ∈ cs,PySem.PyData.strOk c.k = true:=fun c hc=>by
  obtain ⟨x,hx,hxn,_⟩:=zZBz K (P.c c hc).k
  rw [← hxn]
  exact zZBF (K.k x hx).nm
 have hp : ∀ p ∈ allP ks cs,PrS p:=fun p h=>⟨zZBF (zZAA K P.cs h).1,zZBF (zZAA K P.cs h).2⟩
 refine ⟨fun c hc=>⟨zZBF (P.c c hc).nm,hk c hc,fun w hw=>zZBF ((P.c c hc).ns w hw)⟩,fun c hc => ?_⟩
 have k:=P.k c hc
 cases c with
 | tell p=>exact hp p k
 | num w p v =>
  refine ⟨?_,hp p k.2.1⟩
  rcases k.1 with rfl | rfl <;> decide +kernel
 | among p vs=>exact hp p k.1
 | same p q=>exact ⟨hp p k.1,hp q k.2.1⟩
theorem Pool.ext {W W' : Wd} {p : Nat} (h : Pool W p) (X : Ext0 W W') : Pool W' p:=by
 obtain ⟨ns,i,a,s,k,b,h,h0⟩:=h
 exact ⟨ns,i,a,s,k,b,by rw [X.g _ (zZ0 h)]; exact h,h0⟩
theorem zZHg (xs : List D) : cutD xs none (some (-1)) = xs.dropLast:=by
 unfold cutD
 show (xs.drop 0).take (((-1) + (xs.length : Int)).toNat - 0) = _
 rw [List.drop_zero,List.dropLast_eq_take]
 congr 1
 omega
theorem zZKr (x : D) (xs : List D) : cutD (x :: xs) (some 1) none = xs:=(zZKd (x :: xs) 1).trans rfl
def lE (ns : List Int) (ks : List Kd) (cs : List Cd) (cn : List Cq) (t : Str) (s6 s7 s8 s9 s10 s11 s12 s13 s14 s15 : Slot) : Env :=
 [.val (.ext ns),.val (.own 0),.val (.lst (ks.map kT)),.val (.lst (ks.map kI)),.val (polD cs cn),.val (.str t),s6,s7,s8,s9,s10,s11,s12,s13,s14,s15,.no,.no]
theorem zZLE (n : Nat) (ks : List Kd) (cs : List Cd) (cn : List Cq) (P : PolWF ks cs cn) (Q : PolOK cs cn) (W : Wd) : (cfgN T (n + 5)).call zZI [.lst [.tup (cs.map cdD),.tup (cn.map cqD)],.lst [.tup (cs.map cdD),.tup (cn.map cqD)]] W = .ok (.bl true) W:=by
 refine zZGl W 4 (n + 4) _ ?_ (by omega)
 have hs : ∀ (k : Nat) (ws : List Str),ws.length ≤ 1000 → plainD (k + 1) (.tup (ws.map .str)) = true:=fun k ws h=>by
  simp only [plainD,Bool.and_eq_true,decide_eq_true_eq,List.length_map,List.all_map,List.all_eq_true]
  exact ⟨by unfold cap; omega,fun w _=>by cases k <;> rfl⟩
 have hi : ∀ (k : Nat) (ws : List Int),ws.length ≤ 1000 → plainD (k + 1) (.tup (ws.map .int)) = true:=fun k ws h=>by
  simp only [plainD,Bool.and_eq_true,decide_eq_true_eq,List.length_map,List.all_map,List.all_eq_true]
  exact ⟨by unfold cap; omega,fun w _=>by cases k <;> rfl⟩
 have hc1 : 1 ≤ cap:=by decide
 have hc2 : 2 ≤ cap:=by decide
 have hc3 : 3 ≤ cap:=by decide
 have hc4 : 4 ≤ cap:=by decide
 have hc5 : 5 ≤ cap:=by decide
 have h1 : plainD 3 (.tup (cs.map cdD)) = true:=by
  simp only [plainD,Bool.and_eq_true,decide_eq_true_eq,List.length_map,List.all_map,List.all_eq_true]
  refine ⟨by have:=Q.cl; unfold cap; omega,fun c hc => ?_⟩
  show plainD 2 (cdD c) = true
  have:=hs 0 c.ns (by have:=Q.cn_ c hc; omega)
  simp only [cdD,plainD,List.all_cons,List.all_nil,List.length_cons,List.length_nil,Bool.and_true,Bool.true_and,decide_eq_true hc3]
  exact this
 have h2 : plainD 3 (.tup (cn.map cqD)) = true:=by
  simp only [plainD,Bool.and_eq_true,decide_eq_true_eq,List.length_map,List.all_map,List.all_eq_true]
  refine ⟨by have:=Q.nl; unfold cap; omega,fun c hc => ?_⟩
  show plainD 2 (cqD c) = true
  cases c with
  | tell p=>simp only [cqD,plainD,List.all_cons,List.all_nil,List.length_cons,List.length_nil,Bool.and_true,decide_eq_true hc3]
  | num w p v=>simp only [cqD,plainD,List.all_cons,List.all_nil,List.length_cons,List.length_nil,Bool.and_true,decide_eq_true hc4]
  | same p q=>simp only [cqD,plainD,List.all_cons,List.all_nil,List.length_cons,List.length_nil,Bool.and_true,decide_eq_true hc5]
  | among p vs =>
   have:=hi 0 vs (by have:=(Q.nk _ hc).1; omega)
   simp only [cqD,plainD,List.all_cons,List.all_nil,List.length_cons,List.length_nil,Bool.and_true,Bool.true_and,decide_eq_true hc4]
   exact this
 show (decide (_ ≤ cap) && _) = true
 simp only [List.all_cons,List.all_nil,List.length_cons,List.length_nil,h1,h2,Bool.and_true,decide_eq_true hc2]
theorem zZI2 (ns : List Str) (h : ns.length ≤ 3) : ∃ s r,([(PySem.Str.ofString "aa"),(PySem.Str.ofString "bb"),(PySem.Str.ofString "cc"),(PySem.Str.ofString "dd")] : List Str).filter (fun s => !decide (s ∈ ns)) = s :: r ∧ s ∉ ns ∧ PySem.PyData.strOk s = true:=by
 cases hq : ([(PySem.Str.ofString "aa"),(PySem.Str.ofString "bb"),(PySem.Str.ofString "cc"),(PySem.Str.ofString "dd")] : List Str).filter (fun s => !decide (s ∈ ns)) with
 | nil =>
  have h1:=List.filter_eq_nil_iff.mp hq
  have h2:=zZFj (l:=[(PySem.Str.ofString "aa"),(PySem.Str.ofString "bb"),(PySem.Str.ofString "cc"),(PySem.Str.ofString "dd")]) (m:=ns) (by decide +kernel) fun x hx=>by simpa using h1 x hx
  have : [(PySem.Str.ofString "aa"),(PySem.Str.ofString "bb"),(PySem.Str.ofString "cc"),(PySem.Str.ofString "dd")].length = 4:=rfl
  omega
 | cons s r =>
  have hs : s ∈ ([(PySem.Str.ofString "aa"),(PySem.Str.ofString "bb"),(PySem.Str.ofString "cc"),(PySem.Str.ofString "dd")] : List Str).filter (fun s => !decide (s ∈ ns)):=by rw [hq]; exact List.mem_cons_self
  obtain ⟨h1,h2⟩:=List.mem_filter.mp hs
  exact ⟨s,r,rfl,by simpa using h2,(by decide +kernel : ∀ s ∈ ([(PySem.Str.ofString "aa"),(PySem.Str.ofString "bb"),(PySem.Str.ofString "cc"),(PySem.Str.ofString "dd")] : List Str),PySem.PyData.strOk s = true) s h1⟩
theorem zZHJ (n : Nat) (ns : List Int) (ks : List Kd) (cs : List Cd) (cn : List Cq) (t : Str) (s6 s7 s8 s13 s14 : Slot) (is : List Str) (W : Wd) (b : Bool) :
  compR (cfgN T n) (.var 17) (.nm 17) (.cons (.cmp .notin (.var 17) (.var 15)) .nil) (lE ns ks cs cn t s6 s7 s8 .no .no .no .no s13 s14 (.val (.tup (is.map .str)))) ([D.str (PySem.Str.ofString "aa"),.str (PySem.Str.ofString "bb"),.str (PySem.Str.ofString "cc"),.str (PySem.Str.ofString "dd")],b) W =
   .ok ((([(PySem.Str.ofString "aa"),(PySem.Str.ofString "bb"),(PySem.Str.ofString "cc"),(PySem.Str.ofString "dd")] : List Str).filter (fun s => !decide (s ∈ is))).map .str) W:=by
 refine yZv D.str D.str (fun s => !decide (s ∈ is)) [(PySem.Str.ofString "aa"),(PySem.Str.ofString "bb"),(PySem.Str.ofString "cc"),(PySem.Str.ofString "dd")] (by decide) fun s _=>⟨[.val (.ext ns),.val (.own 0),.val (.lst (ks.map kT)),.val (.lst (ks.map kI)),.val (polD cs cn),.val (.str t),s6,s7,s8,.no,.no,.no,.no,s13,s14,.val (.tup (is.map .str)),.no,.val (.str s)],rfl, ?_,fun _=>rfl⟩
 have hin : ∀ d,inG true W (.str s) (.frz (is.map D.str) d) = some (.bl (!decide (s ∈ is))):=fun d=>zZHs true W s is d
 generalize (!decide (s ∈ is)) = B at *
 walk_at "ev6"
theorem plain (ns : List Int) (hn : ns.length ≤ 63) : ∃ W,(cfgN T 40).call zZIw [.ext ns] [] = .ok (.bl true) W:=by
 rw [zZE (n:=39) (F:=f_law) rfl,yZS rfl]
 have hp:=zZKB 38 ns []
 have P0 : Pool ([] ++ [poolC ns 0 0 1 0 (.int 0)]) 0:=⟨ns,0,0,1,0,.int 0,rfl,by omega⟩
 rw [show ([] : Wd).length = 0 from rfl] at hp
 generalize ([] ++ [poolC ns 0 0 1 0 (.int 0)] : Wd) = W0 at *
 obtain ⟨ks,W1,K,P1,hk⟩:=zZHq 35 0 W0 W0 ⟨P0,Kp.refl _ _⟩
 have hk8:=K.l
 have hmade : ∀ b,compR (cfgN T 39) (.make zZEh (.cons (.var 13) (.cons (.var 16) .nil))) (.tup (.cons (.nm 13) (.cons (.nm 16) .nil))) .nil [.val (.ext ns),.val (.own 0),.val (.lst (ks.map kT)),.no,.no,.no,.no,.no,.no,.no,.no,.no,.no,.no,.no,.no,.no,.no] (ks.map kT,b) W1 = .ok (ks.map kI) W1:=fun b=>by
  refine yZK kT kI ks (by unfold cap; omega) fun k _=>⟨[.val (.ext ns),.val (.own 0),.val (.lst (ks.map kT)),.no,.no,.no,.no,.no,.no,.no,.no,.no,.no,.val (.str k.1),.no,.no,.val (flsD k.2),.no],rfl, ?_⟩
  have h1:=zZJK 38 k.1 k.2 (flsD k.2) W1 (.inl rfl)
  show _ = R.ok (D.ins zZEh [(12,.str k.1),(13,flsD k.2)]) W1
  clear hk hp P0 P1
  generalize flsD k.2 = FL at *
  generalize ks.map kT = KS at *
  walk_at "ev6"
 obtain ⟨cs,cn,W2,P,P2,hpol⟩:=zZE4 35 0 W0 W1 ks K P1
 have Q:=zZNe K P
 have PS:=PolWF.s K P
 have hlw:=zZIy 38 W2 ks cs cn P
 have hj : ∀ d,joinD W2 (.str spS) (.frz ((polW cs cn).map .str) d) = _:=fun d=>zZIJ W2 d (ws:=polW cs cn) (by have:=(zZFJ P).2; omega) (fun w hw=>Q.w w hw)
 have hr:=zZLH 34 W2 (PySem.Txt.join spS (polW cs cn)) (polW cs cn) ks (zZKv K P) K.kok K.knd (zZJY K P)
 rw [zZJS P] at hr
 obtain ⟨W3,X3,hr⟩:=hr
 have P3 : Pool W3 0:=P2.1.ext X3
 have hpt:=zZJh 38 W3 cs cn Q
 have hsp:=zZLE 34 ks cs cn P Q W3
 generalize PySem.Txt.join spS (polW cs cn) = t at *
 have hst:=zZGl W3 0 38 (.str t) rfl (by omega)
 have hee:=zZCt 38 cs cs cn cn W3 PS PS
 rw [(zZHT PS PS).mpr ⟨rfl,rfl⟩] at hee
 have hbt:=zZEx 38 true true W3
 rw [decide_eq_true rfl] at hbt
 obtain ⟨cs',cn',W4,P',P4,hpol'⟩:=zZE4 35 0 W3 W3 ks K ⟨P3,Kp.refl _ _⟩
 have PS':=PolWF.s K P'
 have hee':=zZCt 38 cs' cs cn' cn W4 PS' PS
 have hcm':=zZIR PS' PS
 have hbb:=zZEx 38 (polE cs' cn' cs cn) (polE cs' cn' cs cn) W4
 rw [decide_eq_true rfl] at hbb
 have hbf:=zZEx 38 false false W4
 rw [decide_eq_true rfl] at hbf
 obtain ⟨c0,cr,rfl⟩ : ∃ c0 cr,cs = c0 :: cr:=by
  have:=P.l
  cases cs with
  | nil=>simp at this
  | cons c r=>exact ⟨c,r,rfl⟩
 have C0:=P.c c0 List.mem_cons_self
 have CS0:=PS.c c0 List.mem_cons_self
 obtain ⟨s,sr,hsf,hsn,hso⟩:=zZI2 c0.ns C0.l.2
 have hsc:=zZHJ 39 ns ks (c0 :: cr) cn t (.val (polQ (c0 :: cr) cn)) (.val (polQ (c0 :: cr) cn)) (.val (polD cs' cn')) (.val (.str c0.nm)) (.val (.str c0.k)) c0.ns W4
 rw [hsf] at hsc
 have PSc : PolS (⟨c0.nm,c0.k,c0.ns.dropLast ++ [s]⟩ :: cr) cn:=⟨fun c hc=>by
  rcases List.mem_cons.mp hc with rfl | hc
  ·refine ⟨CS0.1,CS0.2.1,fun w hw => ?_⟩
   rcases List.mem_append.mp hw with hw | hw
   ·exact CS0.2.2 w ((List.dropLast_sublist _).subset hw)
   ·rw [List.mem_singleton.mp hw]; exact hso
  ·exact PS.c c (List.mem_cons_of_mem _ hc),PS.k⟩
 have hec:=zZCt 38 _ (c0 :: cr) cn cn W4 PSc PS
 rw [zZGP PSc PS (.inl fun e=>by
  have e1:=(List.cons.inj e).1
  have e2 : c0.ns.dropLast ++ [s] = c0.ns:=congrArg Cd.ns e1
  have e3 : s ∈ c0.ns.dropLast ++ [s]:=by simp
  rw [e2] at e3
  exact hsn e3)] at hec
 have PSd : PolS (c0 :: cr) cn.dropLast:=⟨PS.c,fun c hc=>PS.k c ((List.dropLast_sublist _).subset hc)⟩
 have hed:=zZCt 38 (c0 :: cr) (c0 :: cr) cn.dropLast cn W4 PSd PS
 have hed' : 0 < cn.length → (cfgN T (38 + 1)).call yZL [polQ (c0 :: cr) cn.dropLast,polQ (c0 :: cr) cn] W4 = .ok (.bl false) W4:=fun h=>by
  rw [zZGP PSd PS (.inr fun e=>by
   have:=congrArg List.length e
   rw [List.length_dropLast] at this
   omega)] at hed
  exact hed
 have hlp:=zZFy 38 ks K (c0 :: cr) (.tup ((c0 :: cr).map cdD)) W4 (.inl rfl) P.cs.ck (by have:=P.l.2; omega)
 have hpi1:=zZBP 38 (.lst ((c0 :: cr).map cdD)) (.lst (cn.map cqD)) ((c0 :: cr).map cdD) (cn.map cqD) W3 (.inr rfl) (.inr rfl)
 have hpi2:=zZBP 38 (.tup (cs'.map cdD)) (.tup (cn'.map cqD)) (cs'.map cdD) (cn'.map cqD) W4 (.inl rfl) (.inl rfl)
 have hpi3:=zZBP 38 (.tup ((⟨c0.nm,c0.k,c0.ns.dropLast ++ [s]⟩ :: cr : List Cd).map cdD)) (.tup (cn.map cqD)) _ _ W4 (.inl rfl) (.inl rfl)
 have hpi4:=zZBP 38 (.tup ((c0 :: cr).map cdD)) (.tup (cn.dropLast.map cqD)) _ _ W4 (.inl rfl) (.inl rfl)
 have hlast : ((allS ks (c0 :: cr)).length = 0 ∨ 5 < cn.length) ∨ ∃ (v : Int) (W5 : Wd) (p : Str × Str) (z : Int),(0 < (allS ks (c0 :: cr)).length ∧ cn.length ≤ 5) ∧ (cfgN T 39).call zZB [.own 0,.int ((allS ks (c0 :: cr)).length : Int)] W4 = .ok (.int v) W5 ∧ atD ((allS ks (c0 :: cr)).map prS) (.int v) = some (prS (p,z)) ∧
   (cfgN T 39).call yZL [polQ (c0 :: cr) (cn ++ [Cq.tell p]),polQ (c0 :: cr) cn] W5 = .ok (.bl false) W5:=by
  by_cases hz : (allS ks (c0 :: cr)).length = 0 ∨ 5 < cn.length
  ·exact .inl hz
  ·have hlen:=zZFd K P.cs.ck
   have hl3:=P.l.2
   obtain ⟨v,W5,d5,a5,b5,P5⟩:=zZq 38 W4 W4 0 ((allS ks (c0 :: cr)).length : Int) ⟨P4.1,Kp.refl _ _⟩ (by omega) (by omega)
   obtain ⟨v,rfl⟩:=Int.eq_ofNat_of_zero_le a5
   have hv : v < (allS ks (c0 :: cr)).length:=by omega
   have hx:=List.getElem_mem hv
   have hat : atD ((allS ks (c0 :: cr)).map prS) (.int (v : Int)) = some (prS (allS ks (c0 :: cr))[v]):=yZF (by simp [hv])
   generalize (allS ks (c0 :: cr))[v] = x at *
   have hm:=(zZD9 K P.cs.ck P.nd (p:=x.1) (z:=x.2) hx).1
   have hnm:=zZAA K P.cs hm
   have PSm : PolS (c0 :: cr) (cn ++ [.tell x.1]):=⟨PS.c,fun c hc=>by
    rcases List.mem_append.mp hc with hc | hc
    ·exact PS.k c hc
    ·rw [List.mem_singleton.mp hc]; exact ⟨zZBF hnm.1,zZBF hnm.2⟩⟩
   have hem:=zZCt 38 (c0 :: cr) (c0 :: cr) (cn ++ [.tell x.1]) cn W5 PSm PS
   rw [zZGP PSm PS (.inr fun e=>by
    have:=congrArg List.length e
    rw [List.length_append,List.length_singleton] at this
    omega)] at hem
   exact .inr ⟨v,W5,x.1,x.2,by omega,d5,hat,hem⟩
 have hsp0 : (PySem.Str.ofString " ") = spS:=rfl
 have hc0 : 0 ≤ cap:=by decide
 have hc2 : 2 ≤ cap:=by decide
 have hcd0 : cdD c0 = .tup [.str c0.nm,.str c0.k,.tup (c0.ns.map .str)]:=rfl
 have hnl:=P.nl
 have hn0:=C0.l.2
 have hcr : (c0 :: cr).length ≤ 3:=P.l.2
 have hdl : (cn.dropLast).map cqD = (cn.map cqD).dropLast:=List.map_dropLast
 have hcnl : ((cn.map cqD).length : Int) = (cn.length : Int):=by rw [List.length_map]
 clear P0 P1 P2 P3 hk8 K X3 PS PS' PSc PSd hsn hso hsf C0 CS0 P' hn Q P4
 clear P
 have pre : ∀ X,bnd (exS (cfgN T 39) (dropS 17 zZCj) (lE ns ks (c0 :: cr) cn t (.val (polQ (c0 :: cr) cn)) (.val (polQ (c0 :: cr) cn)) (.val (polD cs' cn')) (.val (.str s)) (.val (.tup ((⟨c0.nm,c0.k,c0.ns.dropLast ++ [s]⟩ :: cr : List Cd).map cdD))) (.val (.lst ((allS ks (c0 :: cr)).map prS))) .no (.val (.str c0.nm)) (.val (.str c0.k)) (.val (.tup (c0.ns.map .str)))) W4) endR .mk = X → bnd (exS (cfgN T 39) zZCj [.val (.ext ns),.no,.no,.no,.no,.no,.no,.no,.no,.no,.no,.no,.no,.no,.no,.no,.no,.no] []) endR .mk = X:=by
  intro X hX
  unfold zZCj at hX ⊢
  refine zZU (e1:=[.val (.ext ns),.val (.own 0),.no,.no,.no,.no,.no,.no,.no,.no,.no,.no,.no,.no,.no,.no,.no,.no]) (W1:=W0) ?_ ?_
  ·clear hX hk hmade hpol hlw hj hr hsp hpt hst hpi1 hee hbt hpol' hpi2 hee' hcm' hbb hsc hec hbf hpi3 hed' hed hpi4 hlp hlast
   walk_at "ev6"
  refine zZU (e1:=[.val (.ext ns),.val (.own 0),.val (.lst (ks.map kT)),.no,.no,.no,.no,.no,.no,.no,.no,.no,.no,.no,.no,.no,.no,.no]) (W1:=W1) ?_ ?_
  ·clear hX hp hmade hpol hlw hj hr hsp hpt hst hpi1 hee hbt hpol' hpi2 hee' hcm' hbb hsc hec hbf hpi3 hed' hed hpi4 hlp hlast
   walk_at "ev6"
  refine zZU (e1:=[.val (.ext ns),.val (.own 0),.val (.lst (ks.map kT)),.val (.lst (ks.map kI)),.no,.no,.no,.no,.no,.no,.no,.no,.no,.no,.no,.no,.no,.no]) (W1:=W1) ?_ ?_
  ·clear hX hp hk hpol hlw hj hr hsp hpt hst hpi1 hee hbt hpol' hpi2 hee' hcm' hbb hsc hec hbf hpi3 hed' hed hpi4 hlp hlast
   walk_at "ev6"
  refine zZU (e1:=[.val (.ext ns),.val (.own 0),.val (.lst (ks.map kT)),.val (.lst (ks.map kI)),.val (polD (c0 :: cr) cn),.no,.no,.no,.no,.no,.no,.no,.no,.no,.no,.no,.no,.no]) (W1:=W2) ?_ ?_
  ·clear hX hp hk hmade hlw hj hr hsp hpt hst hpi1 hee hbt hpol' hpi2 hee' hcm' hbb hsc hec hbf hpi3 hed' hed hpi4 hlp hlast
   walk_at "ev6"
  refine zZU (e1:=lE ns ks (c0 :: cr) cn t .no .no .no .no .no .no .no .no .no .no) (W1:=W2) ?_ ?_
  ·clear hX hp hk hmade hpol hr hsp hpt hst hpi1 hee hbt hpol' hpi2 hee' hcm' hbb hsc hec hbf hpi3 hed' hed hpi4 hlp hlast
   rw [hsp0]
   simp only [lE]
   generalize (polW (c0 :: cr) cn).map D.str = WS at *
   walk_at "ev6"
  refine zZU (e1:=lE ns ks (c0 :: cr) cn t (.val (polQ (c0 :: cr) cn)) .no .no .no .no .no .no .no .no .no) (W1:=W3) ?_ ?_
  ·clear hX hp hk hmade hpol hlw hj hsp hpt hst hpi1 hee hbt hpol' hpi2 hee' hcm' hbb hsc hec hbf hpi3 hed' hed hpi4 hlp hlast
   simp only [lE]
   walk_at "ev6"
  refine zZU (e1:=lE ns ks (c0 :: cr) cn t (.val (polQ (c0 :: cr) cn)) .no .no .no .no .no .no .no .no .no) (W1:=W3) ?_ ?_
  ·clear hX hp hk hmade hpol hlw hj hr hpi1 hee hbt hpol' hpi2 hee' hcm' hbb hsc hec hbf hpi3 hed' hed hpi4 hlp hlast
   simp only [lE,polQ,polD] at *
   generalize (c0 :: cr).map cdD = CS at *
   generalize cn.map cqD = CN at *
   walk_at "ev6"
  refine zZU (e1:=lE ns ks (c0 :: cr) cn t (.val (polQ (c0 :: cr) cn)) (.val (polQ (c0 :: cr) cn)) .no .no .no .no .no .no .no .no) (W1:=W3) ?_ ?_
  ·clear hX hp hk hmade hpol hlw hj hr hsp hpt hst hee hbt hpol' hpi2 hee' hcm' hbb hsc hec hbf hpi3 hed' hed hpi4 hlp hlast
   have hlc1 : ((c0 :: cr).map cdD).length ≤ 1000:=by rw [List.length_map]; omega
   have hlc2 : (cn.map cqD).length ≤ 1000:=by rw [List.length_map]; omega
   simp only [lE,polQ,polD] at *
   generalize (c0 :: cr).map cdD = CS at *
   generalize cn.map cqD = CN at *
   walk_at "ev6"
  refine zZU (e1:=lE ns ks (c0 :: cr) cn t (.val (polQ (c0 :: cr) cn)) (.val (polQ (c0 :: cr) cn)) .no .no .no .no .no .no .no .no) (W1:=W3) ?_ ?_
  ·clear hX hp hk hmade hpol hlw hj hr hsp hpi1 hpol' hpi2 hee' hcm' hbb hsc hec hbf hpi3 hed' hed hpi4 hlp hlast
   simp only [lE,polQ,polD] at *
   generalize (c0 :: cr).map cdD = CS at *
   generalize cn.map cqD = CN at *
   walk_at "ev6"
  refine zZU (e1:=lE ns ks (c0 :: cr) cn t (.val (polQ (c0 :: cr) cn)) (.val (polQ (c0 :: cr) cn)) (.val (polD cs' cn')) .no .no .no .no .no .no .no) (W1:=W4) ?_ ?_
  ·clear hX hp hk hmade hpol hlw hj hr hsp hpt hst hpi1 hee hbt hpi2 hee' hcm' hbb hsc hec hbf hpi3 hed' hed hpi4 hlp hlast
   simp only [lE]
   walk_at "ev6"
  refine zZU (e1:=lE ns ks (c0 :: cr) cn t (.val (polQ (c0 :: cr) cn)) (.val (polQ (c0 :: cr) cn)) (.val (polD cs' cn')) .no .no .no .no .no .no .no) (W1:=W4) ?_ ?_
  ·clear hX hp hk hmade hpol hlw hj hr hsp hpt hst hpi1 hee hbt hpol' hsc hec hbf hpi3 hed' hed hpi4 hlp hlast
   generalize polE cs' cn' (c0 :: cr) cn = B at *
   simp only [lE,polQ,polD] at *
   generalize (c0 :: cr).map cdD = CS at *
   generalize cn.map cqD = CN at *
   generalize cs'.map cdD = CS' at *
   generalize cn'.map cqD = CN' at *
   walk_at "ev6"
  refine zZU (e1:=lE ns ks (c0 :: cr) cn t (.val (polQ (c0 :: cr) cn)) (.val (polQ (c0 :: cr) cn)) (.val (polD cs' cn')) .no .no .no .no (.val (.str c0.nm)) (.val (.str c0.k)) (.val (.tup (c0.ns.map .str)))) (W1:=W4) ?_ ?_
  ·clear hX hp hk hmade hpol hlw hj hr hsp hpt hst hpi1 hee hbt hpol' hpi2 hee' hcm' hbb hsc hec hbf hpi3 hed' hed hpi4 hlp hlast
   simp only [lE,polD,List.map_cons,hcd0]
   generalize polQ (c0 :: cr) cn = QQ at *
   walk_at "ev6"
  refine zZU (e1:=lE ns ks (c0 :: cr) cn t (.val (polQ (c0 :: cr) cn)) (.val (polQ (c0 :: cr) cn)) (.val (polD cs' cn')) (.val (.str s)) .no .no .no (.val (.str c0.nm)) (.val (.str c0.k)) (.val (.tup (c0.ns.map .str)))) (W1:=W4) ?_ ?_
  ·clear hX hp hk hmade hpol hlw hj hr hsp hpt hst hpi1 hee hbt hpol' hpi2 hee' hcm' hbb hec hbf hpi3 hed' hed hpi4 hlp hlast
   rw [List.map_cons] at hsc
   simp only [lE] at *
   walk_at "ev6"
  refine zZU (e1:=lE ns ks (c0 :: cr) cn t (.val (polQ (c0 :: cr) cn)) (.val (polQ (c0 :: cr) cn)) (.val (polD cs' cn')) (.val (.str s)) (.val (.tup ((⟨c0.nm,c0.k,c0.ns.dropLast ++ [s]⟩ :: cr : List Cd).map cdD))) .no .no (.val (.str c0.nm)) (.val (.str c0.k)) (.val (.tup (c0.ns.map .str)))) (W1:=W4) ?_ ?_
  ·clear hX hp hk hmade hpol hlw hj hr hsp hpt hst hpi1 hee hbt hpol' hpi2 hee' hcm' hbb hsc hec hbf hpi3 hed' hed hpi4 hlp hlast
   have hci:=zZHg (c0.ns.map D.str)
   have hdi : (c0.ns.map D.str).dropLast = c0.ns.dropLast.map D.str:=List.map_dropLast.symm
   rw [hdi] at hci
   have hct:=zZKr (cdD c0) (cr.map cdD)
   have hl1 : (c0.ns.dropLast.map D.str).length ≤ 1000:=by rw [List.length_map,List.length_dropLast]; omega
   have hl2 : (cr.map cdD).length ≤ 1000:=by rw [List.length_map]; rw [List.length_cons] at hcr; omega
   have hb1 : binD .add (.tup (c0.ns.dropLast.map D.str)) (.tup [.str s]) = some (.tup (c0.ns.dropLast.map D.str ++ [.str s])):=yZi (by rw [List.length_singleton]; omega)
   have hb2 : ∀ d,binD .add (.tup [d]) (.tup (cr.map cdD)) = some (.tup (d :: cr.map cdD)):=fun d=>yZi (by rw [List.length_singleton]; omega)
   have hmk : (⟨c0.nm,c0.k,c0.ns.dropLast ++ [s]⟩ :: cr : List Cd).map cdD = .tup [.str c0.nm,.str c0.k,.tup (c0.ns.dropLast.map D.str ++ [.str s])] :: cr.map cdD:=by rw [List.map_cons]; show D.tup [_,_,.tup ((c0.ns.dropLast ++ [s]).map .str)] :: _ = _; rw [List.map_append]; rfl
   rw [hmk]
   simp only [lE,polD,List.map_cons] at *
   generalize cdD c0 = CD0 at *
   generalize c0.ns.dropLast.map D.str = DL1 at *
   generalize c0.ns.map D.str = NS at *
   generalize cr.map cdD = CR at *
   clear hcd0 hdi
   walk_at "ev6"
  refine zZU (e1:=lE ns ks (c0 :: cr) cn t (.val (polQ (c0 :: cr) cn)) (.val (polQ (c0 :: cr) cn)) (.val (polD cs' cn')) (.val (.str s)) (.val (.tup ((⟨c0.nm,c0.k,c0.ns.dropLast ++ [s]⟩ :: cr : List Cd).map cdD))) .no .no (.val (.str c0.nm)) (.val (.str c0.k)) (.val (.tup (c0.ns.map .str)))) (W1:=W4) ?_ ?_
  ·clear hX hp hk hmade hpol hlw hj hr hsp hpt hst hpi1 hee hbt hpol' hpi2 hee' hcm' hbb hsc hed' hed hpi4 hlp hlast
   simp only [lE,polQ,polD] at *
   generalize (⟨c0.nm,c0.k,c0.ns.dropLast ++ [s]⟩ :: cr : List Cd).map cdD = CSx at *
   generalize (c0 :: cr).map cdD = CS at *
   generalize cn.map cqD = CN at *
   walk_at "ev6"
  refine zZU (e1:=lE ns ks (c0 :: cr) cn t (.val (polQ (c0 :: cr) cn)) (.val (polQ (c0 :: cr) cn)) (.val (polD cs' cn')) (.val (.str s)) (.val (.tup ((⟨c0.nm,c0.k,c0.ns.dropLast ++ [s]⟩ :: cr : List Cd).map cdD))) .no .no (.val (.str c0.nm)) (.val (.str c0.k)) (.val (.tup (c0.ns.map .str)))) (W1:=W4) ?_ ?_
  ·clear hX hp hk hmade hpol hlw hj hr hsp hpt hst hpi1 hee hbt hpol' hpi2 hee' hcm' hbb hsc hec hpi3 hed hlp hlast
   have hci:=zZHg (cn.map cqD)
   simp only [polQ] at hed'
   rw [hdl] at hed' hpi4
   clear hdl
   simp only [lE,polQ,polD] at *
   generalize (⟨c0.nm,c0.k,c0.ns.dropLast ++ [s]⟩ :: cr : List Cd).map cdD = CSx at *
   generalize (c0 :: cr).map cdD = CS at *
   generalize cn.map cqD = CN at *
   by_cases hcz : 0 < cn.length
   ·have hed2:=hed' hcz
    have hcz2 : 0 < (cn.length : Int):=by omega
    walk_at "ev6"
   ·have hcz2 : (cn.length : Int) = 0:=by omega
    walk_at "ev6"
  refine zZU (e1:=lE ns ks (c0 :: cr) cn t (.val (polQ (c0 :: cr) cn)) (.val (polQ (c0 :: cr) cn)) (.val (polD cs' cn')) (.val (.str s)) (.val (.tup ((⟨c0.nm,c0.k,c0.ns.dropLast ++ [s]⟩ :: cr : List Cd).map cdD))) (.val (.lst ((allS ks (c0 :: cr)).map prS))) .no (.val (.str c0.nm)) (.val (.str c0.k)) (.val (.tup (c0.ns.map .str)))) (W1:=W4) ?_ ?_
  ·clear hX hp hk hmade hpol hlw hj hr hsp hpt hst hpi1 hee hbt hpol' hpi2 hee' hcm' hbb hsc hec hbf hpi3 hed' hed hpi4 hlast
   simp only [lE,polD] at *
   generalize (c0 :: cr).map cdD = CS at *
   generalize polQ (c0 :: cr) cn = QQ at *
   walk_at "ev6"
  exact hX
 have hE : padE f_law.nl (List.map Slot.val [D.ext ns]) = ([.val (.ext ns),.no,.no,.no,.no,.no,.no,.no,.no,.no,.no,.no,.no,.no,.no,.no,.no,.no] : Env):=rfl
 have hal : ((((allS ks (c0 :: cr)).map prS).length : Nat) : Int) = ((allS ks (c0 :: cr)).length : Int):=by rw [List.length_map]
 have hgn : ∀ cx : D,(.tup [.tup ((c0 :: cr).map cdD),.tup (cn.map cqD)] : D) = cx → polD (c0 :: cr) cn = cx:=fun cx h=>h
 clear hgn
 show ∃ W,bnd (exS (cfgN T 39) zZCj (padE f_law.nl (List.map Slot.val [D.ext ns])) []) endR .mk = .ok (.bl true) W
 rw [hE]
 rcases hlast with hz | ⟨v,W5,p,z,hz,d5,hat,hem⟩
 ·refine ⟨W4,pre _ ?_⟩
  clear pre hp hk hmade hpol hlw hj hr hsp hpt hst hpi1 hee hbt hpol' hpi2 hee' hcm' hbb hsc hec hpi3 hed' hed hpi4 hlp
  simp only [dropS,zZCj,lE,polD] at *
  generalize (⟨c0.nm,c0.k,c0.ns.dropLast ++ [s]⟩ :: cr : List Cd).map cdD = CSx at *
  generalize (c0 :: cr).map cdD = CS at *
  generalize cn.map cqD = CN at *
  generalize (allS ks (c0 :: cr)).map prS = AS at *
  by_cases h0 : (allS ks (c0 :: cr)).length = 0
  ·have h0' : ((allS ks (c0 :: cr)).length : Int) = 0:=by omega
   walk_at "ev6"
  ·have h1 : ¬ (((allS ks (c0 :: cr)).length : Int) = 0):=by omega
   have h2 : 5 < (cn.length : Int):=by omega
   walk_at "ev6"
 ·refine ⟨W5,pre _ ?_⟩
  have h1 : ¬ (((allS ks (c0 :: cr)).length : Int) = 0):=by omega
  have h2 : ¬ (5 < (cn.length : Int)):=by omega
  have hbf5:=zZEx 38 false false W5
  rw [decide_eq_true rfl] at hbf5
  have hcl1 : (cn.map cqD).length ≤ 1000:=by rw [List.length_map]; omega
  have hpi5:=zZBP 38 (.tup ((c0 :: cr).map cdD)) (.tup ((cn ++ [Cq.tell p]).map cqD)) _ _ W5 (.inl rfl) (.inl rfl)
  have hmk : (cn ++ [Cq.tell p]).map cqD = cn.map cqD ++ [.tup [.str "tell",.str p.1,.str p.2]]:=by rw [List.map_append]; rfl
  have hb1 : binD .add (.tup [.str "tell"]) (.tup [.str p.1,.str p.2]) = some (.tup [.str "tell",.str p.1,.str p.2]):=rfl
  have hb2 : ∀ d,binD .add (.tup (cn.map cqD)) (.tup [d]) = some (.tup (cn.map cqD ++ [d])):=fun d=>yZi (by rw [List.length_singleton]; omega)
  have hln : ((cn ++ [Cq.tell p]).map cqD).length ≤ 1001:=by rw [hmk,List.length_append,List.length_singleton]; omega
  clear pre hp hk hmade hpol hlw hj hr hsp hpt hst hpi1 hee hbt hpol' hpi2 hee' hcm' hbb hsc hec hpi3 hed' hed hpi4 hlp
  simp only [polQ,hmk] at hem hpi5
  simp only [dropS,zZCj,lE,polD,polQ,prS,prD] at *
  generalize (⟨c0.nm,c0.k,c0.ns.dropLast ++ [s]⟩ :: cr : List Cd).map cdD = CSx at *
  generalize (c0 :: cr).map cdD = CS at *
  generalize cn.map cqD = CN at *
  generalize (allS ks (c0 :: cr)).map (fun x=>D.tup [.tup [.str x.1.1,.str x.1.2],.int x.2]) = AS at *
  clear hmk hln
  walk_at "ev6"
end PL
set_option maxRecDepth 100000
set_option maxHeartbeats 4000000
namespace Gen
open PySem PySem.W PySem.Calls PyProof.Rows
abbrev vS (s : String) (t : Nat) : Value:=.str (Str.ofString s) t
abbrev vI (i : Int) : Value:=.int i 0
abbrev de (P : Params) (s : String) (t : Nat) (v : Value) : DictEntry:=⟨PyData.keyHash P (Str.ofString s),.str (Str.ofString s) t,v⟩
abbrev oC (x : Array Value) : Obj:=.mk (.type "code") none (.fields x) #[]
abbrev oD (x : Array DictEntry) (n : Nat) : Obj:=.mk (.type "dict") none (.dict x n) #[]
abbrev oF (n q : String) (s : PySem.Stmt) (clo : List (Str × Addr)) (dv kv doc pm : Value) (an : Option Addr) (cd ct : Value) : Obj :=
 .mk (.type "function") none (.func (FuncData.mk (Str.ofString n) (Str.ofString q) (L2.defArgs s) (.stmts (L2.defBody s)) (L2.defScope s) 3 clo dv kv doc pm an cd ct 0)) #[]
noncomputable def KK (P : Params) : Frag :=
 (nat_lit 2,Obj.mk .none none (Data.dict #[]) #[]) ::
 (nat_lit 3,oD #[de P "__name__" 165 (vS "law_vouchdoor_k30_policies_read_and_written" 480),de P "__doc__" 166 .none,de P "__package__" 167 .none,de P "__loader__" 168 (.builtin "__main__.__loader__#opaque"),de P "__spec__" 169 .none,de P "__annotations__" 170 (.ref 6),de P "__builtins__" 171 (.ref 4),de P "__file__" 173 (vS "/claim/cut.py" 172),de P "__cached__" 174 .none,de P "VouchError" 206 (.ref 24),de P "BadText" 233 (.ref 46),de P "Kind" 275 (.ref 72),de P "kind_named" 284 (.ref 83),de P "KEYS" 294 (.ref 84),de P "LETTERS" 296 (vS "abcdefghijklmnopqrstuvwxyz" 295),de P "MOST_CARDS" 298 (Value.int 3 297),de P "MOST_ISSUERS" 300 (Value.int 3 299),de P "MOST_CONDITIONS" 302 (Value.int 6 301),de P "Policy" 348 (.ref 113),de P "is_name" 354 (.ref 122),de P "number_of" 360 (.ref 127),de P "Reader" 463 (.ref 203),de P "read_policy" 473 (.ref 214),de P "policy_text" 479 (.ref 219),de P "_law_pool" 489 (.ref 226),de P "_law_draw" 499 (.ref 233),de P "_law_same" 508 (.ref 240),de P "_law_name" 517 (.ref 247),de P "_law_unlike" 529 (.ref 254),de P "_law_all_kinds" 535 (.ref 259),de P "_law_pairs" 541 (.ref 264),de P "_law_policy" 547 (.ref 269),de P "_law_words" 553 (.ref 274),de P "law" 559 (.ref 279)] 34) ::
 (nat_lit 23,oD #[de P "__module__" 196 (vS "vouchdoor.errors" 187),de P "__firstlineno__" 200 (Value.int 2 199),de P "__static_attributes__" 201 (.ref 22),de P "__weakref__" 203 (.ref 25),de P "__doc__" 204 .none] 3) ::
 (nat_lit 24,Obj.mk (.type "type") none (Data.cls (ClassData.mk (Str.ofString "VouchError") [.type "ValueError"] [.ref 24,.type "ValueError",.type "Exception",.type "BaseException",.type "object"] 23 (Str.ofString "VouchError") true [] [.ref 46] false none false)) #[some (.ref 15),none,some (vS "VouchError" 189),some (vS "VouchError" 197),some (.builtin "ValueError.__new__"),some (.bool true)]) ::
 (nat_lit 25,Obj.mk (.type "getset_descriptor") none (Data.fields #[vS "__weakref__" 202,.ref 24,.builtin "ExceptionGroup.__weakref__",.none]) #[]) ::
 (nat_lit 31,Obj.mk (.type "cell") none (Data.cell (some (.ref 46))) #[]) ::
 (nat_lit 42,oC #[vS "__init__" 219,vS "BadText.__init__" 220,vS "/claim/cut.py" 221,vI 6,vI 2,vI 0,vI 0,vI 3,.ref 37,.bool true,vI 181,.ref 38,.none,.ref 39,.ref 40,.ref 41,vI 225,vI 6,vS "/claim/cut.py" 226]) ::
 (nat_lit 43,oF "__init__" "BadText.__init__" (L2.inClass (top 2) 0) [(Str.ofString "__class__",31)] .none .none .none (vS "vouchdoor.errors" 187) none (.ref 42) (.ref 36)) ::
 (nat_lit 45,oD #[de P "__module__" 214 (vS "vouchdoor.errors" 187),de P "__firstlineno__" 218 (Value.int 4 217),de P "__init__" 227 (.ref 43),de P "__static_attributes__" 229 (.ref 44),de P "__doc__" 231 .none] 3) ::
 (nat_lit 46,Obj.mk (.type "type") none (Data.cls (ClassData.mk (Str.ofString "BadText") [.ref 24] [.ref 46,.ref 24,.type "ValueError",.type "Exception",.type "BaseException",.type "object"] 45 (Str.ofString "BadText") true [] [] false none false)) #[some (.ref 28),none,some (vS "BadText" 207),some (vS "BadText" 215),some (.builtin "ValueError.__new__"),some (.bool true)]) ::
 (nat_lit 61,oC #[vS "__init__" 248,vS "Kind.__init__" 249,vS "/claim/cut.py" 250,vI 12,vI 3,vI 0,vI 0,vI 3,.ref 56,.bool true,vI 181,.ref 57,.none,.ref 58,.ref 59,.ref 60,vI 254,vI 12,vS "/claim/cut.py" 255]) ::
 (nat_lit 62,oF "__init__" "Kind.__init__" (L2.inClass (top 4) 0) [] .none .none .none (vS "vouchdoor.issuer" 234) none (.ref 61) .none) ::
 (nat_lit 68,oC #[vS "__eq__" 257,vS "Kind.__eq__" 258,vS "/claim/cut.py" 259,vI 16,vI 2,vI 0,vI 0,vI 3,.ref 63,.bool true,vI 181,.ref 64,.none,.ref 65,.ref 66,.ref 67,vI 262,vI 16,vS "/claim/cut.py" 263]) ::
 (nat_lit 69,oF "__eq__" "Kind.__eq__" (L2.inClass (top 4) 1) [] .none .none .none (vS "vouchdoor.issuer" 234) none (.ref 68) .none) ::
 (nat_lit 71,oD #[de P "__module__" 243 (vS "vouchdoor.issuer" 234),de P "__firstlineno__" 247 (Value.int 10 246),de P "__init__" 256 (.ref 62),de P "__eq__" 264 (.ref 69),de P "__static_attributes__" 267 (.ref 70),de P "__dict__" 269 (.ref 73),de P "__weakref__" 271 (.ref 74),de P "__doc__" 272 .none,de P "__hash__" 273 .none] 5) ::
 (nat_lit 72,Obj.mk (.type "type") none (Data.cls (ClassData.mk (Str.ofString "Kind") [.type "object"] [.ref 72,.type "object"] 71 (Str.ofString "Kind") true [] [] false none false)) #[none,none,some (vS "Kind" 236),some (vS "Kind" 244),some (.builtin "object.__new__"),some (.bool true)]) ::
 (nat_lit 73,Obj.mk (.type "getset_descriptor") none (Data.fields #[vS "__dict__" 268,.ref 72,.builtin "function.__dict__",.builtin "function.__dict__#set"]) #[]) ::
 (nat_lit 74,Obj.mk (.type "getset_descriptor") none (Data.fields #[vS "__weakref__" 270,.ref 72,.builtin "ExceptionGroup.__weakref__",.none]) #[]) ::
 (nat_lit 82,oC #[vS "kind_named" 276,vS "kind_named" 277,vS "/claim/cut.py" 278,vI 18,vI 2,vI 0,vI 0,vI 3,.ref 77,.bool true,vI 181,.ref 78,.none,.ref 79,.ref 80,.ref 81,vI 282,vI 18,vS "/claim/cut.py" 283]) ::
 (nat_lit 83,oF "kind_named" "kind_named" (top 5) [] .none .none .none (vS "vouchdoor.issuer" 234) none (.ref 82) .none) ::
 (nat_lit 84,Obj.mk (.type "tuple") none (Data.seq #[vS "card" 287,vS "from" 288,vS "tell" 289,vS "equal" 290,vS "least" 291,vS "among" 292,vS "same" 293]) #[]) ::
 (nat_lit 97,oC #[vS "__init__" 315,vS "Policy.__init__" 316,vS "/claim/cut.py" 317,vI 31,vI 3,vI 0,vI 0,vI 3,.ref 92,.bool true,vI 181,.ref 93,.none,.ref 94,.ref 95,.ref 96,vI 321,vI 31,vS "/claim/cut.py" 322]) ::
 (nat_lit 98,oF "__init__" "Policy.__init__" (L2.inClass (top 12) 0) [] .none .none .none (vS "vouchdoor.policy" 285) none (.ref 97) .none) ::
 (nat_lit 104,oC #[vS "__eq__" 324,vS "Policy.__eq__" 325,vS "/claim/cut.py" 326,vI 35,vI 2,vI 0,vI 0,vI 3,.ref 99,.bool true,vI 181,.ref 100,.none,.ref 101,.ref 102,.ref 103,vI 329,vI 35,vS "/claim/cut.py" 330]) ::
 (nat_lit 105,oF "__eq__" "Policy.__eq__" (L2.inClass (top 12) 1) [] .none .none .none (vS "vouchdoor.policy" 285) none (.ref 104) .none) ::
 (nat_lit 109,oC #[vS "place" 332,vS "Policy.place" 333,vS "/claim/cut.py" 334,vI 38,vI 2,vI 0,vI 0,vI 3,.ref 106,.bool true,vI 181,.ref 107,.none,.none,.none,.ref 108,vI 335,vI 38,vS "/claim/cut.py" 336]) ::
 (nat_lit 110,oF "place" "Policy.place" (L2.inClass (top 12) 2) [] .none .none .none (vS "vouchdoor.policy" 285) none (.ref 109) .none) ::
 (nat_lit 112,oD #[de P "__module__" 310 (vS "vouchdoor.policy" 285),de P "__firstlineno__" 314 (Value.int 29 313),de P "__init__" 323 (.ref 98),de P "__eq__" 331 (.ref 105),de P "place" 337 (.ref 110),de P "__static_attributes__" 340 (.ref 111),de P "__dict__" 342 (.ref 114),de P "__weakref__" 344 (.ref 115),de P "__doc__" 345 .none,de P "__hash__" 346 .none] 5) ::
 (nat_lit 113,Obj.mk (.type "type") none (Data.cls (ClassData.mk (Str.ofString "Policy") [.type "object"] [.ref 113,.type "object"] 112 (Str.ofString "Policy") true [] [] false none false)) #[none,none,some (vS "Policy" 303),some (vS "Policy" 311),some (.builtin "object.__new__"),some (.bool true)]) ::
 (nat_lit 114,Obj.mk (.type "getset_descriptor") none (Data.fields #[vS "__dict__" 341,.ref 113,.builtin "function.__dict__",.builtin "function.__dict__#set"]) #[]) ::
 (nat_lit 115,Obj.mk (.type "getset_descriptor") none (Data.fields #[vS "__weakref__" 343,.ref 113,.builtin "ExceptionGroup.__weakref__",.none]) #[]) ::
 (nat_lit 121,oC #[vS "is_name" 349,vS "is_name" 350,vS "/claim/cut.py" 351,vI 40,vI 1,vI 0,vI 0,vI 3,.ref 118,.bool true,vI 181,.ref 119,.none,.none,.none,.ref 120,vI 352,vI 40,vS "/claim/cut.py" 353]) ::
 (nat_lit 122,oF "is_name" "is_name" (top 13) [] .none .none .none (vS "vouchdoor.policy" 285) none (.ref 121) .none) ::
 (nat_lit 126,oC #[vS "number_of" 355,vS "number_of" 356,vS "/claim/cut.py" 357,vI 42,vI 1,vI 0,vI 0,vI 3,.ref 123,.bool true,vI 181,.ref 124,.none,.none,.none,.ref 125,vI 358,vI 42,vS "/claim/cut.py" 359]) ::
 (nat_lit 127,oF "number_of" "number_of" (top 14) [] .none .none .none (vS "vouchdoor.policy" 285) none (.ref 126) .none) ::
 (nat_lit 140,oC #[vS "__init__" 373,vS "Reader.__init__" 374,vS "/claim/cut.py" 375,vI 48,vI 3,vI 0,vI 0,vI 3,.ref 135,.bool true,vI 181,.ref 136,.none,.ref 137,.ref 138,.ref 139,vI 379,vI 48,vS "/claim/cut.py" 380]) ::
 (nat_lit 141,oF "__init__" "Reader.__init__" (L2.inClass (top 15) 0) [] .none .none .none (vS "vouchdoor.policy" 285) none (.ref 140) .none) ::
 (nat_lit 147,oC #[vS "word" 382,vS "Reader.word" 383,vS "/claim/cut.py" 384,vI 54,vI 1,vI 0,vI 0,vI 3,.ref 142,.bool true,vI 181,.ref 143,.none,.ref 144,.ref 145,.ref 146,vI 386,vI 54,vS "/claim/cut.py" 387]) ::
 (nat_lit 148,oF "word" "Reader.word" (L2.inClass (top 15) 1) [] .none .none .none (vS "vouchdoor.policy" 285) none (.ref 147) .none) ::
 (nat_lit 154,oC #[vS "take" 389,vS "Reader.take" 390,vS "/claim/cut.py" 391,vI 59,vI 2,vI 0,vI 0,vI 3,.ref 149,.bool true,vI 181,.ref 150,.none,.ref 151,.ref 152,.ref 153,vI 395,vI 59,vS "/claim/cut.py" 396]) ::
 (nat_lit 155,oF "take" "Reader.take" (L2.inClass (top 15) 2) [] .none .none .none (vS "vouchdoor.policy" 285) none (.ref 154) .none) ::
 (nat_lit 161,oC #[vS "take_name" 398,vS "Reader.take_name" 399,vS "/claim/cut.py" 400,vI 66,vI 2,vI 0,vI 0,vI 3,.ref 156,.bool true,vI 181,.ref 157,.none,.ref 158,.ref 159,.ref 160,vI 404,vI 66,vS "/claim/cut.py" 405]) ::
 (nat_lit 162,oF "take_name" "Reader.take_name" (L2.inClass (top 15) 3) [] .none .none .none (vS "vouchdoor.policy" 285) none (.ref 161) .none) ::
 (nat_lit 168,oC #[vS "take_number" 407,vS "Reader.take_number" 408,vS "/claim/cut.py" 409,vI 73,vI 3,vI 0,vI 0,vI 3,.ref 163,.bool true,vI 181,.ref 164,.none,.ref 165,.ref 166,.ref 167,vI 414,vI 73,vS "/claim/cut.py" 415]) ::
 (nat_lit 169,oF "take_number" "Reader.take_number" (L2.inClass (top 15) 4) [] .none .none .none (vS "vouchdoor.policy" 285) none (.ref 168) .none) ::
 (nat_lit 170,Obj.mk (.type "tuple") none (Data.seq #[]) #[]) ::
 (nat_lit 171,Obj.mk (.type "tuple") none (Data.seq #[.ref 170]) #[]) ::
 (nat_lit 175,oC #[vS "pairs" 417,vS "Reader.pairs" 418,vS "/claim/cut.py" 419,vI 80,vI 2,vI 0,vI 0,vI 3,.ref 172,.bool true,vI 181,.ref 173,.none,.none,.none,.ref 174,vI 420,vI 80,vS "/claim/cut.py" 421]) ::
 (nat_lit 176,oF "pairs" "Reader.pairs" (L2.inClass (top 15) 5) [] (.ref 171) .none .none (vS "vouchdoor.policy" 285) none (.ref 175) .none) ::
 (nat_lit 177,Obj.mk (.type "tuple") none (Data.seq #[]) #[]) ::
 (nat_lit 178,Obj.mk (.type "tuple") none (Data.seq #[.ref 177]) #[]) ::
 (nat_lit 182,oC #[vS "take_value" 423,vS "Reader.take_value" 424,vS "/claim/cut.py" 425,vI 86,vI 2,vI 0,vI 0,vI 3,.ref 179,.bool true,vI 181,.ref 180,.none,.none,.none,.ref 181,vI 426,vI 86,vS "/claim/cut.py" 427]) ::
 (nat_lit 183,oF "take_value" "Reader.take_value" (L2.inClass (top 15) 6) [] (.ref 178) .none .none (vS "vouchdoor.policy" 285) none (.ref 182) .none) ::
 (nat_lit 187,oC #[vS "size" 429,vS "Reader.size" 430,vS "/claim/cut.py" 431,vI 91,vI 2,vI 0,vI 0,vI 3,.ref 184,.bool true,vI 181,.ref 185,.none,.none,.none,.ref 186,vI 432,vI 91,vS "/claim/cut.py" 433]) ::
 (nat_lit 188,oF "size" "Reader.size" (L2.inClass (top 15) 7) [] .none .none .none (vS "vouchdoor.policy" 285) none (.ref 187) .none) ::
 (nat_lit 192,oC #[vS "card" 435,vS "Reader.card" 436,vS "/claim/cut.py" 437,vI 95,vI 1,vI 0,vI 0,vI 3,.ref 189,.bool true,vI 181,.ref 190,.none,.none,.none,.ref 191,vI 438,vI 95,vS "/claim/cut.py" 439]) ::
 (nat_lit 193,oF "card" "Reader.card" (L2.inClass (top 15) 8) [] .none .none .none (vS "vouchdoor.policy" 285) none (.ref 192) .none) ::
 (nat_lit 199,oC #[vS "condition" 441,vS "Reader.condition" 442,vS "/claim/cut.py" 443,vI 105,vI 1,vI 0,vI 0,vI 3,.ref 194,.bool true,vI 181,.ref 195,.none,.ref 196,.ref 197,.ref 198,vI 449,vI 105,vS "/claim/cut.py" 450]) ::
 (nat_lit 200,oF "condition" "Reader.condition" (L2.inClass (top 15) 9) [] .none .none .none (vS "vouchdoor.policy" 285) none (.ref 199) .none) ::
 (nat_lit 202,oD #[de P "__module__" 368 (vS "vouchdoor.policy" 285),de P "__firstlineno__" 372 (Value.int 46 371),de P "__init__" 381 (.ref 141),de P "word" 388 (.ref 148),de P "take" 397 (.ref 155),de P "take_name" 406 (.ref 162),de P "take_number" 416 (.ref 169),de P "pairs" 422 (.ref 176),de P "take_value" 428 (.ref 183),de P "size" 434 (.ref 188),de P "card" 440 (.ref 193),de P "condition" 451 (.ref 200),de P "__static_attributes__" 456 (.ref 201),de P "__dict__" 458 (.ref 204),de P "__weakref__" 460 (.ref 205),de P "__doc__" 461 .none] 4) ::
 (nat_lit 203,Obj.mk (.type "type") none (Data.cls (ClassData.mk (Str.ofString "Reader") [.type "object"] [.ref 203,.type "object"] 202 (Str.ofString "Reader") true [] [] false none false)) #[none,none,some (vS "Reader" 361),some (vS "Reader" 369),some (.builtin "object.__new__"),some (.bool true)]) ::
 (nat_lit 204,Obj.mk (.type "getset_descriptor") none (Data.fields #[vS "__dict__" 457,.ref 203,.builtin "function.__dict__",.builtin "function.__dict__#set"]) #[]) ::
 (nat_lit 205,Obj.mk (.type "getset_descriptor") none (Data.fields #[vS "__weakref__" 459,.ref 203,.builtin "ExceptionGroup.__weakref__",.none]) #[]) ::
 (nat_lit 213,oC #[vS "read_policy" 464,vS "read_policy" 465,vS "/claim/cut.py" 466,vI 122,vI 2,vI 0,vI 0,vI 3,.ref 208,.bool true,vI 181,.ref 209,.none,.ref 210,.ref 211,.ref 212,vI 471,vI 122,vS "/claim/cut.py" 472]) ::
 (nat_lit 214,oF "read_policy" "read_policy" (top 16) [] .none .none .none (vS "vouchdoor.policy" 285) none (.ref 213) .none) ::
 (nat_lit 218,oC #[vS "policy_text" 474,vS "policy_text" 475,vS "/claim/cut.py" 476,vI 133,vI 1,vI 0,vI 0,vI 3,.ref 215,.bool true,vI 181,.ref 216,.none,.none,.none,.ref 217,vI 477,vI 133,vS "/claim/cut.py" 478]) ::
 (nat_lit 219,oF "policy_text" "policy_text" (top 17) [] .none .none .none (vS "vouchdoor.policy" 285) none (.ref 218) .none) ::
 (nat_lit 225,oC #[vS "_law_pool" 482,vS "_law_pool" 483,vS "/claim/cut.py" 484,vI 145,vI 2,vI 0,vI 0,vI 3,.ref 220,.bool true,vI 181,.ref 221,.none,.ref 222,.ref 223,.ref 224,vI 487,vI 145,vS "/claim/cut.py" 488]) ::
 (nat_lit 226,oF "_law_pool" "_law_pool" (top 19) [] .none .none .none (vS "law_vouchdoor_k30_policies_read_and_written" 480) none (.ref 225) .none) ::
 (nat_lit 232,oC #[vS "_law_draw" 490,vS "_law_draw" 491,vS "/claim/cut.py" 492,vI 147,vI 2,vI 0,vI 0,vI 3,.ref 227,.bool true,vI 181,.ref 228,.none,.ref 229,.ref 230,.ref 231,vI 497,vI 147,vS "/claim/cut.py" 498]) ::
 (nat_lit 233,oF "_law_draw" "_law_draw" (top 20) [] .none .none .none (vS "law_vouchdoor_k30_policies_read_and_written" 480) none (.ref 232) .none) ::
 (nat_lit 239,oC #[vS "_law_same" 500,vS "_law_same" 501,vS "/claim/cut.py" 502,vI 163,vI 2,vI 0,vI 0,vI 3,.ref 234,.bool true,vI 181,.ref 235,.none,.ref 236,.ref 237,.ref 238,vI 506,vI 163,vS "/claim/cut.py" 507]) ::
 (nat_lit 240,oF "_law_same" "_law_same" (top 21) [] .none .none .none (vS "law_vouchdoor_k30_policies_read_and_written" 480) none (.ref 239) .none) ::
 (nat_lit 246,oC #[vS "_law_name" 509,vS "_law_name" 510,vS "/claim/cut.py" 511,vI 178,vI 1,vI 0,vI 0,vI 3,.ref 241,.bool true,vI 181,.ref 242,.none,.ref 243,.ref 244,.ref 245,vI 515,vI 178,vS "/claim/cut.py" 516]) ::
 (nat_lit 247,oF "_law_name" "_law_name" (top 22) [] .none .none .none (vS "law_vouchdoor_k30_policies_read_and_written" 480) none (.ref 246) .none) ::
 (nat_lit 253,oC #[vS "_law_unlike" 518,vS "_law_unlike" 519,vS "/claim/cut.py" 520,vI 187,vI 2,vI 0,vI 0,vI 3,.ref 248,.bool true,vI 181,.ref 249,.none,.ref 250,.ref 251,.ref 252,vI 527,vI 187,vS "/claim/cut.py" 528]) ::
 (nat_lit 254,oF "_law_unlike" "_law_unlike" (top 23) [] .none .none .none (vS "law_vouchdoor_k30_policies_read_and_written" 480) none (.ref 253) .none) ::
 (nat_lit 258,oC #[vS "_law_all_kinds" 530,vS "_law_all_kinds" 531,vS "/claim/cut.py" 532,vI 196,vI 1,vI 0,vI 0,vI 3,.ref 255,.bool true,vI 181,.ref 256,.none,.none,.none,.ref 257,vI 533,vI 196,vS "/claim/cut.py" 534]) ::
 (nat_lit 259,oF "_law_all_kinds" "_law_all_kinds" (top 24) [] .none .none .none (vS "law_vouchdoor_k30_policies_read_and_written" 480) none (.ref 258) .none) ::
 (nat_lit 263,oC #[vS "_law_pairs" 536,vS "_law_pairs" 537,vS "/claim/cut.py" 538,vI 202,vI 2,vI 0,vI 0,vI 3,.ref 260,.bool true,vI 181,.ref 261,.none,.none,.none,.ref 262,vI 539,vI 202,vS "/claim/cut.py" 540]) ::
 (nat_lit 264,oF "_law_pairs" "_law_pairs" (top 25) [] .none .none .none (vS "law_vouchdoor_k30_policies_read_and_written" 480) none (.ref 263) .none) ::
 (nat_lit 268,oC #[vS "_law_policy" 542,vS "_law_policy" 543,vS "/claim/cut.py" 544,vI 208,vI 2,vI 0,vI 0,vI 3,.ref 265,.bool true,vI 181,.ref 266,.none,.none,.none,.ref 267,vI 545,vI 208,vS "/claim/cut.py" 546]) ::
 (nat_lit 269,oF "_law_policy" "_law_policy" (top 26) [] .none .none .none (vS "law_vouchdoor_k30_policies_read_and_written" 480) none (.ref 268) .none) ::
 (nat_lit 273,oC #[vS "_law_words" 548,vS "_law_words" 549,vS "/claim/cut.py" 550,vI 231,vI 1,vI 0,vI 0,vI 3,.ref 270,.bool true,vI 181,.ref 271,.none,.none,.none,.ref 272,vI 551,vI 231,vS "/claim/cut.py" 552]) ::
 (nat_lit 274,oF "_law_words" "_law_words" (top 27) [] .none .none .none (vS "law_vouchdoor_k30_policies_read_and_written" 480) none (.ref 273) .none) ::
 (nat_lit 278,oC #[vS "law" 554,vS "law" 555,vS "/claim/cut.py" 556,vI 244,vI 1,vI 0,vI 0,vI 3,.ref 275,.bool true,vI 181,.ref 276,.none,.none,.none,.ref 277,vI 557,vI 244,vS "/claim/cut.py" 558]) ::
 (nat_lit 279,oF "law" "law" (top 28) [] .none .none .none (vS "law_vouchdoor_k30_policies_read_and_written" 480) none (.ref 278) .none) ::
 []
def KA : List Addr :=
 nat_lit 2 :: nat_lit 3 :: nat_lit 23 :: nat_lit 24 :: nat_lit 25 :: nat_lit 31 :: nat_lit 42 :: nat_lit 43 :: nat_lit 45 :: nat_lit 46 :: nat_lit 61 :: nat_lit 62 :: nat_lit 68 :: nat_lit 69 :: nat_lit 71 :: nat_lit 72 :: nat_lit 73 :: nat_lit 74 :: nat_lit 82 :: nat_lit 83 :: nat_lit 84 :: nat_lit 97 :: nat_lit 98 :: nat_lit 104 :: nat_lit 105 :: nat_lit 109 :: nat_lit 110 :: nat_lit 112 :: nat_lit 113 :: nat_lit 114 :: nat_lit 115 :: nat_lit 121 :: nat_lit 122 :: nat_lit 126 :: nat_lit 127 :: nat_lit 140 :: nat_lit 141 :: nat_lit 147 :: nat_lit 148 :: nat_lit 154 :: nat_lit 155 :: nat_lit 161 :: nat_lit 162 :: nat_lit 168 :: nat_lit 169 :: nat_lit 170 :: nat_lit 171 :: nat_lit 175 :: nat_lit 176 :: nat_lit 177 :: nat_lit 178 :: nat_lit 182 :: nat_lit 183 :: nat_lit 187 :: nat_lit 188 :: nat_lit 192 :: nat_lit 193 :: nat_lit 199 :: nat_lit 200 :: nat_lit 202 :: nat_lit 203 :: nat_lit 204 :: nat_lit 205 :: nat_lit 213 :: nat_lit 214 :: nat_lit 218 :: nat_lit 219 :: nat_lit 225 :: nat_lit 226 :: nat_lit 232 :: nat_lit 233 :: nat_lit 239 :: nat_lit 240 :: nat_lit 246 :: nat_lit 247 :: nat_lit 253 :: nat_lit 254 :: nat_lit 258 :: nat_lit 259 :: nat_lit 263 :: nat_lit 264 :: nat_lit 268 :: nat_lit 269 :: nat_lit 273 :: nat_lit 274 :: nat_lit 278 :: nat_lit 279 :: []
theorem KE : ∀ P,KA = (KK P).map (·.1):=fun P=>by kernel_rfl
def loose0 : List Str:=["VouchError","BadText","Kind","kind_named","KEYS","LETTERS","MOST_CARDS","MOST_ISSUERS","MOST_CONDITIONS","Policy","is_name","number_of","Reader","read_policy","policy_text","_law_pool","_law_draw","_law_same","_law_name","_law_unlike","_law_all_kinds","_law_pairs","_law_policy","_law_words"]
def loose : List Str:=loose0
abbrev hkR : OpenRow := OpenLaw.row PySem.Challenge.rw_vouchdoor_k30_policies_read_and_written
abbrev hkV : Program:=view hkR.prog [28]
theorem zZMI {α β γ δ : Type} {X : Option α} {f : α → β} {g : α → γ} {h : α → δ} {b : β} {c : γ} {d : δ} (h1 : X.map (fun s=>(f s,g s)) = some (b,c)) (h2 : X.map h = some d) : X.map (fun s=>(f s,g s,h s)) = some (b,c,d):=by
 cases X with
 | none=>cases h1
 | some x =>
  simp only [Option.map_some,Option.some.injEq,Prod.mk.injEq] at h1 h2 ⊢
  exact ⟨h1.1,h1.2,h2⟩
theorem zZLJ (w : World) (os : OsState) : (HandSHeadRun.endF (HandSHeadRun.stepQ (HandSHeadRun.denQ HandSHeadRun.tabQ) hkR.prog w) 2440 hkR.prog w os).map (fun s=>(HandSHeadRun.looksF hkR.prog (boot_heap w.params) s.abs,HandSHeadRun.seenQ hkV loose (importedModules hkR.prog.main.body) (fun s=>xlAt hkV [] s && recOk hkR.toRowW.records s) s.abs)) = some (true,openGood hkV loose):=by
 kernel_rfl
theorem zZMO (w : World) (os : OsState) : (HandSHeadRun.endF (HandSHeadRun.stepQ (HandSHeadRun.denQ HandSHeadRun.tabQ) hkR.prog w) 2440 hkR.prog w os).map (fun s=>KA.map (HandSHeadRun.getT s)) = some ((KK w.params).map fun p=>some p.2):=by
 kernel_rfl
theorem hk_run (w : World) : HandSHeadRun.RunEq hkR hkV (kHook KK KA KE) (fun s=>KA.map (HandSHeadRun.getT s)) 2440 loose w:=fun os=>zZMI (zZLJ w os) (zZMO w os)
theorem hk_obs (s : SharedT) : KA.map (HandSHeadRun.getT s) = (kHook KK KA KE).obs s.abs:=List.map_congr_left fun a _=>HandSHeadRun.getT_eq s a
end Gen
open PySem PySem.W PySem.Calls PyProof.Rows
set_option maxRecDepth 100000 in
set_option maxHeartbeats 0 in
theorem PySem.Challenge.cw_vouchdoor_k30_policies_read_and_written_holds : PySem.Challenge.rw_vouchdoor_k30_policies_read_and_written.Holds := by
 w_on; o_law
 refine HandSHeadRun.head_any (r:=Gen.hkR) (q:=Gen.hkV) (H:=kHook Gen.KK Gen.KA Gen.KE) (ob:=fun s=>Gen.KA.map (HandSHeadRun.getT s)) (loose:=Gen.loose) (kwd:=[]) Gen.hk_obs (by kernel_rfl) (fun s=>by kernel_rfl) Gen.hk_run (by rfl) (by rfl) (by rfl) (by rfl) (by first | assumption | decide +kernel) (by decide +kernel) ⟨rfl,rfl,rfl,rfl,rfl,by decide +kernel⟩ ?hw ?hc
 (case hw=>w_witness2)
 k_fill
 refine Gen.walk (l := PySem.Challenge.rw_vouchdoor_k30_policies_read_and_written) rfl rfl (fun w h Y => PySem.W.kIn_of Y) ?F
 case F =>
  intro w mg fa h KX G hmg
  refine' Gen.all_mk KX G hmg ?qc0 ?pg0 ?hd0 ?po0 ?sa0 ?mk0 ?kc0 ?qc1 ?pg1 ?hd1 ?po1 ?sa1 ?mk1 ?kc1 ?qc2 ?pg2 ?hd2 ?po2 ?sa2 ?mk2 ?kc2 ?ja1 ?jm1 ?jy1 ?en3 ?et3 ?ed3 ?eb3 ?ek3 ?eg3 ?ea3 ?ec3 ?em3 ?zi3 ?zty3 ?zl3 ?zco3 ?zk3 ?zw2_3 ?zfl3 ?zce3 ?zm3 ?zsu3 ?zoe3 ?zsa3 ?zwh3 ?zsp ?zst ?ztp ?zB3 ?jn ?jt ?jf1 ?na0_12 ?na0_13 ?na1_28 ?na1_29 ?na2_31 ?na2_32 ?na2_20 ?na2_28 ?q0 ?i0 ?l0 ?c0 ?k0 ?q1 ?l1 ?c1 ?k1 ?q2 ?i2 ?l2 ?c2 ?k2 ?q3 ?i3 ?l3 ?c3 ?k3 ?q4 ?l4 ?c4 ?k4 ?q5 ?l5 ?c5 ?k5 ?q6 ?i6 ?l6 ?c6 ?k6 ?q7 ?i7 ?l7 ?c7 ?k7 ?q8 ?i8 ?l8 ?c8 ?k8 ?q9 ?i9 ?l9 ?c9 ?k9 ?q10 ?i10 ?l10 ?c10 ?k10 ?dl11 ?dp11 ?q11 ?i11 ?l11 ?c11 ?k11 ?dl12 ?dp12 ?q12 ?i12 ?l12 ?c12 ?k12 ?q13 ?i13 ?l13 ?c13 ?k13 ?q14 ?i14 ?l14 ?c14 ?k14 ?q15 ?i15 ?l15 ?c15 ?k15 ?q16 ?l16 ?c16 ?k16 ?q17 ?l17 ?c17 ?k17 ?q18 ?l18 ?c18 ?k18 ?q19 ?l19 ?c19 ?k19 ?q20 ?l20 ?c20 ?k20 ?q21 ?l21 ?c21 ?k21 ?q22 ?l22 ?c22 ?k22 ?q23 ?l23 ?c23 ?k23 ?q24 ?l24 ?c24 ?k24 ?q25 ?l25 ?c25 ?k25 ?q26 ?l26 ?c26 ?k26 ?q27 ?l27 ?c27 ?k27 ?z0 ?z1 ?z2 ?z3 ?z4 ?z5 ?z6 ?z7 ?z8 ?z9 ?gi0 ?gi1 ?gi2 ?gs0 ?gka0 ?gkb0 PL.plain
  (case qc0=>k_is)
  (case pg0=>k_is)
  (case hd0=>k_is)
  (case po0=>k_is)
  (case sa0=>k_is)
  (case mk0=>k_is)
  (case kc0=>k_is)
  (case qc1=>k_is)
  (case pg1=>k_is)
  (case hd1=>k_is)
  (case po1=>k_is)
  (case sa1=>k_is)
  (case mk1=>k_is)
  (case kc1=>k_is)
  (case qc2=>k_is)
  (case pg2=>k_is)
  (case hd2=>k_is)
  (case po2=>k_is)
  (case sa2=>k_is)
  (case mk2=>k_is)
  (case kc2=>k_is)
  (case ja1=>k_is)
  (case jm1=>k_is)
  (case jy1=>k_is)
  (case en3=>k_is)
  (case et3=>k_is)
  (case ed3=>k_is)
  (case eb3=>k_is)
  (case ek3=>k_is)
  (case eg3=>k_is)
  (case ea3=>k_is)
  (case ec3=>k_is)
  (case em3=>k_is)
  (case zi3=>k_is)
  (case zty3=>k_is)
  (case zl3=>k_is)
  (case zco3=>k_is)
  (case zk3=>k_is)
  (case zw2_3=>rfl)
  (case zfl3=>rfl)
  (case zce3=>k_is)
  (case zm3=>k_is)
  (case zsu3=>ks_is)
  (case zoe3=>exact ⟨_,_,_,_,_,_,_,_,_,_,_,_,_,_,_,by k_is,rfl⟩)
  (case zsa3=>k_is)
  (case zwh3=>k_is)
  (case zsp=>k_is)
  (case zst=>k_is)
  (case ztp=>rfl)
  (case zB3=>k_is)
  (case jn=>k_is)
  (case jt=>k_is)
  (case jf1=>k_is)
  (case na0_12=>k_is)
  (case na0_13=>k_is)
  (case na1_28=>k_is)
  (case na1_29=>k_is)
  (case na2_31=>k_is)
  (case na2_32=>k_is)
  (case na2_20=>k_is)
  (case na2_28=>k_is)
  (case q0=>k_is)
  (case i0=>k_is)
  (case l0=>k_is)
  (case c0=>k_is)
  (case k0=>k_is)
  (case q1=>k_is)
  (case l1=>k_is)
  (case c1=>k_is)
  (case k1=>k_is)
  (case q2=>k_is)
  (case i2=>k_is)
  (case l2=>k_is)
  (case c2=>k_is)
  (case k2=>k_is)
  (case q3=>k_is)
  (case i3=>k_is)
  (case l3=>k_is)
  (case c3=>k_is)
  (case k3=>k_is)
  (case q4=>k_is)
  (case l4=>k_is)
  (case c4=>k_is)
  (case k4=>k_is)
  (case q5=>k_is)
  (case l5=>k_is)
  (case c5=>k_is)
  (case k5=>k_is)
  (case q6=>k_is)
  (case i6=>k_is)
  (case l6=>k_is)
  (case c6=>k_is)
  (case k6=>k_is)
  (case q7=>k_is)
  (case i7=>k_is)
  (case l7=>k_is)
  (case c7=>k_is)
  (case k7=>k_is)
  (case q8=>k_is)
  (case i8=>k_is)
  (case l8=>k_is)
  (case c8=>k_is)
  (case k8=>k_is)
  (case q9=>k_is)
  (case i9=>k_is)
  (case l9=>k_is)
  (case c9=>k_is)
  (case k9=>k_is)
  (case q10=>k_is)
  (case i10=>k_is)
  (case l10=>k_is)
  (case c10=>k_is)
  (case k10=>k_is)
  (case q11=>k_is)
  (case i11=>k_is)
  (case l11=>k_is)
  (case c11=>k_is)
  (case k11=>k_is)
  (case q12=>k_is)
  (case i12=>k_is)
  (case l12=>k_is)
  (case c12=>k_is)
  (case k12=>k_is)
  (case q13=>k_is)
  (case i13=>k_is)
  (case l13=>k_is)
  (case c13=>k_is)
  (case k13=>k_is)
  (case q14=>k_is)
  (case i14=>k_is)
  (case l14=>k_is)
  (case c14=>k_is)
  (case k14=>k_is)
  (case q15=>k_is)
  (case i15=>k_is)
  (case l15=>k_is)
  (case c15=>k_is)
  (case k15=>k_is)
  (case q16=>k_is)
  (case l16=>k_is)
  (case c16=>k_is)
  (case k16=>k_is)
  (case q17=>k_is)
  (case l17=>k_is)
  (case c17=>k_is)
  (case k17=>k_is)
  (case q18=>k_is)
  (case l18=>k_is)
  (case c18=>k_is)
  (case k18=>k_is)
  (case q19=>k_is)
  (case l19=>k_is)
  (case c19=>k_is)
  (case k19=>k_is)
  (case q20=>k_is)
  (case l20=>k_is)
  (case c20=>k_is)
  (case k20=>k_is)
  (case q21=>k_is)
  (case l21=>k_is)
  (case c21=>k_is)
  (case k21=>k_is)
  (case q22=>k_is)
  (case l22=>k_is)
  (case c22=>k_is)
  (case k22=>k_is)
  (case q23=>k_is)
  (case l23=>k_is)
  (case c23=>k_is)
  (case k23=>k_is)
  (case q24=>k_is)
  (case l24=>k_is)
  (case c24=>k_is)
  (case k24=>k_is)
  (case q25=>k_is)
  (case l25=>k_is)
  (case c25=>k_is)
  (case k25=>k_is)
  (case q26=>k_is)
  (case l26=>k_is)
  (case c26=>k_is)
  (case k26=>k_is)
  (case q27=>k_is)
  (case l27=>k_is)
  (case c27=>k_is)
  (case k27=>k_is)
  (case z0=>k_is)
  (case z1=>k_is)
  (case z2=>k_is)
  (case z3=>k_is)
  (case z4=>k_is)
  (case z5=>k_is)
  (case z6=>k_is)
  (case z7=>k_is)
  (case z8=>k_is)
  (case z9=>k_is)
  (case gi0=>exact ⟨_,by k_is⟩)
  (case gi1=>exact ⟨_,by k_is⟩)
  (case gi2=>exact ⟨_,by k_is⟩)
  (case gs0=>exact ⟨_,by k_is⟩)
  (case gka0=>k_is)
  (case gkb0=>k_is)
  (case dl11=>k_is)
  (case dl12=>k_is)
  (case dp11=>k_is)
  (case dp12=>k_is)
#print axioms PySem.Challenge.cw_vouchdoor_k30_policies_read_and_written_holds
