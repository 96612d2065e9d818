import PyProof.Rows.All
import Wide.All
import OpenK.AllK
import Wide.FinOn
import PyProof.ExcAttrAll.Exception
import PyProof.ExcBaseAll.Exception
import PyProof.InstStoreFacts
import Lean
import PySem.Challenge.RW_pb0080_01
set_option Elab.async false
set_option maxRecDepth 100000
set_option linter.all false
namespace Bm
open PySem
inductive AV where
 | undef | none | bool (b:Bool) | int (i:Int) | ref (a:Nat)
inductive AO where
 | list (xs:List AV)
 | ro (xs:List AV)
 | tup (xs:List AV)
 | obj (C:Nat) (fs:List (String×AV))
 | deck (fs:List (String×AV))
 | idict (d:List (Int×AV))
 | exc (nodes:AV)
abbrev AHeap:=Nat→Option AO
def upd (H:AHeap) (a:Nat) (o:AO):AHeap:=fun b=>if b=a then some o else H b
inductive Fl where
 | next | brk | cont | ret (v:AV)
def lget:List AV→Nat→AV
 | [],_=>.undef
 | v::_,0=>v
 | _::r,n+1=>lget r n
def lset:List AV→Nat→AV→List AV
 | [],_,_=>[]
 | _::r,0,w=>w::r
 | v::r,n+1,w=>v::lset r n w
def fget:List (String×AV)→String→Option AV
 | [],_=>none
 | (k,v)::r,n=>if k=n then some v else fget r n
def fset:List (String×AV)→String→AV→List (String×AV)
 | [],n,w=>[(n,w)]
 | (k,v)::r,n,w=>if k=n then(k,w)::r else(k,v)::fset r n w
def dget:List (Int×AV)→Int→Option AV
 | [],_=>none
 | (k,v)::r,n=>if k=n then some v else dget r n
def dset:List (Int×AV)→Int→AV→List (Int×AV)
 | [],n,w=>[(n,w)]
 | (k,v)::r,n,w=>if k=n then(k,w)::r else(k,v)::dset r n w
inductive BOp where
 | add | sub | mul | fdiv | mod | band | bor | shl | shr
inductive COp where
 | eq | ne | lt | le | gt | ge | is | isnot | inn | notin
mutual
inductive IE where
 | c (v:AV)
 | loc (i:Nat)
 | bin (op:BOp) (a b:IE)
 | neg (a:IE)
 | not (a:IE)
 | cmp (op:COp) (a b:IE)
 | cmp2 (op1 op2:COp) (a b d:IE)
 | and (a b:IE)
 | or (a b:IE)
 | ife (t a b:IE)
 | list (es:IEs)
 | tup (es:IEs)
 | deck (k1 k2:String) (a b:IE)
 | dict0
 | attr (e:IE) (n:String)
 | idx (e i:IE)
 | key (e:IE) (k:String)
 | upto (e:IE) (n:Nat)
 | all (e:IE)
 | rev (e:IE)
 | call (f:Nat) (es:IEs)
 | new (C:Nat) (es:IEs)
 | meth (o:IE) (n:String) (es:IEs)
 | len (e:IE)
 | max2 (a b:IE)
 | min2 (a b:IE)
 | maxl (e:IE)
 | abs (e:IE)
 | copy (e:IE)
 | listR (lo hi:IE)
 | comp (elt:IE) (it:IT)
 | compIf (elt:IE) (it:IT) (cond:IE)
inductive IT where
 | over (e:IE)
 | range (lo hi:IE)
inductive IEs where
 | nil
 | cons (e:IE) (es:IEs)
end
mutual
inductive IS where
 | expr (e:IE)
 | ret (e:IE)
 | retN
 | asg (i:Nat) (e:IE)
 | setA (o:IE) (n:String) (e:IE)
 | setI (o i e:IE)
 | unp (is:List Nat) (e:IE)
 | augL (i:Nat) (op:BOp) (e:IE)
 | augA (o:IE) (n:String) (op:BOp) (e:IE)
 | augK (o:IE) (k:String) (op:BOp) (e:IE)
 | ite (t:IE) (a b:ISs)
 | whil (t:IE) (b:ISs)
 | for_ (i:Nat) (it:IT) (b:ISs)
 | raiseStop (e:IE)
 | tryStop (b:ISs) (bind:Option Nat) (h:ISs)
 | pass
 | brk
 | cont
 | bad
inductive ISs where
 | nil
 | cons (s:IS) (r:ISs)
end
structure Fn where
 names:List String
 np:Nat
 body:ISs
def lim:Nat:=1000000
def big:Int:=2 ^ 200
def truthy (v:AV) (H:AHeap) (Q:Bool→Prop):Prop:=match v with
 | .none=>Q false
 | .bool b=>Q b
 | .int i=>Q (decide (i≠0))
 | .ref a=>(match H a with
  | some (.list xs)=>Q (!xs.isEmpty)
  | _=>False)
 | .undef=>False
abbrev EQ:=AV→AHeap→Prop
def vBin (op:BOp) (x y:AV) (H:AHeap) (Q:EQ):Prop:=match op,x,y with
 | .add,.int a,.int b=>Q (.int (a+b)) H
 | .sub,.int a,.int b=>Q (.int (a - b)) H
 | .mul,.int a,.int b=>(-(2 ^ 62) < a∧a < 2 ^ 62)∧Q (.int (a*b)) H
 | .fdiv,.int a,.int b=>(0 < b∧b < 1000000000)∧Q (.int (a.fdiv b)) H
 | .mod,.int a,.int b=>b≠0∧Q (.int (a.fmod b)) H
 | .band,.int a,.int b=>(0≤a∧0≤b)∧Q (.int ((a.toNat &&& b.toNat:Nat):Int)) H
 | .bor,.int a,.int b=>(0≤a∧0≤b)∧Q (.int ((a.toNat ||| b.toNat:Nat):Int)) H
 | .shl,.int a,.int b=>(-big < a∧a < big∧0≤b∧b≤1000)∧Q (.int (a*2 ^ b.toNat)) H
 | .shr,.int a,.int b=>(0≤b)∧Q (.int (a.fdiv (2 ^ b.toNat))) H
 | .add,.ref l,.ref m=>(match H l,H m with
  | some (.list xs),some (.list ys)=>xs.length+ys.length≤lim∧∀ a,H a=none→Q (.ref a) (upd H a (.list (xs++ys)))
  | _,_=>False)
 | .mul,.ref l,.int n=>(match H l with
  | some (.list [x])=>(0≤n∧n≤1000)∧∀ a,H a=none→Q (.ref a) (upd H a (.list (List.replicate n.toNat x)))
  | _=>False)
 | _,_,_=>False
def isInt:AV→Bool
 | .int _=>true
 | _=>false
def isThe (i:Int):AV→Bool
 | .int j=>decide (j=i)
 | _=>false
def eqL (f:AV→AV→Option Bool):List AV→List AV→Option Bool
 | [],[]=>some true
 | x::xs,y::ys=>(f x y).bind fun p=>(eqL f xs ys).map fun q=>p&&q
 | _,_=>some false
def eqA:Nat→AHeap→AV→AV→Option Bool
 | 0,_,.int a,.int b=>some (decide (a=b))
 | n+1,H,x,y=>(match x,y with
  | .int a,.int b=>some (decide (a=b))
  | .ref a,.ref b=>(match H a,H b with
   | some (.list xs),some (.list ys)=>eqL (eqA n H) xs ys
   | some (.tup xs),some (.tup ys)=>eqL (eqA n H) xs ys
   | _,_=>none)
  | _,_=>none)
 | _,_,_,_=>none
def int2 (x y:AV) (Q:Int→Int→Prop):Prop:=match x,y with
 | .int a,.int b=>Q a b
 | _,_=>False
def isNone (x:AV) (Q:Bool→Prop):Prop:=match x with
 | .undef=>False
 | .none=>Q true
 | _=>Q false
def inList (x y:AV) (H:AHeap) (Q:Bool→Prop):Prop:=match x,y with
 | .int i,.ref l=>(match H l with
  | some (.list xs)=>xs.all isInt=true∧Q (xs.any (isThe i))
  | _=>False)
 | _,_=>False
def vCmp (op:COp) (x y:AV) (H:AHeap) (Q:Bool→Prop):Prop:=match op with
 | .lt=>int2 x y fun a b=>Q (decide (a < b))
 | .le=>int2 x y fun a b=>Q (decide (a≤b))
 | .gt=>int2 x y fun a b=>Q (decide (a > b))
 | .ge=>int2 x y fun a b=>Q (decide (a≥b))
 | .eq=>(match eqA 4 H x y with | some b=>Q b | none=>False)
 | .ne=>(match eqA 4 H x y with | some b=>Q (!b) | none=>False)
 | .is=>(match y with | .none=>isNone x Q | _=>False)
 | .isnot=>(match y with | .none=>isNone x (fun b=>Q (!b)) | _=>False)
 | .inn=>inList x y H Q
 | .notin=>inList x y H fun b=>Q (!b)
def place (i:Int) (n:Nat):Option Nat :=
 if 0≤i then(if i < n then some i.toNat else none) else(if -(n:Int)≤i then some (i+n).toNat else none)
def vIdx (x y:AV) (H:AHeap) (Q:AV→Prop):Prop:=match x,y with
 | .ref l,.int i=>(match H l with
  | some (.list xs) | some (.tup xs)=>(match place i xs.length with
   | some k=>Q (lget xs k)
   | none=>False)
  | _=>False)
 | _,_=>False
def vSetI (x y v:AV) (H:AHeap) (Q:AHeap→Prop):Prop:=match x,y with
 | .ref l,.int i=>(match H l with
  | some (.list xs)=>(0≤i∧i < xs.length)∧Q (upd H l (.list (lset xs i.toNat v)))
  | some (.idict d)=>d.length < lim∧isInt v=true∧Q (upd H l (.idict (dset d i v)))
  | _=>False)
 | _,_=>False
def isFn (mth:Nat→String→Option Nat) (C:Nat) (n:String):Option Nat:=mth C n
structure Tab where
 att:Nat→String→Bool
 mth:Nat→String→Option Nat
 ini:Nat→Option Nat
 fn:Nat→Option Fn
abbrev CallSem:=Nat→List AV→AHeap→EQ→EQ→Prop
def okv:AV→Prop
 | .undef=>False
 | _=>True
def vAttr (T:Tab) (x:AV) (n:String) (H:AHeap) (Q:AV→Prop):Prop:=match x with
 | .ref a=>(match H a with
  | some (.obj C fs)=>T.att C n=true∧(match fget fs n with | some v=>okv v∧Q v | none=>False)
  | some (.exc v)=>n = "nodes"∧Q v
  | _=>False)
 | _=>False
def vSetA (T:Tab) (x:AV) (n:String) (v:AV) (H:AHeap) (Q:AHeap→Prop):Prop:=match x with
 | .ref a=>(match H a with
  | some (.obj C fs)=>T.att C n=true∧fs.length < 100∧Q (upd H a (.obj C (fset fs n v)))
  | _=>False)
 | _=>False
def vKey (x:AV) (k:String) (H:AHeap) (Q:AV→Prop):Prop:=match x with
 | .ref a=>(match H a with
  | some (.deck fs)=>(match fget fs k with | some v=>Q v | none=>False)
  | _=>False)
 | _=>False
def vSetK (x:AV) (k:String) (v:AV) (H:AHeap) (Q:AHeap→Prop):Prop:=match x with
 | .ref a=>(match H a with
  | some (.deck fs)=>(match fget fs k with | some _=>Q (upd H a (.deck (fset fs k v))) | none=>False)
  | _=>False)
 | _=>False
def listM (n:String):Bool:=decide (n = "append")||decide (n = "pop")||decide (n = "remove")
def vListM (a:Nat) (n:String) (vs:List AV) (H:AHeap) (Q:EQ):Prop:=match H a with
 | some (.list xs)=>(match vs with
  | []=>n = "pop"∧xs≠[]∧Q (lget xs (xs.length - 1)) (upd H a (.list xs.dropLast))
  | [v]=>if n = "append" then xs.length < lim∧Q .none (upd H a (.list (xs++[v])))
    else(match v with
     | .int i=>if n = "pop" then(match place i xs.length with
        | some k=>Q (lget xs k) (upd H a (.list (xs.eraseIdx k)))
        | none=>False)
       else n = "remove"∧xs.all isInt=true∧xs.any (isThe i)=true∧Q .none (upd H a (.list (xs.eraseP (isThe i))))
     | _=>False)
  | _=>False)
 | _=>False
def vDictM (a:Nat) (vs:List AV) (H:AHeap) (Q:EQ):Prop:=match H a with
 | some (.idict d)=>(match vs with
  | [.int i,.int v]=>(match dget d i with
    | some w=>Q w H
    | none=>Q (.int v) H)
  | _=>False)
 | _=>False
def vMeth (T:Tab) (call:CallSem) (x:AV) (n:String) (args:AHeap→(List AV→AHeap→Prop)→Prop) (H:AHeap) (Q X:EQ):Prop:=match x with
 | .ref a=>(match H a with
  | some (.obj C fs)=>fget fs n=none∧(match T.mth C n with | some f=>args H fun vs H=>call f (x::vs) H Q X | none=>False)
  | some (.list _)=>listM n=true∧args H fun vs H=>vListM a n vs H Q
  | some (.idict _)=>n = "get"∧args H fun vs H=>vDictM a vs H Q
  | _=>False)
 | _=>False
inductive Src where
 | lst (l:Nat) (xs:List AV)
 | tup (l:Nat) (xs:List AV)
 | rng
def Src.ok:Src→AHeap→Prop
 | .lst l xs,H=>H l=some (.list xs)
 | .tup l xs,H=>H l=some (.tup xs)
 | .rng,_=>True
def iRng (lo hi:Int):List AV:=(List.range (hi - lo).toNat).map fun(k:Nat)=>AV.int (lo+(k:Int))
def vOver (v:AV) (H:AHeap) (K:Src→List AV→Prop):Prop:=match v with
 | .ref l=>(match H l with
  | some (.list xs)=>K (.lst l xs) xs
  | some (.tup xs)=>K (.tup l xs) xs
  | _=>False)
 | _=>False
def vRange (x y:AV) (K:Src→List AV→Prop):Prop:=match x,y with
 | .int lo,.int hi=>(-big < lo∧lo < 2 ^ 40∧-(2 ^ 40) < lo∧-(2 ^ 40) < hi∧hi < 2 ^ 40∧hi - lo≤lim)∧K .rng (iRng lo hi)
 | _,_=>False
def compL (src:Src) (elt:AV→AHeap→EQ→Prop):List AV→List AV→AHeap→(List AV→AHeap→Prop)→Prop
 | [],acc,H,K=>K acc H
 | x::xs,acc,H,K=>elt x H fun w H'=>src.ok H'∧compL src elt xs (acc++[w]) H' K
def compIfL (src:Src) (cond:AV→AHeap→(Bool→AHeap→Prop)→Prop) (elt:AV→AHeap→EQ→Prop):List AV→List AV→AHeap→(List AV→AHeap→Prop)→Prop
 | [],acc,H,K=>K acc H
 | x::xs,acc,H,K=>cond x H fun b H₁=>if b=true then elt x H₁ fun w H'=>src.ok H'∧compIfL src cond elt xs (acc++[w]) H' K
   else src.ok H₁∧compIfL src cond elt xs acc H₁ K
abbrev SQ:=Fl→List AV→AHeap→Prop
abbrev SX:=AV→List AV→AHeap→Prop
def forL (src:Src) (i:Nat) (body:List AV→AHeap→SQ→Prop):List AV→List AV→AHeap→SQ→Prop
 | [],ρ,H,Q=>Q .next ρ H
 | x::xs,ρ,H,Q=>body (lset ρ i x) H fun fl ρ' H'=>match fl with
  | .next | .cont=>src.ok H'∧forL src i body xs ρ' H' Q
  | .brk=>Q .next ρ' H'
  | .ret v=>Q (.ret v) ρ' H'
def whileL (test:List AV→AHeap→(Bool→AHeap→Prop)→Prop) (body:List AV→AHeap→SQ→Prop):Nat→List AV→AHeap→SQ→Prop
 | 0,_,_,_=>False
 | k+1,ρ,H,Q=>test ρ H fun b H₁=>if b=true then body ρ H₁ fun fl ρ' H'=>match fl with
   | .next | .cont=>whileL test body k ρ' H' Q
   | .brk=>Q .next ρ' H'
   | .ret v=>Q (.ret v) ρ' H'
  else Q .next ρ H₁
section
variable (T:Tab) (hd:Bool) (call:CallSem)
mutual
def vE:IE→List AV→AHeap→EQ→EQ→Prop
 | .c v,_,H,Q,_=>Q v H
 | .loc i,ρ,H,Q,_=>(match lget ρ i with | .undef=>False | v=>Q v H)
 | .bin op a b,ρ,H,Q,X=>vE a ρ H (fun x H=>vE b ρ H (fun y H=>vBin op x y H Q) X) X
 | .neg a,ρ,H,Q,X=>vE a ρ H (fun x H=>match x with | .int i=>Q (.int (-i)) H | _=>False) X
 | .not a,ρ,H,Q,X=>vE a ρ H (fun x H=>truthy x H fun b=>Q (.bool (!b)) H) X
 | .cmp op a b,ρ,H,Q,X=>vE a ρ H (fun x H=>vE b ρ H (fun y H=>vCmp op x y H fun r=>Q (.bool r) H) X) X
 | .cmp2 op1 op2 a b d,ρ,H,Q,X=>vE a ρ H (fun x H=>vE b ρ H (fun y H=>vCmp op1 x y H fun r =>
   if r=true then vE d ρ H (fun z H=>vCmp op2 y z H fun r=>Q (.bool r) H) X else Q (.bool false) H) X) X
 | .and a b,ρ,H,Q,X=>vE a ρ H (fun x H=>truthy x H fun t=>if t=true then vE b ρ H Q X else Q x H) X
 | .or a b,ρ,H,Q,X=>vE a ρ H (fun x H=>truthy x H fun t=>if t=true then Q x H else vE b ρ H Q X) X
 | .ife t a b,ρ,H,Q,X=>vE t ρ H (fun x H=>truthy x H fun r=>if r=true then vE a ρ H Q X else vE b ρ H Q X) X
 | .list es,ρ,H,Q,X=>vEs es ρ H (fun vs H=>∀ a,H a=none→Q (.ref a) (upd H a (.list vs))) X
 | .tup es,ρ,H,Q,X=>vEs es ρ H (fun vs H=>∀ a,H a=none→Q (.ref a) (upd H a (.tup vs))) X
 | .deck k1 k2 a b,ρ,H,Q,X=>vE a ρ H (fun x H=>vE b ρ H (fun y H=>k1≠k2∧∀ a,H a=none→Q (.ref a) (upd H a (.deck [(k1,x),(k2,y)]))) X) X
 | .dict0,_,H,Q,_=>∀ a,H a=none→Q (.ref a) (upd H a (.idict []))
 | .attr e n,ρ,H,Q,X=>vE e ρ H (fun x H=>vAttr T x n H fun v=>Q v H) X
 | .idx e i,ρ,H,Q,X=>vE e ρ H (fun x H=>vE i ρ H (fun y H=>vIdx x y H fun v=>Q v H) X) X
 | .key e k,ρ,H,Q,X=>vE e ρ H (fun x H=>vKey x k H fun v=>Q v H) X
 | .upto e n,ρ,H,Q,X=>vE e ρ H (fun x H=>match x with
   | .ref l=>(match H l with | some (.ro xs)=>∀ a,H a=none→Q (.ref a) (upd H a (.list (xs.take n))) | _=>False)
   | _=>False) X
 | .all e,ρ,H,Q,X=>vE e ρ H (fun x H=>match x with
   | .ref l=>(match H l with | some (.list xs)=>∀ a,H a=none→Q (.ref a) (upd H a (.list xs)) | _=>False)
   | _=>False) X
 | .rev e,ρ,H,Q,X=>vE e ρ H (fun x H=>match x with
   | .ref l=>(match H l with | some (.list xs)=>∀ a,H a=none→Q (.ref a) (upd H a (.list xs.reverse)) | _=>False)
   | _=>False) X
 | .call f es,ρ,H,Q,X=>vEs es ρ H (fun vs H=>call f vs H Q X) X
 | .new C es,ρ,H,Q,X=>vEs es ρ H (fun vs H=>match T.ini C with
   | some f=>∀ a,H a=none→call f (.ref a::vs) (upd H a (.obj C [])) (fun v H'=>(match v with | .none=>Q (.ref a) H' | _=>False)) X
   | none=>False) X
 | .meth o n es,ρ,H,Q,X=>vE o ρ H (fun x H=>vMeth T call x n (fun H K=>vEs es ρ H K X) H Q X) X
 | .len e,ρ,H,Q,X=>vE e ρ H (fun x H=>match x with
   | .ref l=>(match H l with | some (.list xs)=>Q (.int xs.length) H | _=>False)
   | _=>False) X
 | .max2 a b,ρ,H,Q,X=>vE a ρ H (fun x H=>vE b ρ H (fun y H=>hd=false∧match x,y with | .int i,.int j=>Q (.int (max i j)) H | _,_=>False) X) X
 | .min2 a b,ρ,H,Q,X=>vE a ρ H (fun x H=>vE b ρ H (fun y H=>hd=false∧match x,y with | .int i,.int j=>Q (.int (min i j)) H | _,_=>False) X) X
 | .maxl e,ρ,H,Q,X=>vE e ρ H (fun x H=>hd=false∧match x with
   | .ref l=>(match H l with
    | some (.list xs)=>xs≠[]∧∃ ns:List Int,xs=ns.map AV.int∧∀ m,m∈ns→(∀ k∈ns,k≤m)→Q (.int m) H
    | _=>False)
   | _=>False) X
 | .abs e,ρ,H,Q,X=>vE e ρ H (fun x H=>match x with | .int i=>Q (.int (if i < 0 then -i else i)) H | _=>False) X
 | .copy e,ρ,H,Q,X=>vE e ρ H (fun x H=>hd=false∧match x with
   | .ref l=>(match H l with | some (.list xs)=>∀ a,H a=none→Q (.ref a) (upd H a (.list xs)) | _=>False)
   | _=>False) X
 | .listR lo hi,ρ,H,Q,X=>vE lo ρ H (fun x H=>vE hi ρ H (fun y H=>hd=false∧vRange x y fun _ xs=>∀ a,H a=none→Q (.ref a) (upd H a (.list xs))) X) X
 | .comp elt it,ρ,H,Q,X=>vT it ρ H (fun src xs H=>hd=false∧compL src (fun v H K=>vE elt (v::ρ) H K (fun _ _=>False)) xs [] H (fun ws H=>∀ a,H a=none→Q (.ref a) (upd H a (.list ws)))) X
 | .compIf elt it cond,ρ,H,Q,X=>vT it ρ H (fun src xs H=>hd=false∧compIfL src (fun v H K=>vE cond (v::ρ) H (fun x H=>truthy x H fun b=>K b H) (fun _ _=>False)) (fun v H K=>vE elt (v::ρ) H K (fun _ _=>False)) xs [] H
   (fun ws H=>∀ a,H a=none→Q (.ref a) (upd H a (.list ws)))) X
def vT:IT→List AV→AHeap→(Src→List AV→AHeap→Prop)→EQ→Prop
 | .over e,ρ,H,K,X=>vE e ρ H (fun x H=>vOver x H fun s xs=>K s xs H) X
 | .range lo hi,ρ,H,K,X=>vE lo ρ H (fun x H=>vE hi ρ H (fun y H=>vRange x y fun s xs=>K s xs H) X) X
def vEs:IEs→List AV→AHeap→(List AV→AHeap→Prop)→EQ→Prop
 | .nil,_,H,Q,_=>Q [] H
 | .cons e es,ρ,H,Q,X=>vE e ρ H (fun v H=>vEs es ρ H (fun vs H=>Q (v::vs) H) X) X
end
end
def unpL:List Nat→List AV→List AV→Option (List AV)
 | [],[],ρ=>some ρ
 | i::is,v::vs,ρ=>unpL is vs (lset ρ i v)
 | _,_,_=>none
section
variable (T:Tab) (calls:Bool→CallSem)
mutual
def vS:IS→Bool→List AV→AHeap→SQ→SX→Prop
 | .expr e,hd,ρ,H,Q,X=>vE T hd (calls hd) e ρ H (fun _ H=>Q .next ρ H) (fun n H=>X n ρ H)
 | .ret e,hd,ρ,H,Q,X=>vE T hd (calls hd) e ρ H (fun v H=>Q (.ret v) ρ H) (fun n H=>X n ρ H)
 | .retN,_,ρ,H,Q,_=>Q (.ret .none) ρ H
 | .asg i e,hd,ρ,H,Q,X=>vE T hd (calls hd) e ρ H (fun v H=>Q .next (lset ρ i v) H) (fun n H=>X n ρ H)
 | .setA o n e,hd,ρ,H,Q,X=>vE T hd (calls hd) e ρ H (fun v H=>vE T hd (calls hd) o ρ H (fun x H=>vSetA T x n v H fun H=>Q .next ρ H) (fun n H=>X n ρ H)) (fun n H=>X n ρ H)
 | .setI o i e,hd,ρ,H,Q,X=>vE T hd (calls hd) e ρ H (fun v H=>vE T hd (calls hd) o ρ H (fun x H=>vE T hd (calls hd) i ρ H (fun y H=>vSetI x y v H fun H=>Q .next ρ H) (fun n H=>X n ρ H)) (fun n H=>X n ρ H)) (fun n H=>X n ρ H)
 | .unp is e,hd,ρ,H,Q,X=>vE T hd (calls hd) e ρ H (fun v H=>hd=false∧match v with
   | .ref l=>(match H l with
    | some (.tup vs)=>(match unpL is vs ρ with | some ρ'=>Q .next ρ' H | none=>False)
    | _=>False)
   | _=>False) (fun n H=>X n ρ H)
 | .augL i op e,hd,ρ,H,Q,X=>(match lget ρ i with
   | .int x=>vE T hd (calls hd) e ρ H (fun y H=>vBin op (.int x) y H fun v H=>Q .next (lset ρ i v) H) (fun n H=>X n ρ H)
   | _=>False)
 | .augA o n op e,hd,ρ,H,Q,X=>vE T hd (calls hd) o ρ H (fun x H=>vAttr T x n H fun v=>match v with
   | .int a=>vE T hd (calls hd) e ρ H (fun y H=>vBin op (.int a) y H fun r H=>vSetA T x n r H fun H=>Q .next ρ H) (fun n H=>X n ρ H)
   | _=>False) (fun n H=>X n ρ H)
 | .augK o k op e,hd,ρ,H,Q,X=>vE T hd (calls hd) o ρ H (fun x H=>vKey x k H fun v=>match v with
   | .int a=>vE T hd (calls hd) e ρ H (fun y H=>vBin op (.int a) y H fun r H=>vSetK x k r H fun H=>Q .next ρ H) (fun n H=>X n ρ H)
   | _=>False) (fun n H=>X n ρ H)
 | .ite t a b,hd,ρ,H,Q,X=>vE T hd (calls hd) t ρ H (fun v H=>truthy v H fun r=>if r=true then vSs a hd ρ H Q X else vSs b hd ρ H Q X) (fun n H=>X n ρ H)
 | .whil t b,hd,ρ,H,Q,X=>∃ k,whileL (fun ρ H K=>vE T hd (calls hd) t ρ H (fun v H=>truthy v H fun r=>K r H) (fun n H=>X n ρ H)) (fun ρ H K=>vSs b hd ρ H K X) k ρ H Q
 | .for_ i it b,hd,ρ,H,Q,X=>vT T hd (calls hd) it ρ H (fun src xs H=>hd=false∧forL src i (fun ρ H K=>vSs b hd ρ H K X) xs ρ H Q) (fun n H=>X n ρ H)
 | .raiseStop e,hd,ρ,H,_,X=>vE T hd (calls hd) e ρ H (fun v H=>hd=false∧isInt v=true∧X v ρ H) (fun n H=>X n ρ H)
 | .tryStop b bind h,hd,ρ,H,Q,X=>hd=false∧vSs b hd ρ H Q fun n ρ' H'=>∀ a,H' a=none →
   (match bind with
    | none=>vSs h true ρ' H' Q (fun _ _ _=>False)
    | some i=>vSs h true (lset ρ' i (.ref a)) (upd H' a (.exc n)) (fun fl ρ'' H''=>Q fl (lset ρ'' i .undef) H'') (fun _ _ _=>False))
 | .pass,_,ρ,H,Q,_=>Q .next ρ H
 | .brk,_,ρ,H,Q,_=>Q .brk ρ H
 | .cont,_,ρ,H,Q,_=>Q .cont ρ H
 | .bad,_,_,_,_,_=>False
def vSs:ISs→Bool→List AV→AHeap→SQ→SX→Prop
 | .nil,_,ρ,H,Q,_=>Q .next ρ H
 | .cons s r,hd,ρ,H,Q,X=>vS s hd ρ H (fun fl ρ H=>match fl with | .next=>vSs r hd ρ H Q X | fl=>Q fl ρ H) X
end
end
def FW (T:Tab):Nat→Bool→CallSem
 | 0,_,_,_,_,_,_=>False
 | n+1,hd,f,args,H,Q,X=>match T.fn f with
  | some fn=>args.length=fn.np∧vSs T (FW T n) fn.body hd (args++List.replicate (fn.names.length - fn.np) .undef) H
    (fun fl _ H'=>match fl with | .ret v=>Q v H' | .next=>Q .none H' | _=>False) (fun k _ H'=>X k H')
  | none=>False
end Bm
namespace Bm
open PySem
def idx (x:Str):List String→Option Nat
 | []=>none
 | n::r=>if Str.ofString n=x then some 0 else(idx x r).map (· + 1)
inductive GV where
 | int (i:Int) | fn (a:Nat) | cls (a:Nat)
def gInts:List (String×Int):=[("MATE",32000),("DRAW",0),("INFINITE",32001),("MAX_PLY",246),("MATE_LEAST",31754),("NO_MOVE",0),("BOUND_NONE",0),("BOUND_UPPER",1),("BOUND_LOWER",2),("BOUND_EXACT",3),
 ("AGES",64),("DEPTH_LEAST",-8),("DEPTH_MOST",247),("VALUE_MOST",32767),("KEY_AT",48),("TABLE_STAGE",0),("GOOD_STAGE",1),("KILLER_STAGE",2),("QUIET_STAGE",3),("END_STAGE",5),("IID_DEPTH",4),("WIDE",1000)]
def gFns:List (String×Nat):=[("mated_in",92),("mate_in",99),("to_table",106),("from_table",113),("step_into",148),("step_back",155),("unwind",162),("clear_line",169),("set_line",176),("line_from",183),
 ("pack_entry",190),("unpack_entry",197),("find_slot",204),("worth",211),("victim_slot",218),("pushes_out",225),("with_move",232),("cutoff",295),("scale_down",302),("reward",400),("killer_pair",407),("past_score",414),
 ("take_best",475),("quiesce",482),("quiesce_moves",489),("search",496),("search_moves",503),("search_child",510),("look_up",517),("keep_value",524),("root_value",531),("lower_edge",559),("upper_edge",566),("aspirate",573),
 ("deepest",580),("iterate",587),("mtdf",594),("_law_card",697),("_law_deal",702),("_law_full",709),("_law_leads",716),("_law_game",721),("_law_context",728),("_law_at_root",735),("_law_reports",740),("_law_guess",747),("law",752)]
def gCls:List (String×Nat):=[("SearchContext",137),("TransTable",284),("History",347),("Killers",389),("Picker",464),("Report",548),("TreeGame",686),("SearchStopped",71)]
def isG (sc:List (Str×NameKind)) (nm:List String) (x:Str):Bool:=decide (idx x nm=none)&&decide (sc.lookup x=some .globalImplicit)&&decide (x≠"__debug__")
def gint (x:Str):List (String×Int)→Option Int
 | []=>none
 | (n,i)::r=>if Str.ofString n=x then some i else gint x r
def gnat (x:Str):List (String×Nat)→Option Nat
 | []=>none
 | (n,i)::r=>if Str.ofString n=x then some i else gnat x r
def okKind:Option NameKind→Bool
 | some .local=>true
 | some .cell=>true
 | some .free=>true
 | _=>false
def bop:Operator→BOp→Bool
 | .Add,.add=>true | .Sub,.sub=>true | .Mult,.mul=>true | .FloorDiv,.fdiv=>true | .Mod,.mod=>true
 | .BitAnd,.band=>true | .BitOr,.bor=>true | .LShift,.shl=>true | .RShift,.shr=>true
 | _,_=>false
def aop:Operator→BOp→Bool
 | .Add,.add=>true | .Sub,.sub=>true
 | _,_=>false
def cop:CmpOp→COp→Bool
 | .Eq,.eq=>true | .NotEq,.ne=>true | .Lt,.lt=>true | .LtE,.le=>true | .Gt,.gt=>true | .GtE,.ge=>true
 | .Is,.is=>true | .IsNot,.isnot=>true | .In,.inn=>true | .NotIn,.notin=>true
 | _,_=>false
def bare:Expr→Bool
 | .Call (.Name ..) [] [] _=>true
 | _=>false
def isSet:Expr→Bool
 | .Set ..=>true
 | _=>false
def isStar:Expr→Bool
 | .Starred ..=>true
 | _=>false
def cscope (sc:List (Str×NameKind)) (names:List (Str×NameKind)):List (Str×NameKind) :=
 names.map fun(n,k)=>if k == .free&&(sc.lookup n == some .cell) then(n,.cell) else(n,k)
mutual
def chkE:Nat→List (Str×NameKind)→List String→Expr→IE→Bool
 | 0,_,_,_,_=>false
 | n+1,sc,nm,e,ir=>match e,ir with
  | .Constant .none _ _,.c .none=>true
  | .Constant (.bool b) _ _,.c (.bool b')=>b == b'
  | .Constant (.int i) _ _,.c (.int j)=>decide (i=j)
  | .Name x _,.loc i=>decide (x≠"__debug__")&&decide (x≠"__classdict__")&&decide (idx x nm=some i)&&okKind (sc.lookup x)
  | .Name x _,.c (.int j)=>isG sc nm x&&decide (gint x gInts=some j)
  | .BinOp (.Constant (.int 10) _ _) .Pow (.Constant (.int k) _ _) _,.c (.int j)=>decide (k=60∨k=80∨k=99)&&decide (j=10 ^ k.toNat)
  | .BinOp a op b _,.bin op' x y=>bop op op'&&chkE n sc nm a x&&chkE n sc nm b y
  | .UnaryOp .USub a _,.neg x=>chkE n sc nm a x
  | .UnaryOp .Not a _,.not x=>chkE n sc nm a x
  | .Compare l [op] [r] _,.cmp op' x y=>cop op op'&&!lastMarks [op] [r]&&chkE n sc nm l x&&chkE n sc nm r y
  | .Compare l [op1,op2] [r,q] _,.cmp2 o1 o2 x y z=>cop op1 o1&&cop op2 o2&&!lastMarks [op1,op2] [r,q]&&chkE n sc nm l x&&chkE n sc nm r y&&chkE n sc nm q z
  | .BoolOp .And vs _,ir=>chkB true n sc nm vs ir
  | .BoolOp .Or vs _,ir=>chkB false n sc nm vs ir
  | .IfExp t a b _,.ife t' x y=>chkE n sc nm t t'&&chkE n sc nm a x&&chkE n sc nm b y
  | .List es _,.list xs=>decide (es.length < 20)&&chkEs n sc nm es xs
  | .Tuple es _ _,.tup xs=>decide (es.length < 20)&&chkEs n sc nm es xs
  | .Dict [] [] _,.dict0=>true
  | .Dict [some (.Constant (.str k1) _ _),some (.Constant (.str k2) _ _)] [a,b] _,.deck m1 m2 x y=>decide (k1=Str.ofString m1)&&decide (k2=Str.ofString m2)&&chkE n sc nm a x&&chkE n sc nm b y
  | .Attribute v x _,.attr e' m=>decide (x=Str.ofString m)&&!bare v&&chkE n sc nm v e'
  | .Subscript v (.Slice none (some (.Constant (.int k) _ _)) none _) _,.upto e' m=>decide (k=(m:Int))&&chkE n sc nm v e'
  | .Subscript v (.Slice none none none _) _,.all e'=>chkE n sc nm v e'
  | .Subscript v (.Slice none none (some (.UnaryOp .USub (.Constant (.int 1) _ _) _)) _) _,.rev e'=>chkE n sc nm v e'
  | .Subscript v (.Constant (.str k) _ _) _,.key e' m=>decide (k=Str.ofString m)&&chkE n sc nm v e'
  | .Subscript v (.Slice ..) _,.idx ..=>false
  | .Subscript v i _,.idx e' j=>chkE n sc nm v e'&&chkE n sc nm i j
  | .Call (.Attribute o x ap) args [] cp,.meth e' m es=>decide (ap.endLine=cp.line)&&decide (x=Str.ofString m)&&!bare o&&decide (args.length < 20)&&chkE n sc nm o e'&&chkEs n sc nm args es
  | .Call (.Name f _) args [] _,.call a es=>isG sc nm f&&decide (gnat f gFns=some a)&&decide (args.length < 20)&&chkEs n sc nm args es
  | .Call (.Name f _) args [] _,.new a es=>isG sc nm f&&decide (gnat f gCls=some a)&&decide (args.length < 20)&&chkEs n sc nm args es
  | .Call (.Name f _) [a] [] _,.len x=>isG sc nm f&&decide (f = "len")&&!isStar a&&chkE n sc nm a x
  | .Call (.Name f _) [a] [] _,.maxl x=>isG sc nm f&&decide (f = "max")&&!isStar a&&chkE n sc nm a x
  | .Call (.Name f _) [a] [] _,.abs x=>isG sc nm f&&decide (f = "abs")&&!isStar a&&chkE n sc nm a x
  | .Call (.Name f _) [a,b] [] _,.max2 x y=>isG sc nm f&&decide (f = "max")&&!isStar a&&!isStar b&&chkE n sc nm a x&&chkE n sc nm b y
  | .Call (.Name f _) [a,b] [] _,.min2 x y=>isG sc nm f&&decide (f = "min")&&!isStar a&&!isStar b&&chkE n sc nm a x&&chkE n sc nm b y
  | .Call (.Name f _) [a] [] _,.copy x=>isG sc nm f&&decide (f = "list")&&!isStar a&&chkE n sc nm a x
  | .Call (.Name f _) [a] [] _,.listR x y=>isG sc nm f&&decide (f = "list")&&!isStar a&&chkT n sc nm a (.range x y)
  | .ListComp elt [⟨.Name t _,it,[],0⟩] scope _,.comp e' i'=>decide (scope.kind=.function)&&decide ((cscope sc scope.names).lookup t=some .local∨(cscope sc scope.names).lookup t=some .cell)&&cscopeOk sc nm t scope.names&&!isSet it &&
    chkT n sc nm it i'&&!isStar elt&&chkC n (cscope sc scope.names) t nm elt e'
  | .ListComp elt [⟨.Name t _,it,[q],0⟩] scope _,.compIf e' i' q'=>decide (scope.kind=.function)&&decide ((cscope sc scope.names).lookup t=some .local∨(cscope sc scope.names).lookup t=some .cell)&&cscopeOk sc nm t scope.names&&!isSet it &&
    chkT n sc nm it i'&&chkC n (cscope sc scope.names) t nm elt e'&&chkC n (cscope sc scope.names) t nm q q'
  | _,_=>false
def chkC:Nat→List (Str×NameKind)→Str→List String→Expr→IE→Bool
 | 0,_,_,_,_,_=>false
 | n+1,sc,t,nm,e,ir=>chkE n sc (t.toString::nm) e ir&&decide (Str.ofString t.toString=t)
def cscopeOk (sc:List (Str×NameKind)) (nm:List String) (t:Str) (names:List (Str×NameKind)):Bool :=
 names.all fun(n,k)=>(k != .local||decide (names.lookup n=some .local))&&match k with
  | .free=>decide (n≠t)&&(decide (sc.lookup n=some .cell)||decide (sc.lookup n=some .free))&&decide (idx n nm≠none)
  | .local=>decide (n=t)||(decide (n = ".0")&&decide (idx n nm=none))
  | .cell=>decide (n=t)
  | .globalImplicit=>decide (n≠t)&&decide (idx n nm=none)
  | _=>false
def chkB:Bool→Nat→List (Str×NameKind)→List String→List Expr→IE→Bool
 | _,0,_,_,_,_=>false
 | b,n+1,sc,nm,es,ir=>match es with
  | [e]=>chkE n sc nm e ir
  | e::r=>(match b,ir with
   | true,.and x y=>chkE n sc nm e x&&chkB b n sc nm r y
   | false,.or x y=>chkE n sc nm e x&&chkB b n sc nm r y
   | _,_=>false)
  | []=>false
def chkEs:Nat→List (Str×NameKind)→List String→List Expr→IEs→Bool
 | 0,_,_,_,_=>false
 | n+1,sc,nm,es,xs=>match es,xs with
  | [],.nil=>true
  | e::r,.cons x y=>!isStar e&&chkE n sc nm e x&&chkEs n sc nm r y
  | _,_=>false
def chkT:Nat→List (Str×NameKind)→List String→Expr→IT→Bool
 | 0,_,_,_,_=>false
 | n+1,sc,nm,e,it=>match e,it with
  | .Call (.Name f _) [b] [] _,.range (.c (.int 0)) y=>isG sc nm f&&decide (f = "range")&&!isStar b&&chkE n sc nm b y
  | .Call (.Name f _) [a,b] [] _,.range x y=>isG sc nm f&&decide (f = "range")&&!isStar a&&!isStar b&&chkE n sc nm a x&&chkE n sc nm b y
  | e,.over x=>chkE n sc nm e x
  | _,_=>false
end
def isComp:Expr→Bool
 | .ListComp .. | .SetComp .. | .DictComp ..=>true
 | _=>false
def isTup:Expr→Bool
 | .Tuple .. | .List ..=>true
 | _=>false
def names2 (nm:List String):List Expr→List Nat→Bool
 | [],[]=>true
 | .Name x _::r,i::is=>decide (idx x nm=some i)&&names2 nm r is
 | _,_=>false
mutual
def chkS:Nat→List (Str×NameKind)→List String→Stmt→IS→Bool
 | 0,_,_,_,_=>false
 | n+1,sc,nm,s,ir=>match s,ir with
  | .Expr v _,.expr e=>!isComp v&&chkE n sc nm v e
  | .Return (some v) _,.ret e=>chkE n sc nm v e
  | .Return none _,.retN=>true
  | .Assign [.Name x p] v q,.asg i e=>decide (idx x nm=some i)&&chkE n sc nm v e
  | .Assign [.Attribute o x _] v _,.setA o' m e=>decide (x=Str.ofString m)&&!isComp v&&chkE n sc nm o o'&&chkE n sc nm v e
  | .Assign [.Subscript o i _] v _,.setI o' i' e=>!isComp v&&chkE n sc nm o o'&&chkE n sc nm i i'&&chkE n sc nm v e&&(match i with | .Slice ..=>false | _=>true)
  | .Assign [.Tuple ts _ _] v _,.unp is e=>!isComp v&&!isTup v&&names2 nm ts is&&chkE n sc nm v e
  | .AugAssign (.Name x _) op v _,.augL i op' e=>decide (x≠"__classdict__")&&decide (idx x nm=some i)&&okKind (sc.lookup x)&&aop op op'&&chkE n sc nm v e
  | .AugAssign (.Attribute o x _) op v _,.augA o' m op' e=>decide (x=Str.ofString m)&&aop op op'&&chkE n sc nm o o'&&chkE n sc nm v e
  | .AugAssign (.Subscript o (.Constant (.str k) _ _) _) op v _,.augK o' m op' e=>decide (k=Str.ofString m)&&aop op op'&&chkE n sc nm o o'&&chkE n sc nm v e
  | .If t a b _,.ite t' x y=>chkE n sc nm t t'&&chkSs n sc nm a x&&chkSs n sc nm b y
  | .While t b [] _,.whil t' x=>chkE n sc nm t t'&&chkSs n sc nm b x
  | .For (.Name x _) it b [] _,.for_ i it' y=>decide (idx x nm=some i)&&!isSet it&&chkT n sc nm it it'&&chkSs n sc nm b y
  | .Raise (some (.Call (.Name f _) [a] [] _)) none _,.raiseStop e=>isG sc nm f&&decide (f = "SearchStopped")&&!isStar a&&chkE n sc nm a e
  | .Raise ..,.bad=>true
  | .Try b [.ExceptHandler (some (.Name f _)) none h _] [] [] _,.tryStop x none y=>isG sc nm f&&decide (f = "SearchStopped")&&chkSs n sc nm b x&&chkSs n sc nm h y&&decide (h≠[])
  | .Try b [.ExceptHandler (some (.Name f _)) (some v) h _] [] [] _,.tryStop x (some i) y=>isG sc nm f&&decide (f = "SearchStopped")&&decide (idx v nm=some i)&&decide (sc.lookup v=some .local)&&chkSs n sc nm b x&&chkSs n sc nm h y&&decide (h≠[])
  | .Pass _,.pass=>true
  | .Break _,.brk=>true
  | .Continue _,.cont=>true
  | _,_=>false
def chkSs:Nat→List (Str×NameKind)→List String→List Stmt→ISs→Bool
 | 0,_,_,_,_=>false
 | n+1,sc,nm,ss,ir=>match ss,ir with
  | [],.nil=>true
  | s::r,.cons x y=>chkS n sc nm s x&&chkSs n sc nm r y
  | _,_=>false
end
def nodup:List String→Bool
 | []=>true
 | n::r=>decide (n∉r)&&nodup r
def chkF (params:Arguments) (body:List Stmt) (scope:Scope) (fn:Fn):Bool :=
 chkSs 60 scope.names fn.names body fn.body&&nodup fn.names&&decide (params.args.map (·.arg)=(fn.names.take fn.np).map Str.ofString)&&decide (fn.np≤fn.names.length) &&
 fn.names.all (fun x=>decide (scope.names.lookup (Str.ofString x)=some .local∨scope.names.lookup (Str.ofString x)=some .cell))&&decide (scope.kind=.function)&&!scope.isGenerator&&!scope.isCoroutine
end Bm
namespace Bm
def ir_mated_in:ISs:=(.cons (.ret (.bin .sub (.loc 0) (.c (.int 32000)))) .nil)
def fn_mated_in:Fn:=⟨["ply"],1,ir_mated_in⟩
def ir_mate_in:ISs:=(.cons (.ret (.bin .sub (.c (.int 32000)) (.loc 0))) .nil)
def fn_mate_in:Fn:=⟨["ply"],1,ir_mate_in⟩
def ir_to_table:ISs:=(.cons (.ite (.cmp .ge (.loc 0) (.c (.int 31754))) (.cons (.ret (.bin .add (.loc 0) (.loc 1))) .nil) .nil) (.cons (.ite (.cmp .le (.loc 0) (.neg (.c (.int 31754)))) (.cons (.ret (.bin .sub (.loc 0) (.loc 1))) .nil) .nil) (.cons (.ret (.loc 0)) .nil)))
def fn_to_table:Fn:=⟨["value","ply"],2,ir_to_table⟩
def ir_from_table:ISs:=(.cons (.ite (.cmp .ge (.loc 0) (.c (.int 31754))) (.cons (.ret (.bin .sub (.loc 0) (.loc 1))) .nil) .nil) (.cons (.ite (.cmp .le (.loc 0) (.neg (.c (.int 31754)))) (.cons (.ret (.bin .add (.loc 0) (.loc 1))) .nil) .nil) (.cons (.ret (.loc 0)) .nil)))
def fn_from_table:Fn:=⟨["value","ply"],2,ir_from_table⟩
def ir_SearchContext_init:ISs:=(.cons (.setA (.loc 0) "game" (.loc 1)) (.cons (.setA (.loc 0) "table" (.loc 2)) (.cons (.setA (.loc 0) "killers" (.loc 3)) (.cons (.setA (.loc 0) "history" (.loc 4)) (.cons (.setA (.loc 0) "qdepth" (.loc 5)) (.cons (.setA (.loc 0) "is_exact" (.loc 6)) (.cons (.setA (.loc 0) "max_nodes" (.loc 7)) (.cons (.setA (.loc 0) "nodes" (.c (.int 0))) (.cons (.setA (.loc 0) "made" (.c (.int 0))) (.cons (.setA (.loc 0) "lines" (.list (.cons (.list .nil) .nil))) .nil))))))))))
def fn_SearchContext_init:Fn:=⟨["self","game","table","killers","history","qdepth","is_exact","max_nodes"],8,ir_SearchContext_init⟩
def ir_SearchContext_tick:ISs:=(.cons (.ite (.and (.cmp .gt (.attr (.loc 0) "max_nodes") (.c (.int 0))) (.cmp .ge (.attr (.loc 0) "nodes") (.attr (.loc 0) "max_nodes"))) (.cons (.raiseStop (.attr (.loc 0) "nodes")) .nil) .nil) (.cons (.augA (.loc 0) "nodes" .add (.c (.int 1))) .nil))
def fn_SearchContext_tick:Fn:=⟨["self"],1,ir_SearchContext_tick⟩
def ir_step_into:ISs:=(.cons (.expr (.meth (.attr (.loc 0) "game") "make" (.cons (.loc 1) .nil))) (.cons (.augA (.loc 0) "made" .add (.c (.int 1))) .nil))
def fn_step_into:Fn:=⟨["ctx","move"],2,ir_step_into⟩
def ir_step_back:ISs:=(.cons (.expr (.meth (.attr (.loc 0) "game") "undo" .nil)) (.cons (.augA (.loc 0) "made" .sub (.c (.int 1))) .nil))
def fn_step_back:Fn:=⟨["ctx"],1,ir_step_back⟩
def ir_unwind_loop0:ISs:=(.cons (.expr (.call 155 (.cons (.loc 0) .nil))) .nil)
def ir_unwind:ISs:=(.cons (.whil (.cmp .gt (.attr (.loc 0) "made") (.c (.int 0))) ir_unwind_loop0) .nil)
def fn_unwind:Fn:=⟨["ctx"],1,ir_unwind⟩
def ir_clear_line_loop0:ISs:=(.cons (.expr (.meth (.attr (.loc 0) "lines") "append" (.cons (.list .nil) .nil))) .nil)
def ir_clear_line:ISs:=(.cons (.whil (.cmp .le (.len (.attr (.loc 0) "lines")) (.loc 1)) ir_clear_line_loop0) (.cons (.setI (.attr (.loc 0) "lines") (.loc 1) (.list .nil)) .nil))
def fn_clear_line:Fn:=⟨["ctx","ply"],2,ir_clear_line⟩
def ir_set_line:ISs:=(.cons (.setI (.attr (.loc 0) "lines") (.loc 1) (.bin .add (.list (.cons (.loc 2) .nil)) (.idx (.attr (.loc 0) "lines") (.bin .add (.loc 1) (.c (.int 1)))))) .nil)
def fn_set_line:Fn:=⟨["ctx","ply","move"],3,ir_set_line⟩
def ir_line_from:ISs:=(.cons (.ret (.all (.idx (.attr (.loc 0) "lines") (.loc 1)))) .nil)
def fn_line_from:Fn:=⟨["ctx","ply"],2,ir_line_from⟩
def ir_pack_entry:ISs:=(.cons (.ite (.cmp .lt (.loc 0) (.c (.int 0))) (.cons .bad .nil) .nil) (.cons (.ite (.or (.cmp .lt (.loc 1) (.c (.int 0))) (.cmp .gt (.loc 1) (.c (.int 65535)))) (.cons .bad .nil) .nil) (.cons (.ite (.or (.cmp .lt (.loc 2) (.neg (.c (.int 32767)))) (.cmp .gt (.loc 2) (.c (.int 32767)))) (.cons .bad .nil) .nil) (.cons (.ite (.or (.cmp .lt (.loc 3) (.c (.int (-8)))) (.cmp .gt (.loc 3) (.c (.int 247)))) (.cons .bad .nil) .nil) (.cons (.ite (.or (.cmp .lt (.loc 4) (.c (.int 0))) (.cmp .gt (.loc 4) (.c (.int 3)))) (.cons .bad .nil) .nil) (.cons (.ite (.or (.cmp .lt (.loc 5) (.c (.int 0))) (.cmp .ge (.loc 5) (.c (.int 64)))) (.cons .bad .nil) .nil) (.cons (.asg 6 (.bin .bor (.bin .bor (.loc 1) (.bin .shl (.bin .add (.bin .add (.loc 2) (.c (.int 32767))) (.c (.int 1))) (.c (.int 16)))) (.bin .shl (.bin .sub (.loc 3) (.c (.int (-8)))) (.c (.int 32))))) (.cons (.ret (.bin .bor (.bin .bor (.bin .bor (.loc 6) (.bin .shl (.loc 4) (.c (.int 40)))) (.bin .shl (.loc 5) (.c (.int 42)))) (.bin .shl (.loc 0) (.c (.int 48))))) .nil))))))))
def fn_pack_entry:Fn:=⟨["key","move","value","depth","bound","age","low"],6,ir_pack_entry⟩
def ir_unpack_entry:ISs:=(.cons (.asg 1 (.bin .band (.loc 0) (.c (.int 65535)))) (.cons (.asg 2 (.bin .sub (.bin .sub (.bin .band (.bin .shr (.loc 0) (.c (.int 16))) (.c (.int 65535))) (.c (.int 32767))) (.c (.int 1)))) (.cons (.asg 3 (.bin .add (.bin .band (.bin .shr (.loc 0) (.c (.int 32))) (.c (.int 255))) (.c (.int (-8))))) (.cons (.ret (.tup (.cons (.bin .shr (.loc 0) (.c (.int 48))) (.cons (.loc 1) (.cons (.loc 2) (.cons (.loc 3) (.cons (.bin .band (.bin .shr (.loc 0) (.c (.int 40))) (.c (.int 3))) (.cons (.bin .band (.bin .shr (.loc 0) (.c (.int 42))) (.c (.int 63))) .nil)))))))) .nil))))
def fn_unpack_entry:Fn:=⟨["entry","move","value","depth"],1,ir_unpack_entry⟩
def ir_find_slot_loop0:ISs:=(.cons (.ite (.and (.cmp .ne (.idx (.loc 0) (.loc 4)) (.c (.int 0))) (.cmp .eq (.bin .shr (.idx (.loc 0) (.loc 4)) (.c (.int 48))) (.loc 3))) (.cons (.ret (.loc 4)) .nil) .nil) .nil)
def ir_find_slot:ISs:=(.cons (.for_ 4 (.range (.loc 1) (.bin .add (.loc 1) (.loc 2))) ir_find_slot_loop0) (.cons (.ret (.neg (.c (.int 1)))) .nil))
def fn_find_slot:Fn:=⟨["slots","start","ways","key","at"],4,ir_find_slot⟩
def ir_worth:ISs:=(.cons (.ret (.bin .sub (.idx (.call 197 (.cons (.loc 0) .nil)) (.c (.int 3))) (.bin .mul (.c (.int 8)) (.bin .mod (.bin .sub (.loc 1) (.bin .band (.bin .shr (.loc 0) (.c (.int 42))) (.c (.int 63)))) (.c (.int 64)))))) .nil)
def fn_worth:Fn:=⟨["entry","age"],2,ir_worth⟩
def ir_victim_slot_loop0:ISs:=(.cons (.ite (.cmp .eq (.idx (.loc 0) (.loc 5)) (.c (.int 0))) (.cons (.ret (.loc 5)) .nil) .nil) (.cons (.ite (.cmp .lt (.call 211 (.cons (.idx (.loc 0) (.loc 5)) (.cons (.loc 3) .nil))) (.call 211 (.cons (.idx (.loc 0) (.loc 4)) (.cons (.loc 3) .nil)))) (.cons (.asg 4 (.loc 5)) .nil) .nil) .nil))
def ir_victim_slot:ISs:=(.cons (.asg 4 (.loc 1)) (.cons (.for_ 5 (.range (.loc 1) (.bin .add (.loc 1) (.loc 2))) ir_victim_slot_loop0) (.cons (.ret (.loc 4)) .nil)))
def fn_victim_slot:Fn:=⟨["slots","start","ways","age","found","at"],4,ir_victim_slot⟩
def ir_pushes_out:ISs:=(.cons (.ite (.or (.cmp .eq (.loc 2) (.c (.int 3))) (.cmp .ne (.bin .band (.bin .shr (.loc 0) (.c (.int 42))) (.c (.int 63))) (.loc 3))) (.cons (.ret (.c (.bool true))) .nil) .nil) (.cons (.ret (.cmp .gt (.loc 1) (.bin .sub (.idx (.call 197 (.cons (.loc 0) .nil)) (.c (.int 3))) (.c (.int 4))))) .nil))
def fn_pushes_out:Fn:=⟨["entry","depth","bound","age"],4,ir_pushes_out⟩
def ir_with_move:ISs:=(.cons (.ret (.bin .add (.bin .sub (.loc 0) (.bin .band (.loc 0) (.c (.int 65535)))) (.loc 1))) .nil)
def fn_with_move:Fn:=⟨["entry","move"],2,ir_with_move⟩
def ir_TransTable_init:ISs:=(.cons (.ite (.or (.cmp .lt (.loc 1) (.c (.int 1))) (.cmp .lt (.loc 2) (.c (.int 1)))) (.cons .bad .nil) .nil) (.cons (.setA (.loc 0) "clusters" (.loc 1)) (.cons (.setA (.loc 0) "ways" (.loc 2)) (.cons (.setA (.loc 0) "age" (.c (.int 0))) (.cons (.setA (.loc 0) "slots" (.bin .mul (.list (.cons (.c (.int 0)) .nil)) (.bin .mul (.loc 1) (.loc 2)))) .nil)))))
def fn_TransTable_init:Fn:=⟨["self","clusters","ways"],3,ir_TransTable_init⟩
def ir_TransTable_probe:ISs:=(.cons (.asg 2 (.call 204 (.cons (.attr (.loc 0) "slots") (.cons (.bin .mul (.bin .mod (.loc 1) (.attr (.loc 0) "clusters")) (.attr (.loc 0) "ways")) (.cons (.attr (.loc 0) "ways") (.cons (.loc 1) .nil)))))) (.cons (.ite (.cmp .lt (.loc 2) (.c (.int 0))) (.cons (.ret (.c .none)) .nil) .nil) (.cons (.asg 3 (.call 197 (.cons (.idx (.attr (.loc 0) "slots") (.loc 2)) .nil))) (.cons (.ret (.tup (.cons (.idx (.loc 3) (.c (.int 1))) (.cons (.idx (.loc 3) (.c (.int 2))) (.cons (.idx (.loc 3) (.c (.int 3))) (.cons (.idx (.loc 3) (.c (.int 4))) .nil)))))) .nil))))
def fn_TransTable_probe:Fn:=⟨["self","key","at","row"],2,ir_TransTable_probe⟩
def ir_TransTable_save:ISs:=(.cons (.asg 6 (.call 190 (.cons (.loc 1) (.cons (.loc 2) (.cons (.loc 3) (.cons (.loc 4) (.cons (.loc 5) (.cons (.attr (.loc 0) "age") .nil)))))))) (.cons (.asg 7 (.bin .mul (.bin .mod (.loc 1) (.attr (.loc 0) "clusters")) (.attr (.loc 0) "ways"))) (.cons (.asg 8 (.call 204 (.cons (.attr (.loc 0) "slots") (.cons (.loc 7) (.cons (.attr (.loc 0) "ways") (.cons (.loc 1) .nil)))))) (.cons (.ite (.cmp .lt (.loc 8) (.c (.int 0))) (.cons (.asg 8 (.call 218 (.cons (.attr (.loc 0) "slots") (.cons (.loc 7) (.cons (.attr (.loc 0) "ways") (.cons (.attr (.loc 0) "age") .nil)))))) (.cons (.setI (.attr (.loc 0) "slots") (.loc 8) (.loc 6)) (.cons .retN .nil))) .nil) (.cons (.asg 9 (.idx (.attr (.loc 0) "slots") (.loc 8))) (.cons (.ite (.cmp .eq (.loc 2) (.c (.int 0))) (.cons (.asg 6 (.call 232 (.cons (.loc 6) (.cons (.bin .band (.loc 9) (.c (.int 65535))) .nil)))) .nil) .nil) (.cons (.ite (.call 225 (.cons (.loc 9) (.cons (.loc 4) (.cons (.loc 5) (.cons (.attr (.loc 0) "age") .nil))))) (.cons (.setI (.attr (.loc 0) "slots") (.loc 8) (.loc 6)) .nil) (.cons (.setI (.attr (.loc 0) "slots") (.loc 8) (.call 232 (.cons (.loc 9) (.cons (.bin .band (.loc 6) (.c (.int 65535))) .nil)))) .nil)) .nil)))))))
def fn_TransTable_save:Fn:=⟨["self","key","move","value","depth","bound","entry","start","at","old"],6,ir_TransTable_save⟩
def ir_TransTable_new_search:ISs:=(.cons (.setA (.loc 0) "age" (.bin .mod (.bin .add (.attr (.loc 0) "age") (.c (.int 1))) (.c (.int 64)))) .nil)
def fn_TransTable_new_search:Fn:=⟨["self"],1,ir_TransTable_new_search⟩
def ir_cutoff:ISs:=(.cons (.ite (.and (.loc 4) (.cmp .ne (.loc 1) (.loc 3))) (.cons (.ret (.c (.bool false))) .nil) .nil) (.cons (.ite (.cmp .lt (.loc 1) (.loc 3)) (.cons (.ret (.c (.bool false))) .nil) .nil) (.cons (.ite (.cmp .eq (.loc 2) (.c (.int 3))) (.cons (.ret (.c (.bool true))) .nil) .nil) (.cons (.ite (.cmp .eq (.loc 2) (.c (.int 2))) (.cons (.ret (.cmp .ge (.loc 0) (.loc 6))) .nil) .nil) (.cons (.ite (.cmp .eq (.loc 2) (.c (.int 1))) (.cons (.ret (.cmp .le (.loc 0) (.loc 5))) .nil) .nil) (.cons (.ret (.c (.bool false))) .nil))))))
def fn_cutoff:Fn:=⟨["value","depth","bound","want","is_exact","alpha","beta"],7,ir_cutoff⟩
def ir_scale_down:ISs:=(.cons (.ite (.cmp .lt (.loc 0) (.c (.int 0))) (.cons (.ret (.neg (.bin .fdiv (.bin .mul (.neg (.loc 0)) (.loc 1)) (.loc 2)))) .nil) .nil) (.cons (.ret (.bin .fdiv (.bin .mul (.loc 0) (.loc 1)) (.loc 2))) .nil))
def fn_scale_down:Fn:=⟨["value","by","limit"],3,ir_scale_down⟩
def ir_History_init:ISs:=(.cons (.ite (.cmp .lt (.loc 1) (.c (.int 1))) (.cons .bad .nil) .nil) (.cons (.setA (.loc 0) "limit" (.loc 1)) (.cons (.setA (.loc 0) "scores" .dict0) .nil)))
def fn_History_init:Fn:=⟨["self","limit"],2,ir_History_init⟩
def ir_History_get:ISs:=(.cons (.ret (.meth (.attr (.loc 0) "scores") "get" (.cons (.bin .add (.bin .mul (.loc 1) (.c (.int 65536))) (.loc 2)) (.cons (.c (.int 0)) .nil)))) .nil)
def fn_History_get:Fn:=⟨["self","side","move"],3,ir_History_get⟩
def ir_History_update:ISs:=(.cons (.asg 3 (.max2 (.neg (.attr (.loc 0) "limit")) (.min2 (.attr (.loc 0) "limit") (.loc 3)))) (.cons (.asg 4 (.bin .add (.bin .mul (.loc 1) (.c (.int 65536))) (.loc 2))) (.cons (.asg 5 (.meth (.attr (.loc 0) "scores") "get" (.cons (.loc 4) (.cons (.c (.int 0)) .nil)))) (.cons (.setI (.attr (.loc 0) "scores") (.loc 4) (.bin .sub (.bin .add (.loc 5) (.loc 3)) (.call 302 (.cons (.loc 5) (.cons (.abs (.loc 3)) (.cons (.attr (.loc 0) "limit") .nil)))))) .nil))))
def fn_History_update:Fn:=⟨["self","side","move","bonus","at","old"],4,ir_History_update⟩
def ir_History_bonus:ISs:=(.cons (.ret (.min2 (.attr (.loc 0) "limit") (.bin .add (.bin .mul (.bin .mul (.c (.int 16)) (.loc 1)) (.loc 1)) (.bin .mul (.c (.int 32)) (.loc 1))))) .nil)
def fn_History_bonus:Fn:=⟨["self","depth"],2,ir_History_bonus⟩
def ir_Killers_init:ISs:=(.cons (.setA (.loc 0) "plies" (.loc 1)) (.cons (.setA (.loc 0) "first" (.bin .mul (.list (.cons (.c (.int 0)) .nil)) (.loc 1))) (.cons (.setA (.loc 0) "second" (.bin .mul (.list (.cons (.c (.int 0)) .nil)) (.loc 1))) .nil)))
def fn_Killers_init:Fn:=⟨["self","plies"],2,ir_Killers_init⟩
def ir_Killers_add:ISs:=(.cons (.ite (.and (.cmp .lt (.loc 1) (.attr (.loc 0) "plies")) (.cmp .ne (.idx (.attr (.loc 0) "first") (.loc 1)) (.loc 2))) (.cons (.setI (.attr (.loc 0) "second") (.loc 1) (.idx (.attr (.loc 0) "first") (.loc 1))) (.cons (.setI (.attr (.loc 0) "first") (.loc 1) (.loc 2)) .nil)) .nil) .nil)
def fn_Killers_add:Fn:=⟨["self","ply","move"],3,ir_Killers_add⟩
def ir_Killers_pair:ISs:=(.cons (.ite (.cmp .lt (.loc 1) (.attr (.loc 0) "plies")) (.cons (.ret (.tup (.cons (.idx (.attr (.loc 0) "first") (.loc 1)) (.cons (.idx (.attr (.loc 0) "second") (.loc 1)) .nil)))) .nil) .nil) (.cons (.ret (.tup (.cons (.c (.int 0)) (.cons (.c (.int 0)) .nil)))) .nil))
def fn_Killers_pair:Fn:=⟨["self","ply"],2,ir_Killers_pair⟩
def ir_Killers_clear:ISs:=(.cons (.ite (.cmp .lt (.loc 1) (.attr (.loc 0) "plies")) (.cons (.setI (.attr (.loc 0) "first") (.loc 1) (.c (.int 0))) (.cons (.setI (.attr (.loc 0) "second") (.loc 1) (.c (.int 0))) .nil)) .nil) .nil)
def fn_Killers_clear:Fn:=⟨["self","ply"],2,ir_Killers_clear⟩
def ir_reward_loop0:ISs:=(.cons (.ite (.cmp .ne (.loc 8) (.loc 5)) (.cons (.expr (.meth (.loc 0) "update" (.cons (.loc 2) (.cons (.loc 8) (.cons (.neg (.loc 7)) .nil))))) .nil) .nil) .nil)
def ir_reward:ISs:=(.cons (.expr (.meth (.loc 1) "add" (.cons (.loc 3) (.cons (.loc 5) .nil)))) (.cons (.asg 7 (.meth (.loc 0) "bonus" (.cons (.loc 4) .nil))) (.cons (.expr (.meth (.loc 0) "update" (.cons (.loc 2) (.cons (.loc 5) (.cons (.loc 7) .nil))))) (.cons (.for_ 8 (.over (.loc 6)) ir_reward_loop0) .nil))))
def fn_reward:Fn:=⟨["history","killers","side","ply","depth","best","tried","bonus","move"],7,ir_reward⟩
def ir_killer_pair:ISs:=(.cons (.ite (.cmp .is (.loc 0) (.c .none)) (.cons (.ret (.tup (.cons (.c (.int 0)) (.cons (.c (.int 0)) .nil)))) .nil) .nil) (.cons (.ret (.meth (.loc 0) "pair" (.cons (.loc 1) .nil))) .nil))
def fn_killer_pair:Fn:=⟨["killers","ply"],2,ir_killer_pair⟩
def ir_past_score:ISs:=(.cons (.ite (.cmp .is (.loc 0) (.c .none)) (.cons (.ret (.c (.int 0))) .nil) .nil) (.cons (.ret (.meth (.loc 0) "get" (.cons (.loc 1) (.cons (.loc 2) .nil)))) .nil))
def fn_past_score:Fn:=⟨["history","side","move"],3,ir_past_score⟩
def ir_Picker_init:ISs:=(.cons (.setA (.loc 0) "game" (.loc 1)) (.cons (.setA (.loc 0) "left" (.copy (.loc 2))) (.cons (.setA (.loc 0) "table_move" (.loc 3)) (.cons (.setA (.loc 0) "killers" (.loc 4)) (.cons (.setA (.loc 0) "history" (.loc 5)) (.cons (.setA (.loc 0) "ply" (.loc 6)) (.cons (.setA (.loc 0) "stage" (.c (.int 0))) (.cons (.setA (.loc 0) "ready" (.list .nil)) (.cons (.setA (.loc 0) "losing" (.list .nil)) .nil)))))))))
def fn_Picker_init:Fn:=⟨["self","game","moves","table_move","killers","history","ply"],7,ir_Picker_init⟩
def ir_Picker_next_loop0:ISs:=(.cons (.ite (.cmp .eq (.attr (.loc 0) "stage") (.c (.int 5))) (.cons (.ret (.c (.int 0))) .nil) .nil) (.cons (.setA (.loc 0) "ready" (.meth (.loc 0) "fill" (.cons (.attr (.loc 0) "stage") .nil))) (.cons (.augA (.loc 0) "stage" .add (.c (.int 1))) .nil)))
def ir_Picker_next:ISs:=(.cons (.whil (.not (.attr (.loc 0) "ready")) ir_Picker_next_loop0) (.cons (.ret (.call 475 (.cons (.attr (.loc 0) "ready") .nil))) .nil))
def fn_Picker_next:Fn:=⟨["self"],1,ir_Picker_next⟩
def ir_Picker_fill:ISs:=(.cons (.ite (.cmp .eq (.loc 1) (.c (.int 0))) (.cons (.ret (.meth (.loc 0) "fill_table" .nil)) .nil) .nil) (.cons (.ite (.cmp .eq (.loc 1) (.c (.int 1))) (.cons (.ret (.meth (.loc 0) "fill_good" .nil)) .nil) .nil) (.cons (.ite (.cmp .eq (.loc 1) (.c (.int 2))) (.cons (.ret (.meth (.loc 0) "fill_killers" .nil)) .nil) .nil) (.cons (.ite (.cmp .eq (.loc 1) (.c (.int 3))) (.cons (.asg 2 (.meth (.attr (.loc 0) "game") "side" .nil)) (.cons (.ret (.comp (.tup (.cons (.call 414 (.cons (.attr (.loc 1) "history") (.cons (.loc 3) (.cons (.loc 0) .nil)))) (.cons (.loc 0) .nil))) (.over (.attr (.loc 0) "left")))) .nil)) .nil) (.cons (.ret (.attr (.loc 0) "losing")) .nil)))))
def fn_Picker_fill:Fn:=⟨["self","stage","side"],2,ir_Picker_fill⟩
def ir_Picker_fill_table:ISs:=(.cons (.ite (.cmp .notin (.attr (.loc 0) "table_move") (.attr (.loc 0) "left")) (.cons (.ret (.list .nil)) .nil) .nil) (.cons (.expr (.meth (.attr (.loc 0) "left") "remove" (.cons (.attr (.loc 0) "table_move") .nil))) (.cons (.ret (.list (.cons (.tup (.cons (.c (.int 0)) (.cons (.attr (.loc 0) "table_move") .nil))) .nil))) .nil)))
def fn_Picker_fill_table:Fn:=⟨["self"],1,ir_Picker_fill_table⟩
def ir_Picker_fill_good_loop0:ISs:=(.cons (.ite (.not (.meth (.attr (.loc 0) "game") "is_noisy" (.cons (.loc 3) .nil))) (.cons (.expr (.meth (.loc 2) "append" (.cons (.loc 3) .nil))) (.cons .cont .nil)) .nil) (.cons (.asg 4 (.meth (.attr (.loc 0) "game") "gain" (.cons (.loc 3) .nil))) (.cons (.ite (.cmp .ge (.loc 4) (.c (.int 0))) (.cons (.expr (.meth (.loc 1) "append" (.cons (.tup (.cons (.loc 4) (.cons (.loc 3) .nil))) .nil))) .nil) (.cons (.expr (.meth (.attr (.loc 0) "losing") "append" (.cons (.tup (.cons (.loc 4) (.cons (.loc 3) .nil))) .nil))) .nil)) .nil)))
def ir_Picker_fill_good:ISs:=(.cons (.asg 1 (.list .nil)) (.cons (.asg 2 (.list .nil)) (.cons (.for_ 3 (.over (.attr (.loc 0) "left")) ir_Picker_fill_good_loop0) (.cons (.setA (.loc 0) "left" (.loc 2)) (.cons (.ret (.loc 1)) .nil)))))
def fn_Picker_fill_good:Fn:=⟨["self","good","quiet","move","gain"],1,ir_Picker_fill_good⟩
def ir_Picker_fill_killers_loop0:ISs:=(.cons (.ite (.cmp .inn (.loc 2) (.attr (.loc 0) "left")) (.cons (.expr (.meth (.attr (.loc 0) "left") "remove" (.cons (.loc 2) .nil))) (.cons (.expr (.meth (.loc 1) "append" (.cons (.tup (.cons (.c (.int 0)) (.cons (.loc 2) .nil))) .nil))) .nil)) .nil) .nil)
def ir_Picker_fill_killers:ISs:=(.cons (.asg 1 (.list .nil)) (.cons (.for_ 2 (.over (.call 407 (.cons (.attr (.loc 0) "killers") (.cons (.attr (.loc 0) "ply") .nil)))) ir_Picker_fill_killers_loop0) (.cons (.ret (.loc 1)) .nil)))
def fn_Picker_fill_killers:Fn:=⟨["self","found","move"],1,ir_Picker_fill_killers⟩
def ir_take_best_loop0:ISs:=(.cons (.ite (.cmp .gt (.idx (.idx (.loc 0) (.loc 2)) (.c (.int 0))) (.idx (.idx (.loc 0) (.loc 1)) (.c (.int 0)))) (.cons (.asg 1 (.loc 2)) .nil) .nil) .nil)
def ir_take_best:ISs:=(.cons (.asg 1 (.c (.int 0))) (.cons (.for_ 2 (.range (.c (.int 1)) (.len (.loc 0))) ir_take_best_loop0) (.cons (.ret (.idx (.meth (.loc 0) "pop" (.cons (.loc 1) .nil)) (.c (.int 1)))) .nil)))
def fn_take_best:Fn:=⟨["scored","best","at"],1,ir_take_best⟩
def ir_quiesce:ISs:=(.cons (.expr (.meth (.loc 0) "tick" .nil)) (.cons (.asg 5 (.attr (.loc 0) "game")) (.cons (.ite (.and (.cmp .gt (.loc 3) (.c (.int 0))) (.meth (.loc 5) "is_draw" .nil)) (.cons (.ret (.c (.int 0))) .nil) .nil) (.cons (.ite (.meth (.loc 5) "in_check" .nil) (.cons (.asg 6 (.meth (.loc 5) "moves" .nil)) (.cons (.ite (.not (.loc 6)) (.cons (.ret (.call 92 (.cons (.loc 3) .nil))) .nil) .nil) (.cons (.ite (.cmp .le (.loc 4) (.c (.int 0))) (.cons (.ret (.meth (.loc 5) "value" .nil)) .nil) .nil) (.cons (.ret (.call 489 (.cons (.loc 0) (.cons (.loc 6) (.cons (.neg (.c (.int 32001))) (.cons (.loc 1) (.cons (.loc 2) (.cons (.loc 3) (.cons (.loc 4) .nil))))))))) .nil)))) .nil) (.cons (.asg 7 (.meth (.loc 5) "value" .nil)) (.cons (.ite (.or (.cmp .le (.loc 4) (.c (.int 0))) (.cmp .ge (.loc 7) (.loc 2))) (.cons (.ret (.loc 7)) .nil) .nil) (.cons (.ret (.call 489 (.cons (.loc 0) (.cons (.meth (.loc 5) "noisy" .nil) (.cons (.loc 7) (.cons (.max2 (.loc 1) (.loc 7)) (.cons (.loc 2) (.cons (.loc 3) (.cons (.loc 4) .nil))))))))) .nil)))))))
def fn_quiesce:Fn:=⟨["ctx","alpha","beta","ply","qdepth","game","moves","best"],5,ir_quiesce⟩
def ir_quiesce_moves_loop0:ISs:=(.cons (.expr (.call 148 (.cons (.loc 0) (.cons (.loc 8) .nil)))) (.cons (.asg 9 (.neg (.call 482 (.cons (.loc 0) (.cons (.neg (.loc 4)) (.cons (.neg (.loc 3)) (.cons (.bin .add (.loc 5) (.c (.int 1))) (.cons (.bin .sub (.loc 6) (.c (.int 1))) .nil)))))))) (.cons (.expr (.call 155 (.cons (.loc 0) .nil))) (.cons (.ite (.cmp .gt (.loc 9) (.loc 2)) (.cons (.asg 2 (.loc 9)) (.cons (.ite (.cmp .ge (.loc 9) (.loc 4)) (.cons (.ret (.loc 2)) .nil) .nil) (.cons (.asg 3 (.max2 (.loc 3) (.loc 9))) .nil))) .nil) (.cons (.asg 8 (.meth (.loc 7) "next" .nil)) .nil)))))
def ir_quiesce_moves:ISs:=(.cons (.asg 7 (.new 464 (.cons (.attr (.loc 0) "game") (.cons (.loc 1) (.cons (.c (.int 0)) (.cons (.attr (.loc 0) "killers") (.cons (.attr (.loc 0) "history") (.cons (.loc 5) .nil)))))))) (.cons (.asg 8 (.meth (.loc 7) "next" .nil)) (.cons (.whil (.cmp .ne (.loc 8) (.c (.int 0))) ir_quiesce_moves_loop0) (.cons (.ret (.loc 2)) .nil))))
def fn_quiesce_moves:Fn:=⟨["ctx","moves","best","alpha","beta","ply","qdepth","picker","move","value"],7,ir_quiesce_moves⟩
def ir_search:ISs:=(.cons (.expr (.call 169 (.cons (.loc 0) (.cons (.loc 4) .nil)))) (.cons (.ite (.cmp .le (.loc 3) (.c (.int 0))) (.cons (.ret (.call 482 (.cons (.loc 0) (.cons (.loc 1) (.cons (.loc 2) (.cons (.loc 4) (.cons (.attr (.loc 0) "qdepth") .nil))))))) .nil) .nil) (.cons (.expr (.meth (.loc 0) "tick" .nil)) (.cons (.asg 6 (.attr (.loc 0) "game")) (.cons (.ite (.and (.cmp .gt (.loc 4) (.c (.int 0))) (.meth (.loc 6) "is_draw" .nil)) (.cons (.ret (.c (.int 0))) .nil) .nil) (.cons (.asg 7 (.call 92 (.cons (.loc 4) .nil))) (.cons (.asg 8 (.call 99 (.cons (.bin .add (.loc 4) (.c (.int 1))) .nil))) (.cons (.ite (.cmp .ge (.loc 1) (.loc 8)) (.cons (.ret (.loc 8)) .nil) .nil) (.cons (.ite (.cmp .le (.loc 2) (.loc 7)) (.cons (.ret (.loc 7)) .nil) .nil) (.cons (.asg 1 (.max2 (.loc 1) (.loc 7))) (.cons (.asg 2 (.min2 (.loc 2) (.loc 8))) (.cons (.asg 9 (.meth (.loc 6) "key" .nil)) (.cons (.unp [10,11] (.call 517 (.cons (.loc 0) (.cons (.loc 9) (.cons (.loc 1) (.cons (.loc 2) (.cons (.loc 3) (.cons (.loc 4) .nil)))))))) (.cons (.ite (.and (.cmp .isnot (.loc 11) (.c .none)) (.not (.loc 5))) (.cons (.ret (.loc 11)) .nil) .nil) (.cons (.ite (.and (.loc 5) (.and (.cmp .eq (.loc 10) (.c (.int 0))) (.and (.cmp .ge (.loc 3) (.c (.int 4))) (.cmp .isnot (.attr (.loc 0) "table") (.c .none))))) (.cons (.expr (.call 496 (.cons (.loc 0) (.cons (.loc 1) (.cons (.loc 2) (.cons (.bin .sub (.loc 3) (.c (.int 2))) (.cons (.loc 4) (.cons (.loc 5) .nil)))))))) (.cons (.unp [10,11] (.call 517 (.cons (.loc 0) (.cons (.loc 9) (.cons (.loc 1) (.cons (.loc 2) (.cons (.loc 3) (.cons (.loc 4) .nil)))))))) (.cons (.expr (.call 169 (.cons (.loc 0) (.cons (.loc 4) .nil)))) .nil))) .nil) (.cons (.asg 12 (.meth (.loc 6) "moves" .nil)) (.cons (.ite (.not (.loc 12)) (.cons (.ite (.meth (.loc 6) "in_check" .nil) (.cons (.ret (.call 92 (.cons (.loc 4) .nil))) .nil) .nil) (.cons (.ret (.c (.int 0))) .nil)) .nil) (.cons (.ret (.call 503 (.cons (.loc 0) (.cons (.loc 12) (.cons (.loc 10) (.cons (.loc 9) (.cons (.loc 1) (.cons (.loc 2) (.cons (.loc 3) (.cons (.loc 4) (.cons (.loc 5) .nil))))))))))) .nil))))))))))))))))))
def fn_search:Fn:=⟨["ctx","alpha","beta","depth","ply","is_pv","game","low","high","key","table_move","value","moves"],6,ir_search⟩
def ir_search_moves_loop0:ISs:=(.cons (.asg 18 (.meth (.loc 9) "is_noisy" (.cons (.loc 17) .nil))) (.cons (.expr (.call 148 (.cons (.loc 0) (.cons (.loc 17) .nil)))) (.cons (.asg 19 (.call 510 (.cons (.loc 0) (.cons (.loc 4) (.cons (.loc 5) (.cons (.loc 6) (.cons (.loc 7) (.cons (.loc 8) (.cons (.loc 16) .nil))))))))) (.cons (.expr (.call 155 (.cons (.loc 0) .nil))) (.cons (.asg 16 (.c (.bool false))) (.cons (.ite (.cmp .gt (.loc 19) (.loc 13)) (.cons (.asg 13 (.loc 19)) .nil) .nil) (.cons (.ite (.cmp .gt (.loc 19) (.loc 4)) (.cons (.asg 14 (.loc 17)) (.cons (.ite (.loc 8) (.cons (.expr (.call 176 (.cons (.loc 0) (.cons (.loc 7) (.cons (.loc 17) .nil))))) .nil) .nil) (.cons (.ite (.cmp .ge (.loc 19) (.loc 5)) (.cons (.ite (.and (.not (.loc 18)) (.and (.cmp .isnot (.attr (.loc 0) "history") (.c .none)) (.cmp .isnot (.attr (.loc 0) "killers") (.c .none)))) (.cons (.expr (.call 400 (.cons (.attr (.loc 0) "history") (.cons (.attr (.loc 0) "killers") (.cons (.loc 10) (.cons (.loc 7) (.cons (.loc 6) (.cons (.loc 17) (.cons (.loc 15) .nil))))))))) .nil) .nil) (.cons .brk .nil)) .nil) (.cons (.asg 4 (.loc 19)) .nil)))) .nil) (.cons (.ite (.not (.loc 18)) (.cons (.expr (.meth (.loc 15) "append" (.cons (.loc 17) .nil))) .nil) .nil) (.cons (.asg 17 (.meth (.loc 11) "next" .nil)) .nil)))))))))
def ir_search_moves:ISs:=(.cons (.asg 9 (.attr (.loc 0) "game")) (.cons (.ite (.cmp .isnot (.attr (.loc 0) "killers") (.c .none)) (.cons (.expr (.meth (.attr (.loc 0) "killers") "clear" (.cons (.bin .add (.loc 7) (.c (.int 2))) .nil))) .nil) .nil) (.cons (.asg 10 (.meth (.loc 9) "side" .nil)) (.cons (.asg 11 (.new 464 (.cons (.loc 9) (.cons (.loc 1) (.cons (.loc 2) (.cons (.attr (.loc 0) "killers") (.cons (.attr (.loc 0) "history") (.cons (.loc 7) .nil)))))))) (.cons (.asg 12 (.loc 4)) (.cons (.asg 13 (.neg (.c (.int 32001)))) (.cons (.asg 14 (.c (.int 0))) (.cons (.asg 15 (.list .nil)) (.cons (.asg 16 (.c (.bool true))) (.cons (.asg 17 (.meth (.loc 11) "next" .nil)) (.cons (.whil (.cmp .ne (.loc 17) (.c (.int 0))) ir_search_moves_loop0) (.cons (.expr (.call 524 (.cons (.loc 0) (.cons (.loc 3) (.cons (.loc 14) (.cons (.loc 13) (.cons (.loc 12) (.cons (.loc 5) (.cons (.loc 6) (.cons (.loc 7) .nil)))))))))) (.cons (.ret (.loc 13)) .nil)))))))))))))
def fn_search_moves:Fn:=⟨["ctx","moves","table_move","key","alpha","beta","depth","ply","is_pv","game","side","picker","start","best","best_move","quiets","is_first","move","is_noisy","value"],9,ir_search_moves⟩
def ir_search_child:ISs:=(.cons (.ite (.loc 6) (.cons (.ret (.neg (.call 496 (.cons (.loc 0) (.cons (.neg (.loc 2)) (.cons (.neg (.loc 1)) (.cons (.bin .sub (.loc 3) (.c (.int 1))) (.cons (.bin .add (.loc 4) (.c (.int 1))) (.cons (.loc 5) .nil))))))))) .nil) .nil) (.cons (.asg 7 (.neg (.call 496 (.cons (.loc 0) (.cons (.bin .sub (.neg (.loc 1)) (.c (.int 1))) (.cons (.neg (.loc 1)) (.cons (.bin .sub (.loc 3) (.c (.int 1))) (.cons (.bin .add (.loc 4) (.c (.int 1))) (.cons (.c (.bool false)) .nil))))))))) (.cons (.ite (.and (.cmp .lt (.loc 1) (.loc 7)) (.cmp .lt (.loc 7) (.loc 2))) (.cons (.asg 7 (.neg (.call 496 (.cons (.loc 0) (.cons (.neg (.loc 2)) (.cons (.neg (.loc 1)) (.cons (.bin .sub (.loc 3) (.c (.int 1))) (.cons (.bin .add (.loc 4) (.c (.int 1))) (.cons (.loc 5) .nil))))))))) .nil) .nil) (.cons (.ret (.loc 7)) .nil))))
def fn_search_child:Fn:=⟨["ctx","alpha","beta","depth","ply","is_pv","is_first","value"],7,ir_search_child⟩
def ir_look_up:ISs:=(.cons (.ite (.cmp .is (.attr (.loc 0) "table") (.c .none)) (.cons (.ret (.tup (.cons (.c (.int 0)) (.cons (.c .none) .nil)))) .nil) .nil) (.cons (.asg 6 (.meth (.attr (.loc 0) "table") "probe" (.cons (.loc 1) .nil))) (.cons (.ite (.cmp .is (.loc 6) (.c .none)) (.cons (.ret (.tup (.cons (.c (.int 0)) (.cons (.c .none) .nil)))) .nil) .nil) (.cons (.asg 7 (.call 113 (.cons (.idx (.loc 6) (.c (.int 1))) (.cons (.loc 5) .nil)))) (.cons (.ite (.call 295 (.cons (.loc 7) (.cons (.idx (.loc 6) (.c (.int 2))) (.cons (.idx (.loc 6) (.c (.int 3))) (.cons (.loc 4) (.cons (.attr (.loc 0) "is_exact") (.cons (.loc 2) (.cons (.loc 3) .nil)))))))) (.cons (.ret (.tup (.cons (.idx (.loc 6) (.c (.int 0))) (.cons (.loc 7) .nil)))) .nil) .nil) (.cons (.ret (.tup (.cons (.idx (.loc 6) (.c (.int 0))) (.cons (.c .none) .nil)))) .nil))))))
def fn_look_up:Fn:=⟨["ctx","key","alpha","beta","depth","ply","found","value"],6,ir_look_up⟩
def ir_keep_value:ISs:=(.cons (.ite (.cmp .is (.attr (.loc 0) "table") (.c .none)) (.cons .retN .nil) .nil) (.cons (.asg 8 (.c (.int 3))) (.cons (.ite (.cmp .ge (.loc 3) (.loc 5)) (.cons (.asg 8 (.c (.int 2))) .nil) (.cons (.ite (.cmp .le (.loc 3) (.loc 4)) (.cons (.asg 8 (.c (.int 1))) .nil) .nil) .nil)) (.cons (.expr (.meth (.attr (.loc 0) "table") "save" (.cons (.loc 1) (.cons (.loc 2) (.cons (.call 106 (.cons (.loc 3) (.cons (.loc 7) .nil))) (.cons (.loc 6) (.cons (.loc 8) .nil))))))) .nil))))
def fn_keep_value:Fn:=⟨["ctx","key","move","best","start","beta","depth","ply","bound"],8,ir_keep_value⟩
def ir_root_value:ISs:=(.cons (.ret (.call 496 (.cons (.loc 0) (.cons (.neg (.c (.int 32001))) (.cons (.c (.int 32001)) (.cons (.loc 1) (.cons (.c (.int 0)) (.cons (.c (.bool true)) .nil)))))))) .nil)
def fn_root_value:Fn:=⟨["ctx","depth"],2,ir_root_value⟩
def ir_Report_init:ISs:=(.cons (.setA (.loc 0) "depth" (.loc 1)) (.cons (.setA (.loc 0) "value" (.loc 2)) (.cons (.setA (.loc 0) "line" (.loc 3)) (.cons (.setA (.loc 0) "nodes" (.loc 4)) .nil))))
def fn_Report_init:Fn:=⟨["self","depth","value","line","nodes"],5,ir_Report_init⟩
def ir_lower_edge:ISs:=(.cons (.ite (.cmp .gt (.loc 1) (.c (.int 1000))) (.cons (.ret (.neg (.c (.int 32001)))) .nil) .nil) (.cons (.ret (.max2 (.bin .sub (.loc 0) (.loc 1)) (.neg (.c (.int 32001))))) .nil))
def fn_lower_edge:Fn:=⟨["value","delta"],2,ir_lower_edge⟩
def ir_upper_edge:ISs:=(.cons (.ite (.cmp .gt (.loc 1) (.c (.int 1000))) (.cons (.ret (.c (.int 32001))) .nil) .nil) (.cons (.ret (.min2 (.bin .add (.loc 0) (.loc 1)) (.c (.int 32001)))) .nil))
def fn_upper_edge:Fn:=⟨["value","delta"],2,ir_upper_edge⟩
def ir_aspirate_loop0:ISs:=(.cons (.ite (.cmp .le (.loc 6) (.loc 4)) (.cons (.asg 5 (.bin .fdiv (.bin .add (.loc 4) (.loc 5)) (.c (.int 2)))) (.cons (.asg 4 (.call 559 (.cons (.loc 6) (.cons (.loc 3) .nil)))) .nil)) (.cons (.asg 5 (.call 566 (.cons (.loc 6) (.cons (.loc 3) .nil)))) .nil)) (.cons (.augL 3 .add (.bin .add (.bin .fdiv (.loc 3) (.c (.int 4))) (.c (.int 5)))) (.cons (.asg 6 (.call 496 (.cons (.loc 0) (.cons (.loc 4) (.cons (.loc 5) (.cons (.loc 1) (.cons (.c (.int 0)) (.cons (.c (.bool true)) .nil)))))))) .nil)))
def ir_aspirate:ISs:=(.cons (.asg 2 (.max2 (.neg (.c (.int 32000))) (.min2 (.c (.int 32000)) (.loc 2)))) (.cons (.asg 3 (.max2 (.c (.int 1)) (.loc 3))) (.cons (.asg 4 (.call 559 (.cons (.loc 2) (.cons (.loc 3) .nil)))) (.cons (.asg 5 (.call 566 (.cons (.loc 2) (.cons (.loc 3) .nil)))) (.cons (.asg 6 (.call 496 (.cons (.loc 0) (.cons (.loc 4) (.cons (.loc 5) (.cons (.loc 1) (.cons (.c (.int 0)) (.cons (.c (.bool true)) .nil)))))))) (.cons (.whil (.or (.cmp .le (.loc 6) (.loc 4)) (.cmp .ge (.loc 6) (.loc 5))) ir_aspirate_loop0) (.cons (.ret (.loc 6)) .nil)))))))
def fn_aspirate:Fn:=⟨["ctx","depth","guess","delta","alpha","beta","value"],4,ir_aspirate⟩
def ir_deepest:ISs:=(.cons (.ret (.bin .sub (.bin .sub (.c (.int 246)) (.c (.int 1))) (.max2 (.c (.int 0)) (.attr (.loc 0) "qdepth")))) .nil)
def fn_deepest:Fn:=⟨["ctx"],1,ir_deepest⟩
def ir_iterate_loop0:ISs:=(.cons (.ite (.not (.loc 3)) (.cons (.asg 6 (.call 531 (.cons (.loc 0) (.cons (.loc 5) .nil)))) .nil) (.cons (.asg 6 (.call 573 (.cons (.loc 0) (.cons (.loc 5) (.cons (.attr (.idx (.loc 3) (.neg (.c (.int 1)))) "value") (.cons (.loc 2) .nil)))))) .nil)) (.cons (.expr (.meth (.loc 3) "append" (.cons (.new 548 (.cons (.loc 5) (.cons (.loc 6) (.cons (.call 183 (.cons (.loc 0) (.cons (.c (.int 0)) .nil))) (.cons (.attr (.loc 0) "nodes") .nil))))) .nil))) (.cons (.augL 5 .add (.c (.int 1))) .nil)))
def ir_iterate_try0:ISs:=(.cons (.whil (.cmp .le (.loc 5) (.loc 4)) ir_iterate_loop0) .nil)
def ir_iterate_exc0:ISs:=(.cons (.expr (.call 162 (.cons (.loc 0) .nil))) .nil)
def ir_iterate:ISs:=(.cons (.ite (.cmp .isnot (.attr (.loc 0) "table") (.c .none)) (.cons (.expr (.meth (.attr (.loc 0) "table") "new_search" .nil)) .nil) .nil) (.cons (.asg 3 (.list .nil)) (.cons (.asg 4 (.min2 (.loc 1) (.call 580 (.cons (.loc 0) .nil)))) (.cons (.asg 5 (.c (.int 1))) (.cons (.tryStop ir_iterate_try0 none ir_iterate_exc0) (.cons (.ret (.loc 3)) .nil))))))
def fn_iterate:Fn:=⟨["ctx","max_depth","delta","reports","top","depth","value"],3,ir_iterate⟩
def ir_mtdf_loop0:ISs:=(.cons (.asg 6 (.max2 (.loc 3) (.bin .add (.loc 4) (.c (.int 1))))) (.cons (.asg 3 (.call 496 (.cons (.loc 0) (.cons (.bin .sub (.loc 6) (.c (.int 1))) (.cons (.loc 6) (.cons (.loc 1) (.cons (.c (.int 0)) (.cons (.c (.bool false)) .nil)))))))) (.cons (.ite (.cmp .lt (.loc 3) (.loc 6)) (.cons (.asg 5 (.loc 3)) .nil) (.cons (.asg 4 (.loc 3)) .nil)) .nil)))
def ir_mtdf:ISs:=(.cons (.asg 3 (.max2 (.neg (.c (.int 32000))) (.min2 (.c (.int 32000)) (.loc 2)))) (.cons (.asg 4 (.neg (.c (.int 32001)))) (.cons (.asg 5 (.c (.int 32001))) (.cons (.whil (.cmp .lt (.loc 4) (.loc 5)) ir_mtdf_loop0) (.cons (.ret (.loc 3)) .nil)))))
def fn_mtdf:Fn:=⟨["ctx","depth","guess","value","low","high","beta"],3,ir_mtdf⟩
def ir_TreeGame_init:ISs:=(.cons (.setA (.loc 0) "children" (.loc 1)) (.cons (.setA (.loc 0) "values" (.loc 2)) (.cons (.setA (.loc 0) "checks" (.loc 3)) (.cons (.setA (.loc 0) "draws" (.loc 4)) (.cons (.setA (.loc 0) "noisy_rows" (.loc 5)) (.cons (.setA (.loc 0) "gain_rows" (.loc 6)) (.cons (.setA (.loc 0) "path" (.list (.cons (.c (.int 0)) .nil))) .nil)))))))
def fn_TreeGame_init:Fn:=⟨["self","children","values","checks","draws","noisy","gains"],7,ir_TreeGame_init⟩
def ir_TreeGame_moves:ISs:=(.cons (.ret (.listR (.c (.int 1)) (.bin .add (.len (.idx (.attr (.loc 0) "children") (.idx (.attr (.loc 0) "path") (.neg (.c (.int 1)))))) (.c (.int 1))))) .nil)
def fn_TreeGame_moves:Fn:=⟨["self"],1,ir_TreeGame_moves⟩
def ir_TreeGame_noisy:ISs:=(.cons (.ret (.compIf (.loc 0) (.over (.meth (.loc 0) "moves" .nil)) (.meth (.loc 1) "is_noisy" (.cons (.loc 0) .nil)))) .nil)
def fn_TreeGame_noisy:Fn:=⟨["self"],1,ir_TreeGame_noisy⟩
def ir_TreeGame_make:ISs:=(.cons (.asg 2 (.idx (.attr (.loc 0) "children") (.idx (.attr (.loc 0) "path") (.neg (.c (.int 1)))))) (.cons (.ite (.or (.cmp .lt (.loc 1) (.c (.int 1))) (.cmp .gt (.loc 1) (.len (.loc 2)))) (.cons .bad .nil) .nil) (.cons (.expr (.meth (.attr (.loc 0) "path") "append" (.cons (.idx (.loc 2) (.bin .sub (.loc 1) (.c (.int 1)))) .nil))) .nil)))
def fn_TreeGame_make:Fn:=⟨["self","move","kids"],2,ir_TreeGame_make⟩
def ir_TreeGame_undo:ISs:=(.cons (.ite (.cmp .eq (.len (.attr (.loc 0) "path")) (.c (.int 1))) (.cons .bad .nil) .nil) (.cons (.expr (.meth (.attr (.loc 0) "path") "pop" .nil)) .nil))
def fn_TreeGame_undo:Fn:=⟨["self"],1,ir_TreeGame_undo⟩
def ir_TreeGame_value:ISs:=(.cons (.ret (.idx (.attr (.loc 0) "values") (.idx (.attr (.loc 0) "path") (.neg (.c (.int 1)))))) .nil)
def fn_TreeGame_value:Fn:=⟨["self"],1,ir_TreeGame_value⟩
def ir_TreeGame_key:ISs:=(.cons (.ret (.bin .add (.idx (.attr (.loc 0) "path") (.neg (.c (.int 1)))) (.c (.int 1)))) .nil)
def fn_TreeGame_key:Fn:=⟨["self"],1,ir_TreeGame_key⟩
def ir_TreeGame_in_check:ISs:=(.cons (.ret (.idx (.attr (.loc 0) "checks") (.idx (.attr (.loc 0) "path") (.neg (.c (.int 1)))))) .nil)
def fn_TreeGame_in_check:Fn:=⟨["self"],1,ir_TreeGame_in_check⟩
def ir_TreeGame_is_draw:ISs:=(.cons (.ret (.idx (.attr (.loc 0) "draws") (.idx (.attr (.loc 0) "path") (.neg (.c (.int 1)))))) .nil)
def fn_TreeGame_is_draw:Fn:=⟨["self"],1,ir_TreeGame_is_draw⟩
def ir_TreeGame_is_noisy:ISs:=(.cons (.ret (.idx (.idx (.attr (.loc 0) "noisy_rows") (.idx (.attr (.loc 0) "path") (.neg (.c (.int 1))))) (.bin .sub (.loc 1) (.c (.int 1))))) .nil)
def fn_TreeGame_is_noisy:Fn:=⟨["self","move"],2,ir_TreeGame_is_noisy⟩
def ir_TreeGame_gain:ISs:=(.cons (.ret (.idx (.idx (.attr (.loc 0) "gain_rows") (.idx (.attr (.loc 0) "path") (.neg (.c (.int 1))))) (.bin .sub (.loc 1) (.c (.int 1))))) .nil)
def fn_TreeGame_gain:Fn:=⟨["self","move"],2,ir_TreeGame_gain⟩
def ir_TreeGame_side:ISs:=(.cons (.ret (.bin .band (.bin .sub (.len (.attr (.loc 0) "path")) (.c (.int 1))) (.c (.int 1)))) .nil)
def fn_TreeGame_side:Fn:=⟨["self"],1,ir_TreeGame_side⟩
def ir_law_card:ISs:=(.cons (.augK (.loc 0) "turn" .add (.c (.int 1))) (.cons (.ite (.cmp .ne (.key (.loc 0) "pile") (.list .nil)) (.cons (.ret (.bin .mod (.meth (.key (.loc 0) "pile") "pop" .nil) (.loc 1))) .nil) .nil) (.cons (.ret (.bin .mod (.bin .fdiv (.bin .mul (.key (.loc 0) "turn") (.bin .add (.key (.loc 0) "turn") (.c (.int 7)))) (.c (.int 2))) (.loc 1))) .nil)))
def fn_law_card:Fn:=⟨["deck","bound"],2,ir_law_card⟩
def ir_law_deal_loop0:ISs:=(.cons (.asg 4 (.ife (.cmp .eq (.loc 3) (.c (.int 0))) (.bin .add (.c (.int 1)) (.call 697 (.cons (.loc 0) (.cons (.c (.int 2)) .nil)))) (.call 697 (.cons (.loc 0) (.cons (.c (.int 3)) .nil))))) (.cons (.asg 5 (.list .nil)) (.cons (.ite (.cmp .lt (.loc 3) (.bin .sub (.loc 1) (.c (.int 1)))) (.cons (.asg 5 (.comp (.bin .add (.bin .add (.loc 4) (.c (.int 1))) (.call 697 (.cons (.loc 1) (.cons (.bin .sub (.bin .sub (.loc 2) (.c (.int 1))) (.loc 4)) .nil)))) (.range (.c (.int 0)) (.loc 4)))) .nil) .nil) (.cons (.asg 6 (.idx (.list (.cons (.c (.int 100)) (.cons (.c (.int 1200)) (.cons (.c (.int 20000)) .nil)))) (.call 697 (.cons (.loc 0) (.cons (.c (.int 3)) .nil))))) (.cons (.asg 7 (.bin .sub (.call 697 (.cons (.loc 0) (.cons (.bin .add (.bin .mul (.c (.int 2)) (.loc 6)) (.c (.int 1))) .nil))) (.loc 6))) (.cons (.asg 8 (.comp (.cmp .eq (.call 697 (.cons (.loc 1) (.cons (.c (.int 2)) .nil))) (.c (.int 1))) (.over (.loc 5)))) (.cons (.asg 9 (.comp (.bin .sub (.call 697 (.cons (.loc 1) (.cons (.c (.int 5)) .nil))) (.c (.int 2))) (.over (.loc 5)))) (.cons (.expr (.meth (.loc 2) "append" (.cons (.tup (.cons (.loc 5) (.cons (.loc 7) (.cons (.cmp .eq (.call 697 (.cons (.loc 0) (.cons (.c (.int 4)) .nil))) (.c (.int 3))) (.cons (.cmp .eq (.call 697 (.cons (.loc 0) (.cons (.c (.int 6)) .nil))) (.c (.int 5))) (.cons (.loc 8) (.cons (.loc 9) .nil))))))) .nil))) .nil))))))))
def ir_law_deal:ISs:=(.cons (.asg 1 (.bin .add (.c (.int 3)) (.call 697 (.cons (.loc 0) (.cons (.c (.int 4)) .nil))))) (.cons (.asg 2 (.list .nil)) (.cons (.for_ 3 (.range (.c (.int 0)) (.loc 1)) ir_law_deal_loop0) (.cons (.ret (.loc 2)) .nil))))
def fn_law_deal:Fn:=⟨["deck","count","places","here","many","kids","size","value","marks","gains"],1,ir_law_deal⟩
def ir_law_full_loop0:ISs:=(.cons (.ite (.cmp .gt (.loc 3) (.c (.int 0))) (.cons (.expr (.meth (.loc 11) "append" (.cons (.neg (.call 709 (.cons (.loc 0) (.cons (.idx (.loc 5) (.loc 12)) (.cons (.bin .add (.loc 2) (.c (.int 1))) (.cons (.bin .sub (.loc 3) (.c (.int 1))) (.cons (.loc 4) .nil))))))) .nil))) .nil) (.cons (.ite (.or (.loc 7) (.idx (.loc 9) (.loc 12))) (.cons (.expr (.meth (.loc 11) "append" (.cons (.neg (.call 709 (.cons (.loc 0) (.cons (.idx (.loc 5) (.loc 12)) (.cons (.bin .add (.loc 2) (.c (.int 1))) (.cons (.c (.int 0)) (.cons (.bin .sub (.loc 4) (.c (.int 1))) .nil))))))) .nil))) .nil) .nil) .nil)) .nil)
def ir_law_full:ISs:=(.cons (.unp [5,6,7,8,9,10] (.idx (.loc 0) (.loc 1))) (.cons (.ite (.and (.cmp .gt (.loc 2) (.c (.int 0))) (.loc 8)) (.cons (.ret (.c (.int 0))) .nil) .nil) (.cons (.ite (.and (.cmp .eq (.loc 5) (.list .nil)) (.or (.cmp .gt (.loc 3) (.c (.int 0))) (.loc 7))) (.cons (.ret (.ife (.loc 7) (.bin .sub (.loc 2) (.c (.int 32000))) (.c (.int 0)))) .nil) .nil) (.cons (.ite (.and (.cmp .eq (.loc 3) (.c (.int 0))) (.cmp .eq (.loc 4) (.c (.int 0)))) (.cons (.ret (.loc 6)) .nil) .nil) (.cons (.asg 11 (.list .nil)) (.cons (.for_ 12 (.range (.c (.int 0)) (.len (.loc 5))) ir_law_full_loop0) (.cons (.ite (.and (.cmp .eq (.loc 3) (.c (.int 0))) (.not (.loc 7))) (.cons (.expr (.meth (.loc 11) "append" (.cons (.loc 6) .nil))) .nil) .nil) (.cons (.ret (.maxl (.loc 11))) .nil))))))))
def fn_law_full:Fn:=⟨["places","here","ply","depth","calm","kids","value","is_check","is_drawn","marks","gains","answers","spot"],5,ir_law_full⟩
def ir_law_leads_loop0:ISs:=(.cons (.asg 7 (.idx (.idx (.loc 0) (.loc 5)) (.c (.int 0)))) (.cons (.ite (.or (.cmp .ge (.loc 6) (.loc 2)) (.not (.cmp2 .le .le (.c (.int 1)) (.idx (.loc 1) (.loc 6)) (.len (.loc 7))))) (.cons (.ret (.c (.bool false))) .nil) .nil) (.cons (.ite (.and (.cmp .gt (.loc 6) (.c (.int 0))) (.idx (.idx (.loc 0) (.loc 5)) (.c (.int 3)))) (.cons (.ret (.c (.bool false))) .nil) .nil) (.cons (.asg 5 (.idx (.loc 7) (.bin .sub (.idx (.loc 1) (.loc 6)) (.c (.int 1))))) (.cons (.asg 4 (.neg (.loc 4))) (.cons (.ite (.cmp .ne (.call 709 (.cons (.loc 0) (.cons (.loc 5) (.cons (.bin .add (.loc 6) (.c (.int 1))) (.cons (.bin .sub (.bin .sub (.loc 2) (.loc 6)) (.c (.int 1))) (.cons (.loc 3) .nil)))))) (.loc 4)) (.cons (.ret (.c (.bool false))) .nil) .nil) .nil))))))
def ir_law_leads:ISs:=(.cons (.asg 5 (.c (.int 0))) (.cons (.for_ 6 (.range (.c (.int 0)) (.len (.loc 1))) ir_law_leads_loop0) (.cons (.ret (.or (.cmp .eq (.len (.loc 1)) (.loc 2)) (.or (.cmp .eq (.idx (.idx (.loc 0) (.loc 5)) (.c (.int 0))) (.list .nil)) (.and (.cmp .ne (.loc 1) (.list .nil)) (.idx (.idx (.loc 0) (.loc 5)) (.c (.int 3))))))) .nil)))
def fn_law_leads:Fn:=⟨["places","row","depth","calm","value","here","turn","kids"],5,ir_law_leads⟩
def ir_law_game:ISs:=(.cons (.asg 1 (.comp (.comp (.idx (.loc 0) (.loc 1)) (.over (.loc 1))) (.range (.c (.int 0)) (.c (.int 6))))) (.cons (.ret (.new 686 (.cons (.idx (.loc 1) (.c (.int 0))) (.cons (.idx (.loc 1) (.c (.int 1))) (.cons (.idx (.loc 1) (.c (.int 2))) (.cons (.idx (.loc 1) (.c (.int 3))) (.cons (.idx (.loc 1) (.c (.int 4))) (.cons (.idx (.loc 1) (.c (.int 5))) .nil)))))))) .nil))
def fn_law_game:Fn:=⟨["places","columns"],1,ir_law_game⟩
def ir_law_context:ISs:=(.cons (.asg 4 (.idx (.list (.cons (.c .none) (.cons (.new 284 (.cons (.c (.int 1)) (.cons (.c (.int 1)) .nil))) (.cons (.new 284 (.cons (.c (.int 2)) (.cons (.c (.int 2)) .nil))) .nil)))) (.bin .fdiv (.loc 1) (.c (.int 2))))) (.cons (.ite (.cmp .eq (.bin .mod (.loc 1) (.c (.int 2))) (.c (.int 1))) (.cons (.ret (.new 137 (.cons (.call 721 (.cons (.loc 0) .nil)) (.cons (.loc 4) (.cons (.new 389 (.cons (.c (.int 3)) .nil)) (.cons (.new 347 (.cons (.c (.int 400)) .nil)) (.cons (.loc 2) (.cons (.c (.bool true)) (.cons (.loc 3) .nil))))))))) .nil) .nil) (.cons (.ret (.new 137 (.cons (.call 721 (.cons (.loc 0) .nil)) (.cons (.loc 4) (.cons (.c .none) (.cons (.c .none) (.cons (.loc 2) (.cons (.c (.bool true)) (.cons (.loc 3) .nil))))))))) .nil)))
def fn_law_context:Fn:=⟨["places","tools","calm","most","rows"],4,ir_law_context⟩
def ir_law_at_root:ISs:=(.cons (.ret (.and (.cmp .eq (.attr (.loc 0) "made") (.c (.int 0))) (.and (.cmp .eq (.meth (.attr (.loc 0) "game") "key" .nil) (.c (.int 1))) (.cmp .eq (.meth (.attr (.loc 0) "game") "moves" .nil) (.listR (.c (.int 1)) (.bin .add (.len (.idx (.idx (.loc 1) (.c (.int 0))) (.c (.int 0)))) (.c (.int 1)))))))) .nil)
def fn_law_at_root:Fn:=⟨["ctx","places"],2,ir_law_at_root⟩
def ir_law_reports:ISs:=(.cons (.ret (.comp (.tup (.cons (.attr (.loc 0) "depth") (.cons (.attr (.loc 0) "value") (.cons (.attr (.loc 0) "line") (.cons (.attr (.loc 0) "nodes") .nil))))) (.over (.call 587 (.cons (.loc 0) (.cons (.loc 1) (.cons (.loc 2) .nil))))))) .nil)
def fn_law_reports:Fn:=⟨["ctx","depth","delta"],3,ir_law_reports⟩
def ir_law_guess:ISs:=(.cons (.asg 2 (.bin .sub (.bin .add (.loc 1) (.call 697 (.cons (.loc 0) (.cons (.c (.int 9)) .nil)))) (.c (.int 4)))) (.cons (.asg 3 (.bin .sub (.call 697 (.cons (.loc 0) (.cons (.c (.int 50001)) .nil))) (.c (.int 25000)))) (.cons (.ret (.idx (.list (.cons (.loc 1) (.cons (.loc 2) (.cons (.loc 3) (.cons (.neg (.c (.int 32000))) (.cons (.c (.int 32000)) (.cons (.c (.int 0)) (.cons (.c (.int (10 ^ 99))) (.cons (.neg (.c (.int (10 ^ 99)))) .nil))))))))) (.call 697 (.cons (.loc 0) (.cons (.c (.int 8)) .nil))))) .nil)))
def fn_law_guess:Fn:=⟨["deck","value","near","far"],2,ir_law_guess⟩
def ir_law_try0:ISs:=(.cons (.asg 14 (.call 747 (.cons (.loc 1) (.cons (.idx (.loc 7) (.neg (.c (.int 1)))) .nil)))) (.cons (.asg 10 (.ife (.cmp .eq (.bin .mod (.loc 5) (.c (.int 2))) (.c (.int 0))) (.call 573 (.cons (.loc 8) (.cons (.loc 3) (.cons (.loc 14) (.cons (.c (.int 1)) .nil))))) (.call 594 (.cons (.loc 8) (.cons (.loc 3) (.cons (.loc 14) .nil)))))) (.cons (.ite (.or (.cmp .ne (.loc 10) (.idx (.loc 7) (.neg (.c (.int 1))))) (.cmp .gt (.attr (.loc 8) "nodes") (.loc 11))) (.cons (.ret (.c (.bool false))) .nil) .nil) .nil)))
def ir_law_exc0:ISs:=(.cons (.ite (.cmp .ne (.attr (.loc 16) "nodes") (.loc 11)) (.cons (.ret (.c (.bool false))) .nil) .nil) (.cons (.expr (.call 162 (.cons (.loc 8) .nil))) .nil))
def ir_law_loop0:ISs:=(.cons (.asg 13 (.bin .add (.c (.int 1)) (.call 697 (.cons (.loc 1) (.cons (.loc 3) .nil))))) (.cons (.asg 14 (.call 747 (.cons (.loc 1) (.cons (.idx (.loc 7) (.bin .sub (.loc 13) (.c (.int 1)))) .nil)))) (.cons (.asg 15 (.idx (.list (.cons (.c (.int 1)) (.cons (.c (.int 40)) (.cons (.neg (.c (.int 3))) (.cons (.c (.int 999)) (.cons (.c (.int 1001)) (.cons (.c (.int (10 ^ 80))) .nil))))))) (.call 697 (.cons (.loc 1) (.cons (.c (.int 6)) .nil))))) (.cons (.ite (.or (.cmp .ne (.call 573 (.cons (.loc 8) (.cons (.loc 13) (.cons (.loc 14) (.cons (.loc 15) .nil))))) (.idx (.loc 7) (.bin .sub (.loc 13) (.c (.int 1))))) (.cmp .ne (.call 594 (.cons (.loc 8) (.cons (.loc 13) (.cons (.loc 14) .nil)))) (.idx (.loc 7) (.bin .sub (.loc 13) (.c (.int 1)))))) (.cons (.ret (.c (.bool false))) .nil) .nil) (.cons (.ite (.not (.call 735 (.cons (.loc 8) (.cons (.loc 2) .nil)))) (.cons (.ret (.c (.bool false))) .nil) .nil) .nil)))))
def ir_law_loop1:ISs:=(.cons (.ite (.or (.not (.call 716 (.cons (.loc 2) (.cons (.idx (.loc 10) (.c (.int 2))) (.cons (.idx (.loc 10) (.c (.int 0))) (.cons (.loc 4) (.cons (.idx (.loc 10) (.c (.int 1))) .nil))))))) (.not (.call 735 (.cons (.loc 8) (.cons (.loc 2) .nil))))) (.cons (.ret (.c (.bool false))) .nil) .nil) .nil)
def ir_law:ISs:=(.cons (.asg 1 (.deck "pile" "turn" (.rev (.upto (.loc 0) 60)) (.c (.int 0)))) (.cons (.asg 2 (.call 702 (.cons (.loc 1) .nil))) (.cons (.asg 3 (.bin .add (.c (.int 1)) (.call 697 (.cons (.loc 1) (.cons (.c (.int 3)) .nil))))) (.cons (.asg 4 (.call 697 (.cons (.loc 1) (.cons (.bin .sub (.c (.int 4)) (.loc 3)) .nil)))) (.cons (.asg 5 (.call 697 (.cons (.loc 1) (.cons (.c (.int 6)) .nil)))) (.cons (.asg 6 (.idx (.list (.cons (.c (.int 1)) (.cons (.c (.int 16)) (.cons (.neg (.c (.int 5))) (.cons (.c (.int 300)) (.cons (.c (.int 5000)) (.cons (.c (.int (10 ^ 60))) .nil))))))) (.call 697 (.cons (.loc 1) (.cons (.c (.int 6)) .nil))))) (.cons (.asg 7 (.comp (.call 709 (.cons (.loc 3) (.cons (.c (.int 0)) (.cons (.c (.int 0)) (.cons (.loc 0) (.cons (.loc 5) .nil)))))) (.range (.c (.int 1)) (.bin .add (.loc 3) (.c (.int 1)))))) (.cons (.asg 8 (.call 728 (.cons (.loc 2) (.cons (.loc 5) (.cons (.loc 4) (.cons (.c (.int 0)) .nil)))))) (.cons (.asg 9 (.call 740 (.cons (.loc 8) (.cons (.loc 3) (.cons (.loc 6) .nil))))) (.cons (.ite (.cmp .ne (.comp (.tup (.cons (.idx (.loc 0) (.c (.int 0))) (.cons (.idx (.loc 0) (.c (.int 1))) .nil))) (.over (.loc 9))) (.comp (.tup (.cons (.bin .add (.loc 0) (.c (.int 1))) (.cons (.idx (.loc 8) (.loc 0)) .nil))) (.range (.c (.int 0)) (.loc 3)))) (.cons (.ret (.c (.bool false))) .nil) .nil) (.cons (.for_ 10 (.over (.loc 9)) ir_law_loop1) (.cons (.asg 11 (.bin .add (.c (.int 1)) (.call 697 (.cons (.loc 1) (.cons (.bin .add (.idx (.idx (.loc 9) (.neg (.c (.int 1)))) (.c (.int 3))) (.c (.int 1))) .nil))))) (.cons (.asg 8 (.call 728 (.cons (.loc 2) (.cons (.loc 5) (.cons (.loc 4) (.cons (.loc 11) .nil)))))) (.cons (.ite (.or (.cmp .ne (.call 740 (.cons (.loc 8) (.cons (.loc 3) (.cons (.loc 6) .nil)))) (.compIf (.loc 0) (.over (.loc 9)) (.cmp .le (.idx (.loc 0) (.c (.int 3))) (.loc 12)))) (.not (.call 735 (.cons (.loc 8) (.cons (.loc 2) .nil))))) (.cons (.ret (.c (.bool false))) .nil) .nil) (.cons (.asg 8 (.call 728 (.cons (.loc 2) (.cons (.loc 5) (.cons (.loc 4) (.cons (.c (.int 0)) .nil)))))) (.cons (.for_ 12 (.range (.c (.int 0)) (.c (.int 2))) ir_law_loop0) (.cons (.asg 11 (.bin .add (.c (.int 1)) (.call 697 (.cons (.loc 1) (.cons (.c (.int 20)) .nil))))) (.cons (.asg 8 (.call 728 (.cons (.loc 2) (.cons (.loc 5) (.cons (.loc 4) (.cons (.loc 11) .nil)))))) (.cons (.tryStop ir_law_try0 (some 16) ir_law_exc0) (.cons (.ret (.call 735 (.cons (.loc 8) (.cons (.loc 2) .nil)))) .nil))))))))))))))))))))
def fn_law:Fn:=⟨["script","deck","places","depth","calm","tools","delta","values","ctx","whole","told","most","turn","many","guess","width","fault"],1,ir_law⟩
def tabFn:Nat→Option Fn
 | 92=>some fn_mated_in
 | 99=>some fn_mate_in
 | 106=>some fn_to_table
 | 113=>some fn_from_table
 | 127=>some fn_SearchContext_init
 | 134=>some fn_SearchContext_tick
 | 148=>some fn_step_into
 | 155=>some fn_step_back
 | 162=>some fn_unwind
 | 169=>some fn_clear_line
 | 176=>some fn_set_line
 | 183=>some fn_line_from
 | 190=>some fn_pack_entry
 | 197=>some fn_unpack_entry
 | 204=>some fn_find_slot
 | 211=>some fn_worth
 | 218=>some fn_victim_slot
 | 225=>some fn_pushes_out
 | 232=>some fn_with_move
 | 246=>some fn_TransTable_init
 | 253=>some fn_TransTable_probe
 | 260=>some fn_TransTable_save
 | 267=>some fn_TransTable_new_search
 | 295=>some fn_cutoff
 | 302=>some fn_scale_down
 | 316=>some fn_History_init
 | 323=>some fn_History_get
 | 330=>some fn_History_update
 | 337=>some fn_History_bonus
 | 365=>some fn_Killers_init
 | 372=>some fn_Killers_add
 | 379=>some fn_Killers_pair
 | 386=>some fn_Killers_clear
 | 400=>some fn_reward
 | 407=>some fn_killer_pair
 | 414=>some fn_past_score
 | 428=>some fn_Picker_init
 | 435=>some fn_Picker_next
 | 440=>some fn_Picker_fill
 | 447=>some fn_Picker_fill_table
 | 454=>some fn_Picker_fill_good
 | 461=>some fn_Picker_fill_killers
 | 475=>some fn_take_best
 | 482=>some fn_quiesce
 | 489=>some fn_quiesce_moves
 | 496=>some fn_search
 | 503=>some fn_search_moves
 | 510=>some fn_search_child
 | 517=>some fn_look_up
 | 524=>some fn_keep_value
 | 531=>some fn_root_value
 | 545=>some fn_Report_init
 | 559=>some fn_lower_edge
 | 566=>some fn_upper_edge
 | 573=>some fn_aspirate
 | 580=>some fn_deepest
 | 587=>some fn_iterate
 | 594=>some fn_mtdf
 | 608=>some fn_TreeGame_init
 | 615=>some fn_TreeGame_moves
 | 620=>some fn_TreeGame_noisy
 | 627=>some fn_TreeGame_make
 | 634=>some fn_TreeGame_undo
 | 641=>some fn_TreeGame_value
 | 648=>some fn_TreeGame_key
 | 655=>some fn_TreeGame_in_check
 | 662=>some fn_TreeGame_is_draw
 | 669=>some fn_TreeGame_is_noisy
 | 676=>some fn_TreeGame_gain
 | 683=>some fn_TreeGame_side
 | 697=>some fn_law_card
 | 702=>some fn_law_deal
 | 709=>some fn_law_full
 | 716=>some fn_law_leads
 | 721=>some fn_law_game
 | 728=>some fn_law_context
 | 735=>some fn_law_at_root
 | 740=>some fn_law_reports
 | 747=>some fn_law_guess
 | 752=>some fn_law
 | _=>none
def tabIni:Nat→Option Nat
 | 137=>some 127
 | 284=>some 246
 | 347=>some 316
 | 389=>some 365
 | 464=>some 428
 | 548=>some 545
 | 686=>some 608
 | _=>none
def tabMth:Nat→String→Option Nat
 | 137,n=>if n = "tick" then some 134 else none
 | 284,n=>if n = "probe" then some 253 else if n = "save" then some 260 else if n = "new_search" then some 267 else none
 | 347,n=>if n = "get" then some 323 else if n = "update" then some 330 else if n = "bonus" then some 337 else none
 | 389,n=>if n = "add" then some 372 else if n = "pair" then some 379 else if n = "clear" then some 386 else none
 | 464,n=>if n = "next" then some 435 else if n = "fill" then some 440 else if n = "fill_table" then some 447 else if n = "fill_good" then some 454 else if n = "fill_killers" then some 461 else none
 | 548,n=> none
 | 686,n=>if n = "moves" then some 615 else if n = "noisy" then some 620 else if n = "make" then some 627 else if n = "undo" then some 634 else if n = "value" then some 641 else if n = "key" then some 648 else if n = "in_check" then some 655 else if n = "is_draw" then some 662 else if n = "is_noisy" then some 669 else if n = "gain" then some 676 else if n = "side" then some 683 else none
 | _,_=>none
def tabAtt:Nat→String→Bool
 | 137,n=>decide (n = "game")||decide (n = "table")||decide (n = "killers")||decide (n = "history")||decide (n = "qdepth")||decide (n = "is_exact")||decide (n = "max_nodes")||decide (n = "nodes")||decide (n = "made")||decide (n = "lines")
 | 284,n=>decide (n = "clusters")||decide (n = "ways")||decide (n = "age")||decide (n = "slots")
 | 347,n=>decide (n = "limit")||decide (n = "scores")
 | 389,n=>decide (n = "plies")||decide (n = "first")||decide (n = "second")
 | 464,n=>decide (n = "game")||decide (n = "left")||decide (n = "table_move")||decide (n = "killers")||decide (n = "history")||decide (n = "ply")||decide (n = "stage")||decide (n = "ready")||decide (n = "losing")
 | 548,n=>decide (n = "depth")||decide (n = "value")||decide (n = "line")||decide (n = "nodes")
 | 686,n=>decide (n = "children")||decide (n = "values")||decide (n = "checks")||decide (n = "draws")||decide (n = "noisy_rows")||decide (n = "gain_rows")||decide (n = "path")
 | _,_=>false
def tT:Tab:=⟨tabAtt,tabMth,tabIni,tabFn⟩
end Bm
namespace Bm
open PySem PySem.W PyProof.Rows PySem.SeqAt PySem.MeetsSeq Builtin Builtin.ObjectAttr
section
variable {prog:Program} {w:World} {A:Around} {E:Value→Shared→Prop} {s:Shared} {K:Frag} {x:Addr} {ox:Obj} {od:Option Obj} {name:Str} {expr:Bool} {Q:Value→Shared→Prop}
 {nm q:Str} {C N:Addr} {bs bm:List Value} {hdct:Bool} {sn:List Str} {sub:List Value} {ab:Bool} {col:Option Bool} {dd:Option Addr} {k0 k1 k2 k3 k5:Option Value} {newId:String}
theorem notCls_fields {o:Obj} {vs:Array Value} (h:o.data=.fields vs):notCls o=true:=by
 obtain⟨c,d,dt,sl⟩:=o;subst h;rfl
theorem exc_check_ga {M:Model} {a:Addr} {o:Obj} {nameV:Value} {Q:Unit→Shared→Prop} {h:Heap} {g:Array GenState} {d:Drawn} {t:Nat} {os:OsState} (hC:h.get? C=some (excClassObj nm q C N bs bm hdct sn sub ab col dd k0 k1 k2 k3 k5 newId)) (hb:bm.contains (.type "BaseException")=true)
  (hx:h.get? a=some o) (hc:o.cls=.ref C) (hq:Q () ⟨h,g,d,t,os⟩):wpAny M A (checkBuiltinCall "BaseException.__getattribute__" ⟨[.ref a,nameV],[]⟩) Q E ⟨h,g,d,t,os⟩:=by
 have hk:builtinKind "BaseException.__getattribute__" = some .slot:=by decide +kernel
 have hsplit:splitId "BaseException.__getattribute__" = some ("BaseException","__getattribute__"):=by decide +kernel
 have hcB:(Value.ref C::bm).contains (.type "BaseException")=true:=by rw [List.contains_cons,hb,Bool.or_true]
 have ha:=F.args_bexc_ga (.ref a) nameV
 simp only [checkBuiltinCall,hk,hsplit]
 refine wpAny_bind ?_
 ·unfold isInstance
  repeat (first | (with_reducible refine wpAny_loadPart_at hx ?_;rw [hc]) | (with_reducible refine wpAny_isSubtype_exc hC ?_;rw [hcB]) | wp_step)
  exact hq
theorem exc_get {v:Value} (X:K.In s.heap) (I:InstAt s.heap x ox C od) (hga:findIn K (.ref C) "__getattribute__" = some (some (.builtin "BaseException.__getattribute__"))) (hge:findIn K (.ref C) "__getattr__" = some none)
  (hC:s.heap.get? C=some (excClassObj nm q C N bs bm hdct sn sub ab col dd k0 k1 k2 k3 k5 newId)) (hb:bm.contains (.type "BaseException")=true)
  (hf:findObj K C od name=some (.value v)) (hh:handedIn v=true) (h:Q v { s with toks:=s.toks+1 }):wpAny (model prog w) A (getAttr (.ref x) name expr) Q E s:=by
 obtain⟨hp,g,d,t,os⟩:=s
 have L0:=I.type (M:=model prog w)
 have L1:=looks_findIn (M:=model prog w) X hga
 have L2:=looks_findIn (M:=model prog w) X hge
 have L3:=looks_find (M:=model prog w) X I hf
 have hx0:(expr&&onTheHeap (Value.builtin "BaseException.__getattribute__"))=false:=by cases expr <;> rfl
 have hx2:(Value.builtin "BaseException.__getattribute__" == Value.builtin "object.__getattribute__")=false:=by decide +kernel
 have hx1:(onTheHeap (Value.ref C)&&Value.builtin "BaseException.__getattribute__" == Value.builtin "object.__getattribute__")=false:=by rw [hx2];rfl
 have f3:=F.attr_Exception.ga.bind (.ref x)
 unfold getAttr getAttrBy
 refine wpAny_bind (wpAny_mkText (wpAny_holding (wpAny_bind (L0.at (wpAny_bind (L1.at ?_))))))
 dsimp only
 rw [hx1,if_neg Bool.false_ne_true]
 unfold getAttrByItsOwn hookBefore
 rw [if_pos (show onTheHeap (Value.ref C)=true from rfl)]
 refine wpAny_bind (L2.at ?_)
 refine wpAny_bind (wpAny_attempt (wpAny_holding ?_))
 unfold callGetattribute
 rw [hx0,if_neg Bool.false_ne_true]
 unfold boundAndCalled
 refine wpAny_bind (wpAny_of_eq f3 ?_)
 refine wpAny_call (codeAny_call_builtin F.attr_Exception.ga.plain F.entry_bexc_ga (exc_check_ga hC hb I.at_ I.cls ?_))
 show wpAny _ _ (Builtin.«object.__getattribute__» ⟨[.ref x,.str name t],[]⟩) _ _ _
 unfold Builtin.«object.__getattribute__»
 refine wpAny_bind (wpAny_pure (wpAny_bind (wpAny_pure (wpAny_bind (L0.at (wpAny_bind (L3.at ?_)))))))
 refine wpAny_pure ?_
 show wpAny _ _ (handedOut v) _ _ _
 rw [handedOut_of hh];exact wpAny_pure h
theorem exc_osa {C2:Addr} {cd:ClassData} {tk:Tok} {v:Value} {R:Result→Shared→Prop} (X:K.In s.heap) (I:InstAt s.heap x ox C od) (hc:clsIn K C=some cd) (hm:cd.mro=[.ref C,.ref C2,.type "Exception",.type "BaseException",.type "object"]) (ha:findIn K (.ref C) name=some none)
  (h:wpAny (model prog w) A.in1 (storeInOwnDict (.ref x) (.ref C) (.str name tk) name v false)
   (fun fin s'=>match fin with | .done f=>R (.ok f) s' | .again c'=>c'.quiet=true∧codeAny (model prog w) A c' R s') (fun e s'=>R (.error e) s') s) :
  codeAny (model prog w) A (.call (.builtin "object.__setattr__") ⟨[.ref x,.str name tk,v],[]⟩) R s:=by
 have SF:=PySem.F.store_object
 have ne:cd.mro.isEmpty=false:=by rw [hm];rfl
 have hcon:cd.mro.contains (.type "object")=true:=by rw [hm];simp
 have sub:Looks (model prog w) s.heap (isInstance (.ref x) (.type "object")) true:=I.type.andThen (looks_mroIn X (by unfold mroIn;rw [hc,Option.bind_some,if_neg (by rw [ne];decide),hcon]))
 refine codeAny_call_builtin SF.slot.plain SF.entry (@check_slot (model prog w) _ _ s "object.__setattr__" "object" "__setattr__" (.ref x) [.str name tk,v] [] _ SF.kind SF.split sub (SF.args (.ref x) (.str name tk) v) ?_)
 have hmro:Looks (model prog w) s.heap (mroOf (.ref C)) cd.mro:=(looks_clsIn X hc).andThen .now
 have L3:Looks (model prog w) s.heap (storeTaker? none) none:=.now
 rw [osa_eq,refuse_eq]
 refine wpAny_bind (wpAny_bind (I.type.here (wpAny_bind (hmro.here ?_))))
 rw [hm,refuseLoop_ref,refuseLoop_ref,PySem.F.store_Exception.passes]
 refine wpAny_pure (wpAny_bind (I.type.here (wpAny_bind ((looks_findIn X ha).here (wpAny_bind (L3.here ?_))))))
 exact h
theorem exc_set0 {C2:Addr} {cd:ClassData} {v:Value} {Q:Unit→Shared→Prop} (X:K.In s.heap) (ho:s.heap.get? x=some ox) (hcl:ox.cls=.ref C) (hdn:ox.dict=none) {fs:Array Value} (hdata:ox.data=.fields fs)
  (hc:clsIn K C=some cd) (hm:cd.mro=[.ref C,.ref C2,.type "Exception",.type "BaseException",.type "object"]) (hhd:cd.hasDict=true) (hsa:findIn K (.ref C) "__setattr__" = some (some (.builtin "object.__setattr__"))) (ha:findIn K (.ref C) name=some none)
  (h:∀ h' tk,h'.get? x=some { ox with dict:=some s.heap.objs.size }→h'.Ns1 s.heap.objs.size (fun y=>if y=name then some v else none)→(∀ b o,b≠x→s.heap.get? b=some o→h'.get? b=some o)→Q () { s with heap:=h',toks:=tk }) :
  wpAny (model prog w) A (setAttr (.ref x) name v) Q E s:=by
 obtain⟨oc,odi,oda,osl⟩:=ox
 dsimp only at hcl hdn hdata
 subst hcl hdn hdata
 have I:InstAt s.heap x ⟨.ref C,none,.fields fs,osl⟩ C none:=⟨ho,rfl,rfl,trivial⟩
 refine set_plain X I hsa (exc_osa (s:={ s with toks:=s.toks+1 }) X I hc hm ha ?_)
 refine wpAny_bind (wpAny_pure (wpAny_bind (wpAny_bind (wpAny_loadPart (s:={ s with toks:=s.toks+1 }) ho ?_))))
 dsimp only
 obtain⟨hp,g,d,t,os⟩:=s
 dsimp only at ho h ⊢
 refine wpAny_bind ((looks_clsIn X hc).at ?_)
 rw [hhd]
 rw [if_neg (by decide),if_neg (by simp [typeHasDict])]
 have hx₁:(hp.push { cls:=.type "dict",data:=.dict #[] }).get? x=some ⟨.ref C,none,.fields fs,osl⟩:=Heap.get?_push_of_some _ ho
 have hxs:x≠hp.objs.size:=Nat.ne_of_lt (Heap.lt_size ho)
 refine wpAny_bind (wpAny_alloc ?_)
 refine wpAny_bind (wpAny_update' hx₁ ?_)
 refine wpAny_pure ?_
 have hgd:((hp.push { cls:=.type "dict",data:=.dict #[] }).update x fun o=>{ cls:=o.cls,dict:=some hp.objs.size,data:=o.data,slots:=o.slots }).get? hp.objs.size
   = some { cls:=.type "dict",data:=.dict #[] } :=
  (Heap.get?_update_ne _ _ _ _ hxs.symm).trans (Heap.get?_push_at rfl rfl)
 have hnd:((hp.push { cls:=.type "dict",data:=.dict #[] }).update x fun o=>{ cls:=o.cls,dict:=some hp.objs.size,data:=o.data,slots:=o.slots }).Ns hp.objs.size (fun _=>none) :=
  ⟨_,#[],_,hgd,rfl,fun e he=>absurd he (by simp),fun _=>rfl⟩
 show wpAny _ _ (storeInDict hp.objs.size (.str name _) name v) _ _ _
 unfold storeInDict newKeyGuard
 refine wpAny_bind (wpAny_pure (wpAny_bind (wpAny_nsSet1 (Heap.Ns1.of_empty hnd) fun h' hn' hs=>?_)))
 obtain⟨oD,esD,epD,hoD,hdD,hcD⟩:=hn'.count (Within.cons name v Within.nil)
 refine wpAny_bind (wpAny_lookBehind hoD (by rw [hdD];exact pastItsLine_dict (Nat.le_trans hcD (by rw [List.length_cons,List.length_nil,sizeLine_eq];omega))) ?_)
 refine wpAny_pure (h h' _ ((hs.2 x hxs).trans (Heap.get?_update_self _ hx₁ rfl)) hn' fun b o hb e=>?_)
 exact(hs.2 b (Nat.ne_of_lt (Heap.lt_size e))).trans ((Heap.get?_update_ne _ _ _ _ hb).trans (Heap.get?_push_of_some _ e))
theorem exc_set1 {C2 dx:Addr} {cd:ClassData} {v:Value} {mA:Str→Option Value} {ns:List Str} {Q:Unit→Shared→Prop} (X:K.In s.heap) (ho:s.heap.get? x=some ox) (hcl:ox.cls=.ref C) (hdn:ox.dict=some dx) {fs:Array Value} (hdata:ox.data=.fields fs) (hns:s.heap.Ns1 dx mA) (hw:Within mA ns) (hsz:ns.length≤100)
  (hc:clsIn K C=some cd) (hm:cd.mro=[.ref C,.ref C2,.type "Exception",.type "BaseException",.type "object"]) (hhd:cd.hasDict=true) (hsa:findIn K (.ref C) "__setattr__" = some (some (.builtin "object.__setattr__"))) (ha:findIn K (.ref C) name=some none)
  (h:∀ h' tk,h'.Ns1 dx (fun y=>if y=name then some v else mA y)→Heap.SameBut dx s.heap h'→Q () { s with heap:=h',toks:=tk }) :
  wpAny (model prog w) A (setAttr (.ref x) name v) Q E s:=by
 obtain⟨oc,odi,oda,osl⟩:=ox
 dsimp only at hcl hdn hdata
 subst hcl hdn hdata
 obtain⟨oD0,_,_,hoD0,_⟩:=id hns
 have I:InstAt s.heap x ⟨.ref C,some dx,.fields fs,osl⟩ C (some oD0):=⟨ho,rfl,rfl,hoD0⟩
 refine set_plain X I hsa (exc_osa (s:={ s with toks:=s.toks+1 }) X I hc hm ha ?_)
 refine wpAny_bind (wpAny_pure (wpAny_bind (wpAny_bind (wpAny_loadPart (s:={ s with toks:=s.toks+1 }) ho ?_))))
 dsimp only
 obtain⟨hp,g,d,t,os⟩:=s
 dsimp only at ho h hns ⊢
 refine wpAny_bind ((looks_clsIn X hc).at ?_)
 rw [hhd]
 rw [if_neg (by decide)]
 refine wpAny_pure ?_
 show wpAny _ _ (storeInDict dx (.str name _) name v) _ _ _
 unfold storeInDict newKeyGuard
 refine wpAny_bind (wpAny_pure (wpAny_bind (wpAny_nsSet1 hns fun h' hn' hs=>?_)))
 obtain⟨oD,esD,epD,hoD,hdD,hcD⟩:=hn'.count (Within.cons name v hw)
 refine wpAny_bind (wpAny_lookBehind hoD (by rw [hdD];exact pastItsLine_dict (Nat.le_trans hcD (by rw [List.length_cons,sizeLine_eq];omega))) ?_)
 exact wpAny_pure (h h' _ hn' hs)
end
def excObj (ta:Nat) (dx:Option Nat):Obj:={ cls:=.ref 71,dict:=dx,data:=.fields #[.ref ta,.none,.none,.none,.bool false,.none] }
def bmE:List Value:=[.type "Exception",.type "BaseException",.type "object"]
section
variable {K:Frag}
structure ExcCls (K:Frag):Prop where
 c71:∃ N nm q bs sn sub ab col dd k0 k1 k2 k3 k5,K.lookup 71=some (excClassObj nm q 71 N bs (.ref 38::bmE) true sn sub ab col dd k0 k1 k2 k3 k5 "Exception.__new__")
 i71:findIn K (.ref 71) "__init__" = some (some (.ref 68))
 t68:typeIn K (.ref 68)=some (.type "function")
 g38:specialIn K (.ref 38) "__getattribute__" = some (some (.builtin "type.__getattribute__"))
 r38:readsIn K 38 (.type "type")=true
 f38:findCls K (.ref 38) (.type "type") "__init__" = some (.val (.ref 35))
 fE:findCls K (.type "Exception") (.type "type") "__init__" = some (.val (.builtin "Exception.__init__"))
 k35:keepIn K (.ref 35)=true
 sa:findIn K (.ref 71) "__setattr__" = some (some (.builtin "object.__setattr__"))
 aText:findIn K (.ref 71) "text" = some none
 aNodes:findIn K (.ref 71) "nodes" = some none
theorem ExcCls.cd (C:ExcCls K):∃ cd,clsIn K 71=some cd∧cd.mro=[.ref 71,.ref 38,.type "Exception",.type "BaseException",.type "object"]∧cd.hasDict=true:=by
 obtain⟨N,nm,q,bs,sn,sub,ab,col,dd,k0,k1,k2,k3,k5,h⟩:=C.c71
 unfold clsIn
 rw [h]
 exact⟨_,rfl,rfl,rfl⟩
def plainP (p:Arguments):Bool:=p.posonlyargs.isEmpty&&p.vararg.isNone&&p.kwonlyargs.isEmpty&&p.kwarg.isNone
structure RawFn (K:Frag) (f:Nat) (ps:List Str) (scope:Scope) (body:List Stmt):Prop where
 at_:∃ fd c d sl,K.lookup f=some ⟨c,d,.func fd,sl⟩∧fd.body=.stmts body∧fd.scope=scope∧fd.closure=[]∧fd.globals=mainGlobals∧fd.builtins=builtinsNs∧fd.params.args.map (·.arg)=ps∧plainP fd.params=true∧codeIn K fd.code fd.qualname=true ∧
  (fd.defaults=.none∨∃ D,fd.defaults=.ref D∧∃ c d xs n sl,K.lookup D=some ⟨c,d,.seq xs n,sl⟩)
 nd:ps.Nodup
 loc:∀ x∈ps,scope.names.lookup x=some .local
 noCell:∀ x∈scope.names,x.2≠.cell
 kind:scope.kind=.function
 gen:scope.isGenerator=false
 cor:scope.isCoroutine=false
def makerBody (B attr val:Str) (arg:Expr→Bool) (body:List Stmt):Bool:=match body with
 | [.Expr (.Call (.Attribute (.Name b _) i ap) [.Name a _,e] [] cp) _,.Assign [.Attribute (.Name a2 _) at_ _] (.Name v _) _] =>
  decide (b=B)&&decide (i = "__init__")&&decide (a = "self")&&decide (a2 = "self")&&decide (at_=attr)&&decide (v=val)&&decide (ap.endLine=cp.line)&&arg e
 | _=>false
theorem maker_of {B attr val:Str} {arg:Expr→Bool} {body:List Stmt} (h:makerBody B attr val arg body=true):∃ p1 ap p2 e cp p3 p4 p5 p6 p7,ap.endLine=cp.line∧arg e=true ∧
  body=[.Expr (.Call (.Attribute (.Name B p1) "__init__" ap) [.Name "self" p2,e] [] cp) p3,.Assign [.Attribute (.Name "self" p4) attr p5] (.Name val p6) p7]:=by
 unfold makerBody at h
 split at h
 ·simp only [Bool.and_eq_true,decide_eq_true_eq] at h
  obtain⟨⟨⟨⟨⟨⟨⟨rfl,rfl⟩,rfl⟩,rfl⟩,rfl⟩,rfl⟩,h7⟩,h8⟩:=h
  exact⟨_,_,_,_,_,_,_,_,_,_,h7,h8,rfl⟩
 ·cases h
def isTheName (x:Str):Expr→Bool
 | .Name y _=>decide (y=x)
 | _=>false
def isStrC:Expr→Bool
 | .Constant (.str _) _ _=>true
 | _=>false
structure StopOk (K:Frag):Prop where
 cls:ExcCls K
 r35:∃ scope body,RawFn K 35 ["self","text"] scope body∧makerBody "Exception" "text" "text" (isTheName "text") body=true∧scope.names.lookup ("Exception" : Str)=some .globalImplicit
 r68:∃ scope body,RawFn K 68 ["self","nodes"] scope body∧makerBody "ChessError" "nodes" "nodes" isStrC body=true∧scope.names.lookup ("ChessError" : Str)=some .globalImplicit
 ga:findIn K (.ref 71) "__getattribute__" = some (some (.builtin "BaseException.__getattribute__"))
 ge:findIn K (.ref 71) "__getattr__" = some none
 hd:hasDictIn K 71=true
end
end Bm
namespace Bm
open PySem PySem.W PyProof.Rows
inductive VR:Value→AV→Prop
 | undef (v:Value):VR v .undef
 | none:VR .none .none
 | bool (b:Bool):VR (.bool b) (.bool b)
 | int (i:Int) (t:Tok):VR (.int i t) (.int i)
 | ref (a:Nat):VR (.ref a) (.ref a)
inductive L2 {α β:Type} (R:α→β→Prop):List α→List β→Prop
 | nil:L2 R [] []
 | cons {a b l m}:R a b→L2 R l m→L2 R (a::l) (b::m)
theorem L2.length {α β:Type} {R:α→β→Prop} {l:List α} {m:List β} (h:L2 R l m):l.length=m.length:=by
 induction h with
 | nil=>rfl
 | cons _ _ ih=>simp [ih]
theorem L2.append {α β:Type} {R:α→β→Prop} {l l':List α} {m m':List β} (h:L2 R l m) (h':L2 R l' m'):L2 R (l++l') (m++m'):=by
 induction h with
 | nil=>exact h'
 | cons r _ ih=>exact .cons r ih
theorem L2.mono {α β:Type} {R R':α→β→Prop} (k:∀ a b,R a b→R' a b) {l:List α} {m:List β} (h:L2 R l m):L2 R' l m:=by
 induction h with
 | nil=>exact .nil
 | cons r _ ih=>exact .cons (k _ _ r) ih
inductive Kd where
 | free | base | obj | dic (a:Nat) | var | prot | exc
structure Cx where
 prog:Program
 w:World
 base:Heap
 gens:Array GenState
 drawn:Drawn
 os:OsState
abbrev listObj (arr:Array Value) (n:Nat):Obj:={ cls:=.type "list",dict:=none,data:=.seq arr n,slots:=#[] }
abbrev tupObj (arr:Array Value) (n:Nat):Obj:={ cls:=.type "tuple",dict:=none,data:=.seq arr n,slots:=#[] }
def KS (kv:Str×Value) (f:String×AV):Prop:=kv.1=Str.ofString f.1∧VR kv.2 f.2
def KI (kv:Int×Value) (f:Int×AV):Prop:=kv.1=f.1∧VR kv.2 f.2
def FR (e:DictEntry) (f:String×AV):Prop:=(∃ tk,e.key=.str (Str.ofString f.1) tk)∧VR e.val f.2
def kd:AO→Kd
 | .ro _=>.base
 | _=>.obj
theorem kd_ne {ao:AO} {x:Kd} (h1:x≠.obj) (h2:x≠.base):kd ao≠x:=by
 cases ao <;> first | exact fun e=>h1 e.symm | exact fun e=>h2 e.symm
def Ob (c:Cx) (G:Nat→Kd) (h:Heap) (a:Nat):AO→Prop
 | .list xs=>∃ arr n,h.get? a=some (listObj arr n)∧L2 VR arr.toList xs∧arr.size≤lim
 | .ro xs=>∃ arr,(∃ o,h.get? a=some o∧o.cls=.type "list"∧∃ n,o.data=.seq arr n)∧L2 VR arr.toList xs∧arr.size≤lim
 | .tup xs=>∃ arr n,h.get? a=some (tupObj arr n)∧L2 VR arr.toList xs∧arr.size≤lim
 | .obj C fs=>∃ dx es n,h.get? a=some (instObj C dx)∧G dx=.dic a∧h.get? dx=some (dictOf es n)∧L2 FR es fs
 | .deck fs=>∃ kvs,Heap.DictOf (strKind c.prog c.w) h a kvs∧L2 KS kvs fs∧kvs.length≤lim∧(a == sysModules)=false
 | .idict d=>∃ kvs,Heap.DictOf (intKind c.prog c.w) h a kvs∧L2 KI kvs d∧kvs.length≤lim∧(a == sysModules)=false
 | .exc v=>∃ o dx m,h.get? a=some o∧o.cls=.ref 71∧o.dict=some dx∧notCls o=true∧G dx=.dic a∧h.Ns dx m∧isInt v=true∧∃ x,m (Str.ofString "nodes")=some x∧VR x v
def PR (fr:List Env) (h:Heap) (p:Addr×Obj):Prop:=h.get? p.1=some p.2∨(((∃ e∈fr,e.frame=some p.1)∧∃ es n,p.2.data=.dict es n)∧∃ sl,h.get? p.1=some { p.2 with slots:=sl })
structure StC (c:Cx) (G:Nat→Kd) (fr:List Env) (P:List (Addr×Obj)) (H:AHeap) (s:Shared):Prop where
 keep:∀ b o,c.base.get? b=some o→G b=.base∧s.heap.get? b=some o
 ex:∀ a,G a≠.free→∃ o,s.heap.get? a=some o
 hv:∀ a ao,H a=some ao→G a=kd ao∧Ob c G s.heap a ao
 pv:∀ p∈P,G p.1=.prot∧PR fr s.heap p
 frs:∀ e∈fr,e.scope.kind≠.module∧∃ L o,e.frame=some L∧(G L=.prot∨G L=.var)∧s.heap.get? L=some o∧∃ es n,o.data=.dict es n
 gens:s.gens=c.gens
 drawn:s.drawn=c.drawn
 os:s.os=c.os
theorem Ob.keep {c:Cx} {G G':Nat→Kd} {h h':Heap} {a:Nat} {ao:AO} (x:Ob c G h a ao)
  (k:∀ b o,(b=a∨G b=.dic a)→h.get? b=some o→h'.get? b=some o) (kg:∀ b,G b=.dic a→G' b=.dic a):Ob c G' h' a ao:=by
 cases ao with
 | list xs=>obtain⟨arr,n,h1,h2⟩:=x;exact⟨arr,n,k _ _ (.inl rfl) h1,h2⟩
 | ro xs=>obtain⟨arr,⟨o,h1,h3⟩,h2⟩:=x;exact⟨arr,⟨o,k _ _ (.inl rfl) h1,h3⟩,h2⟩
 | tup xs=>obtain⟨arr,n,h1,h2⟩:=x;exact⟨arr,n,k _ _ (.inl rfl) h1,h2⟩
 | obj C fs=>obtain⟨dx,es,n,h1,h2,h3,h4⟩:=x;exact⟨dx,es,n,k _ _ (.inl rfl) h1,kg _ h2,k _ _ (.inr h2) h3,h4⟩
 | deck fs=>obtain⟨kvs,⟨o,es,ep,h1,r⟩,h2⟩:=x;exact⟨kvs,⟨o,es,ep,k _ _ (.inl rfl) h1,r⟩,h2⟩
 | idict d=>obtain⟨kvs,⟨o,es,ep,h1,r⟩,h2⟩:=x;exact⟨kvs,⟨o,es,ep,k _ _ (.inl rfl) h1,r⟩,h2⟩
 | exc v=>obtain⟨o,dx,m,h1,h2,h3,h4,h5,⟨o',es,ep,h6,r⟩,h7⟩:=x;exact⟨o,dx,m,k _ _ (.inl rfl) h1,h2,h3,h4,kg _ h5,⟨o',es,ep,k _ _ (.inr h5) h6,r⟩,h7⟩
theorem PR.keep {fr:List Env} {h h':Heap} {p:Addr×Obj} (x:PR fr h p) (k:∀ o,h.get? p.1=some o→h'.get? p.1=some o):PR fr h' p:=by
 rcases x with x | ⟨d,sl,x⟩
 ·exact .inl (k _ x)
 ·exact .inr ⟨d,sl,k _ x⟩
section
variable {c:Cx} {G:Nat→Kd} {fr:List Env} {P:List (Addr×Obj)} {H:AHeap} {s:Shared}
theorem StC.lt (S:StC c G fr P H s):∀ a,G a≠.free→a < s.heap.objs.size:=fun a h=>let ⟨_,e⟩:=S.ex a h;Heap.lt_size e
theorem StC.freeAt (S:StC c G fr P H s):G s.heap.objs.size=.free:=by
 cases h:G s.heap.objs.size with
 | free=>rfl
 | _=>exact absurd (S.lt _ (by rw [h];exact fun e=>nomatch e)) (Nat.lt_irrefl _)
theorem StC.hnone (S:StC c G fr P H s):H s.heap.objs.size=none:=by
 cases h:H s.heap.objs.size with
 | none=>rfl
 | some ao=>have:=(S.hv _ _ h).1;rw [S.freeAt] at this;exact absurd this.symm (kd_ne (fun q=>nomatch q) (fun q=>nomatch q))
def gset (G:Nat→Kd) (a:Nat) (k:Kd):Nat→Kd:=fun b=>if b=a then k else G b
theorem gset_ne {G:Nat→Kd} {a b:Nat} {k:Kd} (h:b≠a):gset G a k b=G b:=by simp [gset,h]
theorem gset_eq {G:Nat→Kd} {a:Nat} {k:Kd}:gset G a k a=k:=by simp [gset]
theorem StC.change (S:StC c G fr P H s) {h':Heap} {tk:Nat} {a:Nat} {H':AHeap} (hex:G a≠.free→∃ o,h'.get? a=some o) (hk:∀ b o,b≠a→s.heap.get? b=some o→h'.get? b=some o)
  (ga:G a=.obj∨(∃ x,G a=.dic x)∨G a=.free∨G a=.exc) (nf:∀ b ao,H' b=some ao→(H b=some ao∧b≠a∧G a≠.dic b)∨(G b=kd ao∧Ob c G h' b ao)):StC c G fr P H' { s with heap:=h',toks:=tk }:=by
 have ne:∀ b,(G b=.base∨G b=.prot∨G b=.var)→b≠a:=by
  rintro b hb rfl
  rcases ga with e | ⟨x,e⟩ | e | e <;> rw [e] at hb <;> rcases hb with q | q | q <;> cases q
 refine⟨fun b o e=>⟨(S.keep b o e).1,hk _ _ (ne b (.inl (S.keep b o e).1)) (S.keep b o e).2⟩,fun b hb=>if q:b=a then q ▸ hex (q ▸ hb) else let ⟨o,e⟩:=S.ex b hb;⟨o,hk b o q e⟩,fun b ao e=>?_,fun p hp=>?_,fun e he=>?_,S.gens,S.drawn,S.os⟩
 ·rcases nf b ao e with ⟨e1,e2,e3⟩ | h
  ·have:=S.hv b ao e1
   refine⟨this.1,this.2.keep (fun b' o hb' ho=>hk _ _ (fun q=>?_) ho) fun _ q=>q⟩
   subst q
   rcases hb' with q | q
   ·exact e2 q.symm
   ·exact e3 q
  ·exact h
 ·have:=S.pv p hp
  exact⟨this.1,this.2.keep fun o ho=>hk _ _ (ne _ (.inr (.inl this.1))) ho⟩
 ·obtain⟨h1,L,o,h2,h3,h4,h5⟩:=S.frs e he
  exact⟨h1,L,o,h2,h3,hk _ _ (ne L (by rcases h3 with q | q <;> simp [q])) h4,h5⟩
theorem StC.garbage (S:StC c G fr P H s) (o:Obj) (tk:Nat):StC c G fr P H { s with heap:=s.heap.push o,toks:=tk } :=
 S.change (a:=s.heap.objs.size) (fun q=>absurd S.freeAt q) (fun _ _ _ e=>Heap.get?_push_of_some _ e) (.inr (.inr (.inl S.freeAt)))
  fun b ao e=>.inl ⟨e,(fun q=>by subst q;rw [S.hnone] at e;cases e),(by rw [S.freeAt];exact fun q=>nomatch q)⟩
theorem StC.toks (S:StC c G fr P H s) (tk:Nat):StC c G fr P H { s with toks:=tk }:=⟨S.keep,S.ex,S.hv,S.pv,S.frs,S.gens,S.drawn,S.os⟩
theorem StC.grow (S:StC c G fr P H s) {h':Heap} {tk:Nat} (hk:∀ b o,s.heap.get? b=some o→h'.get? b=some o):StC c G fr P H { s with heap:=h',toks:=tk } :=
 S.change (a:=s.heap.objs.size) (fun q=>absurd S.freeAt q) (fun b o _ e=>hk b o e) (.inr (.inr (.inl S.freeAt)))
  fun b ao e=>.inl ⟨e,(fun q=>by subst q;rw [S.hnone] at e;cases e),(by rw [S.freeAt];exact fun q=>nomatch q)⟩
theorem StC.rekind (S:StC c G fr P H s) {G':Nat→Kd} (h1:∀ a,G a≠.free→G' a=G a) (h2:∀ a,G' a≠.free→∃ o,s.heap.get? a=some o):StC c G' fr P H s:=by
 have g:∀ a k,G a=k→k≠.free→G' a=k:=fun a k e n=>by rw [h1 a (by rw [e];exact n),e]
 refine⟨fun b o e=>⟨g _ _ (S.keep b o e).1 (fun q=>nomatch q),(S.keep b o e).2⟩,h2,fun b ao e=>?_,fun p hp=>⟨g _ _ (S.pv p hp).1 (fun q=>nomatch q),(S.pv p hp).2⟩,fun e he=>?_,S.gens,S.drawn,S.os⟩
 ·have:=S.hv b ao e
  exact⟨g _ _ this.1 (kd_ne (fun q=>nomatch q) (fun q=>nomatch q)),this.2.keep (fun _ _ _ e=>e) fun b e=>g _ _ e (fun q=>nomatch q)⟩
 ·obtain⟨h1,L,o,h2,h3,h4,h5⟩:=S.frs e he
  exact⟨h1,L,o,h2,h3.imp (fun e=>g _ _ e (fun q=>nomatch q)) (fun e=>g _ _ e (fun q=>nomatch q)),h4,h5⟩
theorem Ob.there {c:Cx} {G:Nat→Kd} {h:Heap} {a:Nat} {ao:AO} (x:Ob c G h a ao):∃ o,h.get? a=some o:=by
 cases ao with
 | list xs=>obtain⟨arr,n,h1,_⟩:=x;exact⟨_,h1⟩
 | ro xs=>obtain⟨arr,⟨o,h1,_⟩,_⟩:=x;exact⟨_,h1⟩
 | tup xs=>obtain⟨arr,n,h1,_⟩:=x;exact⟨_,h1⟩
 | obj C fs=>obtain⟨dx,es,n,h1,_⟩:=x;exact⟨_,h1⟩
 | deck fs=>obtain⟨kvs,⟨o,es,ep,h1,_⟩,_⟩:=x;exact⟨_,h1⟩
 | idict d=>obtain⟨kvs,⟨o,es,ep,h1,_⟩,_⟩:=x;exact⟨_,h1⟩
 | exc v=>obtain⟨o,dx,m,h1,_⟩:=x;exact⟨_,h1⟩
theorem StC.alloc (S:StC c G fr P H s) {o:Obj} {ao:AO} (tk:Nat) (ho:Ob c (gset G s.heap.objs.size .obj) (s.heap.push o) s.heap.objs.size ao) (hk:kd ao=.obj:=by rfl) :
  StC c (gset G s.heap.objs.size .obj) fr P (upd H s.heap.objs.size ao) { s with heap:=s.heap.push o,toks:=tk }:=by
 have S1:=(S.garbage o tk).rekind (G':=gset G s.heap.objs.size .obj) (fun a ha=>gset_ne fun q=>ha (by rw [q,S.freeAt])) (fun a ha=>by
  by_cases q:a=s.heap.objs.size
  ·rw [q];exact ho.there
  ·rw [gset_ne q] at ha;obtain⟨o',e⟩:=S.ex a ha;exact⟨o',Heap.get?_push_of_some _ e⟩)
 refine⟨S1.keep,S1.ex,fun a ao' e=>?_,S1.pv,S1.frs,S1.gens,S1.drawn,S1.os⟩
 unfold upd at e
 split at e
 ·rename_i q;subst q;cases e;exact⟨gset_eq.trans hk.symm,ho⟩
 ·exact S1.hv a ao' e
theorem StC.put (S:StC c G fr P H s) {h':Heap} {tk:Nat} {a:Nat} {ao:AO} (ga:G a=.obj) (hs:Heap.SameBut a s.heap h') (ho:Ob c G h' a ao) (hk:kd ao=.obj:=by rfl):StC c G fr P (upd H a ao) { s with heap:=h',toks:=tk }:=by
 refine S.change (a:=a) (fun _=>ho.there) (fun b o hb e=>(hs.2 b hb).trans e) (.inl ga) fun b ao' e=>?_
 unfold upd at e
 split at e
 ·rename_i q;subst q;cases e;exact .inr ⟨ga.trans hk.symm,ho⟩
 ·rename_i q;exact .inl ⟨e,q,by rw [ga];exact fun z=>nomatch z⟩
theorem StC.putD (S:StC c G fr P H s) {h':Heap} {tk:Nat} {a dx:Nat} {ao:AO} (hex:∃ o,h'.get? dx=some o) (hx:G dx=.dic a) (ga:G a=.obj) (hs:Heap.SameBut dx s.heap h') (ho:Ob c G h' a ao) (hk:kd ao=.obj:=by rfl):StC c G fr P (upd H a ao) { s with heap:=h',toks:=tk }:=by
 refine S.change (a:=dx) (fun _=>hex) (fun b o hb e=>(hs.2 b hb).trans e) (.inr (.inl ⟨a,hx⟩)) fun b ao' e=>?_
 unfold upd at e
 split at e
 ·rename_i q;subst q;cases e;exact .inr ⟨ga.trans hk.symm,ho⟩
 ·rename_i q
  refine .inl ⟨e,fun z=>?_,fun z=>?_⟩
  ·subst z;have:=(S.hv _ _ e).1;rw [hx] at this;exact absurd this.symm (kd_ne (fun q=>nomatch q) (fun q=>nomatch q))
  ·rw [hx] at z;cases z;exact q rfl
end
def Reads (G:Nat→Kd) (P:List (Addr×Obj)) (env:Env) (h:Heap) (x:Str) (v:Value):Prop :=
 (env.kindOf x=some .local∧∃ m,h.Ns env.locals m∧m x=some v) ∨
 (∃ ca,(env.kindOf x=some .cell∨env.kindOf x=some .free)∧env.cells.lookup x=some ca∧((G ca=.var∧h.IsCell ca (some v))∨∃ o,(ca,o)∈P∧o.data=.cell (some v)))
def Stores (G:Nat→Kd) (env:Env) (x:Str):Prop :=
 env.kindOf x=some .local∨(env.kindOf x=some .cell∧∃ ca,env.cells.lookup x=some ca∧G ca=.var)
structure Vr (G:Nat→Kd) (P:List (Addr×Obj)) (env:Env) (nm ws:List String) (ρ:List AV) (h:Heap):Prop where
 fn:env.scope.kind=.function
 gl:env.globals=mainGlobals
 bi:env.builtins=builtinsNs
 loc:G env.locals=.var
 ns:∃ m,h.Ns env.locals m
 reads:∀ x i,idx x nm=some i→okKind (env.kindOf x)=true→lget ρ i≠.undef→∃ v,Reads G P env h x v∧VR v (lget ρ i)
 stores:∀ x∈ws,Stores G env (Str.ofString x)
 cells:∀ x ca,env.cells.lookup x=some ca→G ca=.var→∃ v₀,h.IsCell ca v₀
 inj:∀ x y ca,env.cells.lookup x=some ca→env.cells.lookup y=some ca→x=y
 len:ρ.length=nm.length
 inP:∀ x ca,env.cells.lookup x=some ca→G ca=.var∨∃ o v,(ca,o)∈P∧o.data=.cell v
 has:∀ x,(env.kindOf x=some .cell∨env.kindOf x=some .free)→∃ ca,env.cells.lookup x=some ca
theorem Vr.step {G G':Nat→Kd} {P:List (Addr×Obj)} {env:Env} {nm ws:List String} {ρ:List AV} {h h':Heap} (V:Vr G P env nm ws ρ h) (g:∀ a,G a=.var→G' a=.var)
  (g':∀ x ca,env.cells.lookup x=some ca→G' ca=.var→G ca=.var) (k:∀ a o,G a=.var→h.get? a=some o→h'.get? a=some o):Vr G' P env nm ws ρ h':=by
 have ns':∀ m,h.Ns env.locals m→h'.Ns env.locals m:=fun m ⟨o,es,ep,ho,r⟩=>⟨o,es,ep,k _ _ V.loc ho,r⟩
 have cell':∀ ca v,G ca=.var→h.IsCell ca v→h'.IsCell ca v:=fun ca v q ⟨o,ho,hd⟩=>⟨o,k _ _ q ho,hd⟩
 refine⟨V.fn,V.gl,V.bi,g _ V.loc,V.ns.imp ns',fun x i e hk n=>?_,fun x hx=>?_,fun x ca e q=>?_,V.inj,V.len,fun x ca e=>(V.inP x ca e).imp (g _) id,V.has⟩
 ·obtain⟨v,hr,hv⟩:=V.reads x i e hk n
  refine⟨v,?_,hv⟩
  rcases hr with ⟨h1,m,h2,h3⟩ | ⟨ca,h1,h2,⟨h3,h4⟩ | h3⟩
  ·exact .inl ⟨h1,m,ns' m h2,h3⟩
  ·exact .inr ⟨ca,h1,h2,.inl ⟨g _ h3,cell' _ _ h3 h4⟩⟩
  ·exact .inr ⟨ca,h1,h2,.inr h3⟩
 ·rcases V.stores x hx with h1 | ⟨h1,ca,h2,h3⟩
  ·exact .inl h1
  ·exact .inr ⟨h1,ca,h2,g _ h3⟩
 ·obtain⟨v₀,hv⟩:=V.cells x ca e (g' x ca e q)
  exact⟨v₀,cell' _ _ (g' x ca e q) hv⟩
theorem Vr.heap {G:Nat→Kd} {P:List (Addr×Obj)} {env:Env} {nm ws:List String} {ρ:List AV} {h h':Heap} (V:Vr G P env nm ws ρ h) (k:∀ a o,G a=.var→h.get? a=some o→h'.get? a=some o):Vr G P env nm ws ρ h' :=
 V.step (fun _ e=>e) (fun _ _ _ e=>e) k
end Bm
namespace Bm
open PySem PySem.W PyProof.Rows
inductive TbM where
 | made | fly | held (L:Nat)
def Tb (G:Nat→Kd) (h:Heap) (ea:Nat) (vs:Array Value):TbM→Prop
 | .made=>vs[1]? = some .none
 | .fly=>∃ T oT ts,vs[1]? = some (.ref T)∧G T=.exc∧T≠ea∧h.get? T=some oT∧oT.data=.fields ts∧ts[3]? = some .none
 | .held L=>∃ T oT ts,vs[1]? = some (.ref T)∧G T=.exc∧T≠ea∧h.get? T=some oT∧oT.data=.fields ts∧ts[3]? = some (rawInt L)
def Fly (G:Nat→Kd) (h:Heap) (ea:Nat) (n:AV) (m:TbM):Prop :=
 G ea=.exc∧isInt n=true∧∃ oe vs dx m',h.get? ea=some oe∧oe.cls=.ref 71∧oe.dict=some dx∧oe.data=.fields vs∧1 < vs.size∧Tb G h ea vs m∧G dx=.dic ea∧h.Ns dx m' ∧
  ∃ x,m' (Str.ofString "nodes")=some x∧VR x n
def Room (A:Around) (d:Nat):Prop:=A.depth+3*d≤900∧A.units+20*d≤9000
def RP (c:Cx) (fr:List Env) (P:List (Addr×Obj)) (Q X:EQ) (r:Result) (s':Shared):Prop:=match r with
 | .ok (.ret v)=>∃ G av H',(∀ a,G a≠.var)∧VR v av∧StC c G fr P H' s'∧Q av H'
 | .ok _=>False
 | .error e=>∃ G ea n H',(∀ a,G a≠.var)∧e=.ref ea∧StC c G fr P H' s'∧Fly G s'.heap ea n .fly∧X n H'
def CallOk (c:Cx) (call:CallSem) (d:Nat) (hd:Bool):Prop:=∀ f args H Q X,call f args H Q X→∀ (A:Around) fr P G s vs,(∀ a,G a≠.var)→L2 VR vs args→StC c G fr P H s→Room A d→A.frames=some fr→(hd=false→A.handled=none) →
 codeAny (model c.prog c.w) A (.call (.ref f) ⟨vs,[]⟩) (RP c fr P Q X) s
structure Kx where
 c:Cx
 A:Around
 fr:List Env
 P:List (Addr×Obj)
 env:Env
 nm:List String
 ws:List String
 n:Nat
 hd:Bool
 call:CallSem
 T:Tab
namespace Kx
def St (k:Kx) (ρ:List AV) (H:AHeap) (s:Shared):Prop:=∃ G,StC k.c G k.fr k.P H s∧Vr G k.P k.env k.nm k.ws ρ s.heap
def RE (k:Kx) (ρ:List AV) (Q:EQ) (v:Value) (s':Shared):Prop:=∃ av H',VR v av∧k.St ρ H' s'∧Q av H'
def RB (k:Kx) (ρ:List AV) (Q:Bool→AHeap→Prop) (b:Bool) (s':Shared):Prop:=∃ H',k.St ρ H' s'∧Q b H'
def XE (k:Kx) (ρ:List AV) (X:EQ) (e:Value) (s':Shared):Prop:=∃ G ea n H' m,e=.ref ea∧StC k.c G k.fr k.P H' s'∧Vr G k.P k.env k.nm k.ws ρ s'.heap∧Fly G s'.heap ea n m∧(∀ L,m=.held L→k.env.frame=some L)∧X n H'
end Kx
def AttOk (K:Frag) (C:Nat) (n:String):Prop:=plainGet K C (Str.ofString n)=true∧hasDictIn K C=true∧findIn K (.ref C) (Str.ofString n)=some none ∧
 findIn K (.ref C) "__setattr__" = some (some (.builtin "object.__setattr__"))∧plainOver K C=true∧takerIn K C (Str.ofString n)=some none
def MthOk (K:Frag) (C:Nat) (n:String) (f:Nat):Prop:=keepIn K (.ref f)=true∧plainGet K C (Str.ofString n)=true∧findIn K (.ref C) (Str.ofString n)=some (some (.ref f))∧typeIn K (.ref f)=some (.type "function")
def IniOk (K:Frag) (C f:Nat):Prop:=keepIn K (.ref C)=true∧makesIn K C=true∧findIn K (.ref C) "__init__" = some (some (.ref f))∧typeIn K (.ref f)=some (.type "function")
structure Fa (c:Cx) (T:Tab) (K:Frag):Prop where
 inK:K.In c.base
 nolim:c.base.NoLimit
 glob:∃ mg,c.base.Ns mainGlobals mg∧(∀ x i,gint x gInts=some i→∃ t,mg x=some (.int i t))∧(∀ x a,gnat x gFns=some a→mg x=some (.ref a))∧(∀ x a,gnat x gCls=some a→mg x=some (.ref a)) ∧
  (∀ x∈(["len","max","min","abs","list","range"]:List Str),mg x=none)∧mg "Exception" = none∧mg "ChessError" = some (.ref 38)
 built:∃ mb,c.base.Ns builtinsNs mb∧mb "len" = some (.builtin "len")∧mb "max" = some (.builtin "max")∧mb "min" = some (.builtin "min")∧mb "abs" = some (.builtin "abs")∧mb "list" = some (.type "list")∧mb "range" = some (.type "range")∧mb "Exception" = some (.type "Exception")
 att:∀ C n,T.att C n=true→AttOk K C n
 mth:∀ C n f,T.mth C n=some f→MthOk K C n f
 ini:∀ C f,T.ini C=some f→IniOk K C f
 keepF:∀ x a,gnat x gFns=some a→keepIn K (.ref a)=true
 keepC:∀ x a,gnat x gCls=some a→keepIn K (.ref a)=true
 stop:StopOk K
section
variable {k:Kx} {ρ:List AV} {H:AHeap} {s:Shared} {Q X:EQ} {E:Value→Shared→Prop} {A:Around}
theorem Kx.St.toks (S:k.St ρ H s) (tk:Nat):k.St ρ H { s with toks:=tk }:=let ⟨G,a,b⟩:=S;⟨G,a.toks tk,b⟩
theorem re_mk {v:Value} {av:AV} (hv:VR v av) (S:k.St ρ H s) (h:Q av H):k.RE ρ Q v s:=⟨av,H,hv,S,h⟩
theorem re_int {i:Int} (tk:Nat) (S:k.St ρ H s) (h:Q (.int i) H):k.RE ρ Q (.int i s.toks) { s with toks:=tk }:=⟨_,H,.int _ _,S.toks _,h⟩
theorem p_int {i:Int} {a b:Nat} {pos:Pos} (S:k.St ρ H s) (h:Q (.int i) H):wpAny (model k.c.prog k.c.w) A (eval (.Constant (.int i) a pos) k.env) (k.RE ρ Q) E s :=
 wpAny_mkInt (re_int _ S h)
theorem p_none {a:Nat} {pos:Pos} (S:k.St ρ H s) (h:Q .none H):wpAny (model k.c.prog k.c.w) A (eval (.Constant .none a pos) k.env) (k.RE ρ Q) E s:=wpAny_pure (re_mk .none S h)
theorem p_bool {x:Bool} {a:Nat} {pos:Pos} (S:k.St ρ H s) (h:Q (.bool x) H):wpAny (model k.c.prog k.c.w) A (eval (.Constant (.bool x) a pos) k.env) (k.RE ρ Q) E s:=wpAny_pure (re_mk (.bool x) S h)
theorem p_loc {x:Str} {i:Nat} {pos:Pos} (hd:x≠"__debug__") (hc:x≠"__classdict__") (hi:idx x k.nm=some i) (hok:okKind (k.env.kindOf x)=true) (S:k.St ρ H s) (h:match lget ρ i with | .undef=>False | v=>Q v H) :
  wpAny (model k.c.prog k.c.w) A (eval (.Name x pos) k.env) (k.RE ρ Q) E s:=by
 obtain⟨G,S1,V⟩:=id S
 have hu:lget ρ i≠.undef:=fun e=>by rw [e] at h;exact h
 have hq:Q (lget ρ i) H:=by
  revert h
  cases lget ρ i with
  | undef=>exact fun h=>h.elim
  | _=>exact fun h=>h
 obtain⟨v,hr,hv⟩:=V.reads x i hi hok hu
 refine wpAny_Name ?_ (by simpa using hd)
 have hcell:∀ ca,((G ca=.var∧s.heap.IsCell ca (some v))∨∃ o,(ca,o)∈k.P∧o.data=.cell (some v))→s.heap.IsCell ca (some v):=fun ca q=>by
  rcases q with ⟨_,q⟩ | ⟨o,q1,q2⟩
  ·exact q
  ·rcases(S1.pv _ q1).2 with z | ⟨⟨_,es,n,z⟩,_⟩
   ·exact⟨o,z,q2⟩
   ·rw [q2] at z;cases z
 rcases hr with ⟨h1,m,h2,h3⟩ | ⟨ca,h1 | h1,h2,h3⟩
 ·exact wpAny_loadName_local V.fn h1 h2 h3 (re_mk hv S hq)
 ·exact wpAny_loadName_cell V.fn h1 h2 (hcell ca h3) (re_mk hv S hq)
 ·exact wpAny_loadName_free V.fn h1 h2 (hcell ca h3) (re_mk hv S hq) (by simpa using hc)
theorem ns_keep {h:Heap} {a:Addr} {m:Str→Option Value} (hn:k.c.base.Ns a m) {G:Nat→Kd} (S:StC k.c G k.fr k.P H s):s.heap.Ns a m:=hn.keeps fun b o e=>(S.keep b o e).2
theorem p_glob {x:Str} {pos:Pos} {v:Value} (hx:k.env.kindOf x=some .globalImplicit) (hd:x≠"__debug__") {mg:Str→Option Value} (hg:k.c.base.Ns mainGlobals mg) (hv:mg x=some v) (S:k.St ρ H s) {Q':Value→Shared→Prop} (h:Q' v s) :
  wpAny (model k.c.prog k.c.w) A (eval (.Name x pos) k.env) Q' E s:=by
 obtain⟨G,S1,V⟩:=S
 refine Calls.Name_function_global V.fn hx (Calls.loadGlobal_global (mg:=mg) ?_ hv h) (by simpa using hd)
 rw [V.gl];exact hg.keeps fun b o e=>(S1.keep b o e).2
theorem p_built {x:Str} {pos:Pos} {v:Value} (hx:k.env.kindOf x=some .globalImplicit) (hd:x≠"__debug__") {mg mb:Str→Option Value} (hg:k.c.base.Ns mainGlobals mg) (hm:mg x=none) (hb:k.c.base.Ns builtinsNs mb) (hv:mb x=some v) (S:k.St ρ H s) {Q':Value→Shared→Prop} (h:Q' v s) :
  wpAny (model k.c.prog k.c.w) A (eval (.Name x pos) k.env) Q' E s:=by
 obtain⟨G,S1,V⟩:=S
 refine Calls.Name_function_global V.fn hx (Calls.loadGlobal_builtin (mg:=mg) (mb:=mb) ?_ hm ?_ hv h) (by simpa using hd)
 ·rw [V.gl];exact hg.keeps fun b o e=>(S1.keep b o e).2
 ·rw [V.bi];exact hb.keeps fun b o e=>(S1.keep b o e).2
theorem bitOr_pp {x y:Int} (hx:0≤x) (hy:0≤y):Builtin.bitOr x y=((x.toNat ||| y.toNat:Nat):Int):=by
 have e:∀ z:Int,Builtin.bitNot (Builtin.bitNot z)=z:=fun z=>by unfold Builtin.bitNot;omega
 have n:∀ z:Int,0≤z→¬ 0≤Builtin.bitNot z:=fun z hz=>by unfold Builtin.bitNot;omega
 unfold Builtin.bitOr
 rw [bitAnd_nn (n x hx) (n y hy),e,e,e]
theorem p_bin_int {op:Operator} {op':BOp} (hop:bop op op'=true) {x y:Int} {t u:Tok} (S:k.St ρ H s) (h:vBin op' (.int x) (.int y) H Q):wpAny (model k.c.prog k.c.w) A (binaryOp op (.int x t) (.int y u)) (k.RE ρ Q) E s:=by
 have b64:∀ a:Int,-(2 ^ 62) < a∧a < 2 ^ 62→Builtin.Int.intBits a≤64:=fun a ⟨h1,h2⟩=>intBits_le_64 (by omega) (by omega)
 cases op <;> cases op' <;> first | (exact absurd hop (by decide)) | skip
 ·exact P.add_int (re_int _ S h)
 ·exact P.sub_int (re_int _ S h)
 ·exact P.mul_int (re_int _ S h.2) (IntMulOk.of_left (b64 x h.1))
 ·exact mod_int' h.1 (re_int _ S h.2)
 ·refine lshift_int h.1.2.2.1 ?_ (re_int _ S h.2)
  have:Builtin.Int.intBits x≤200:=PyProof.Rows.intBits_le (by have h1:-(2 ^ 200) < x:=h.1.1;have h2:x < 2 ^ 200:=h.1.2.1;omega)
  have:y≤1000:=h.1.2.2.2
  omega
 ·exact rshift_int h.1 (re_int _ S h.2)
 ·refine or_int (re_int _ S ?_);rw [bitOr_pp h.1.1 h.1.2];exact h.2
 ·refine and_int (re_int _ S ?_);rw [bitAnd_pp h.1.1 h.1.2];exact h.2
 ·exact floordiv_int (by have h1:0 < y:=h.1.1;omega) (re_int _ S h.2) (.inl (PyProof.noPylong_small (by have h1:0 < y:=h.1.1;have h2:y < 1000000000:=h.1.2;omega)))
end
end Bm
namespace Bm
open PySem PySem.W PyProof.Rows
theorem L2.get {l:List Value} {m:List AV} (h:L2 VR l m):∀ {i:Nat},i < m.length→∃ v,l[i]? = some v∧VR v (lget m i):=by
 induction h with
 | nil=>intro i hi;cases hi
 | cons r _ ih =>
  intro i hi
  cases i with
  | zero=>exact⟨_,rfl,r⟩
  | succ i=>exact ih (Nat.lt_of_succ_lt_succ hi)
theorem L2.set {l:List Value} {m:List AV} (h:L2 VR l m) {v:Value} {w:AV} (hv:VR v w):∀ i:Nat,L2 VR (l.set i v) (lset m i w):=by
 induction h with
 | nil=>intro i;exact .nil
 | cons r t ih =>
  intro i
  cases i with
  | zero=>exact .cons hv t
  | succ i=>exact .cons r (ih i)
theorem L2.replicate {v:Value} {w:AV} (hv:VR v w):∀ n:Nat,L2 VR (List.replicate n v) (List.replicate n w)
 | 0=>.nil
 | n+1=>.cons hv (L2.replicate hv n)
theorem L2.eraseIdx {l:List Value} {m:List AV} (h:L2 VR l m):∀ i:Nat,L2 VR (l.eraseIdx i) (m.eraseIdx i):=by
 induction h with
 | nil=>intro i;exact .nil
 | cons r t ih =>
  intro i
  cases i with
  | zero=>exact t
  | succ i=>exact .cons r (ih i)
theorem L2.reverse {l:List Value} {m:List AV} (h:L2 VR l m):L2 VR l.reverse m.reverse:=by
 induction h with
 | nil=>exact .nil
 | cons r t ih=>simp only [List.reverse_cons];exact ih.append (.cons r .nil)
theorem L2.take {l:List Value} {m:List AV} (h:L2 VR l m):∀ n,L2 VR (l.take n) (m.take n):=by
 induction h with
 | nil=>intro n;simp;exact .nil
 | cons r t ih=>intro n;cases n with
  | zero=>exact .nil
  | succ n=>exact .cons r (ih n)
section
variable {k:Kx} {ρ:List AV} {H:AHeap} {s:Shared} {Q X:EQ} {E:Value→Shared→Prop} {A:Around}
theorem St_newL (S:k.St ρ H s) {arr:Array Value} {xs:List AV} (hx:L2 VR arr.toList xs) (hz:arr.size≤lim) (tk:Nat) (h:∀ a,H a=none→Q (.ref a) (upd H a (.list xs))) :
  k.RE ρ Q (.ref s.heap.objs.size) { s with heap:=s.heap.push (listObj arr 0),toks:=tk }:=by
 obtain⟨G,S1,V⟩:=S
 refine⟨.ref s.heap.objs.size,_,.ref _,⟨_,S1.alloc tk (ao:=.list xs) ⟨arr,0,Heap.get?_push_size _ rfl,hx,hz⟩,V.step (fun a ha=>by rw [gset_ne (fun q=>by rw [q,S1.freeAt] at ha;cases ha),ha]) (fun x ca _ e=>by by_cases q:ca=s.heap.objs.size;(rw [q,gset_eq] at e;cases e);(rwa [gset_ne q] at e)) (fun a o _ e=>Heap.get?_push_of_some _ e)⟩,h _ S1.hnone⟩
theorem St_newT (S:k.St ρ H s) {arr:Array Value} {xs:List AV} (hx:L2 VR arr.toList xs) (hz:arr.size≤lim) (tk:Nat) (h:∀ a,H a=none→Q (.ref a) (upd H a (.tup xs))) :
  k.RE ρ Q (.ref s.heap.objs.size) { s with heap:=s.heap.push (tupObj arr 0),toks:=tk }:=by
 obtain⟨G,S1,V⟩:=S
 refine⟨.ref s.heap.objs.size,_,.ref _,⟨_,S1.alloc tk (ao:=.tup xs) ⟨arr,0,Heap.get?_push_size _ rfl,hx,hz⟩,V.step (fun a ha=>by rw [gset_ne (fun q=>by rw [q,S1.freeAt] at ha;cases ha),ha]) (fun x ca _ e=>by by_cases q:ca=s.heap.objs.size;(rw [q,gset_eq] at e;cases e);(rwa [gset_ne q] at e)) (fun a o _ e=>Heap.get?_push_of_some _ e)⟩,h _ S1.hnone⟩
theorem St_garb (S:k.St ρ H s) (o:Obj) (tk:Nat):k.St ρ H { s with heap:=s.heap.push o,toks:=tk }:=by
 obtain⟨G,S1,V⟩:=S
 exact⟨G,S1.garbage o tk,V.heap (fun a o _ e=>Heap.get?_push_of_some _ e)⟩
theorem St_grow (S:k.St ρ H s) {h':Heap} {tk:Nat} (hk:∀ b o,s.heap.get? b=some o→h'.get? b=some o):k.St ρ H { s with heap:=h',toks:=tk }:=by
 obtain⟨G,S1,V⟩:=S
 exact⟨G,S1.grow hk,V.heap (fun a o _ e=>hk a o e)⟩
theorem St_putL (S:k.St ρ H s) {l:Nat} {ao:AO} (hl:H l=some ao) {f:Obj→Obj} {o:Obj} (tk:Nat) {arr:Array Value} {n:Nat} {xs:List AV} (ho:s.heap.get? l=some o) (hf:f o=listObj arr n) (hx:L2 VR arr.toList xs) (hz:arr.size≤lim) (hk:kd ao=.obj:=by rfl) :
  k.St ρ (upd H l (.list xs)) { s with heap:=s.heap.update l f,toks:=tk }:=by
 obtain⟨G,S1,V⟩:=S
 have g:=(S1.hv l ao hl).1.trans hk
 refine⟨G,S1.put g (Heap.SameBut.update ..) ⟨arr,n,?_,hx,hz⟩,V.heap fun a o' ha e=>(Heap.get?_update_other _ _ fun q=>?_).trans e⟩
 ·rw [Heap.get?_update_self f ho (by rw [hf];rfl),hf]
 ·subst q;rw [g] at ha;cases ha
theorem lim_line {n:Nat} (h:n≤lim):n≤sizeLine:=by unfold lim at h;rw [sizeLine_eq];omega
theorem p_truthy {v:Value} {x:AV} {Q:Bool→AHeap→Prop} {E:Value→Shared→Prop} (hv:VR v x) (S:k.St ρ H s) (h:truthy x H fun b=>Q b H):wpAny (model k.c.prog k.c.w) A (PySem.truthy v) (k.RB ρ Q) E s:=by
 cases hv with
 | undef=>exact h.elim
 | none=>exact fun _ _ _=>⟨H,S,h⟩
 | bool b=>exact wpAny_truthy_bool ⟨H,S,h⟩
 | int i t =>
  refine P.truthy_int ⟨H,S,?_⟩
  have e:(i != 0)=decide (i≠0):=by by_cases z:i=0 <;> simp [z]
  rw [e];exact h
 | ref a =>
  unfold truthy at h
  dsimp only at h
  obtain⟨G,S1,V⟩:=id S
  cases hl:H a with
  | none=>rw [hl] at h;exact h.elim
  | some ao =>
   rw [hl] at h
   cases ao with
   | list xs =>
    obtain⟨-,arr,n,ho,hx,hz⟩:=S1.hv a _ hl
    refine wpAny_truthy_list (PySem.IsL.isList (n:=n) ho) (by have:=lim_line hz;rw [sizeLine_eq] at this;omega) ⟨H,S.toks _,?_⟩
    have e:arr.isEmpty=xs.isEmpty:=by
     have:=hx.length
     cases xs with
     | nil=>simpa using this
     | cons x xs=>simp only [List.length_cons,Array.length_toList] at this;rw [List.isEmpty_cons];exact decide_eq_false (by omega)
    rw [e];exact h
   | _=>exact h.elim
theorem p_add_list {l m:Nat} (S:k.St ρ H s) (h:vBin .add (.ref l) (.ref m) H Q):wpAny (model k.c.prog k.c.w) A (binaryOp .Add (.ref l) (.ref m)) (k.RE ρ Q) E s:=by
 obtain⟨G,S1,V⟩:=id S
 unfold vBin at h
 dsimp only at h
 cases hl:H l with
 | none=>rw [hl] at h;exact h.elim
 | some al =>
  cases hm:H m with
  | none=>rw [hl,hm] at h;cases al <;> exact h.elim
  | some am =>
   rw [hl,hm] at h
   cases al <;> cases am <;> first | exact h.elim | skip
   obtain⟨-,arr,n,ho,hx,hz⟩:=S1.hv l _ hl
   obtain⟨-,arr2,n2,ho2,hx2,hz2⟩:=S1.hv m _ hm
   have e1:=hx.length;have e2:=hx2.length
   rw [Array.length_toList] at e1 e2
   have hsz:arr.size+arr2.size≤lim:=by have:=h.1;omega
   exact P.add_list ho ho2 (St_newL S (by rw [Array.toList_append];exact hx.append hx2) (by rw [Array.size_append];exact hsz) _ h.2) (lim_line hsz)
theorem foldl_rep (x:Value):∀ (n:Nat) (acc:Array Value),(List.foldl (fun x1 x2=>x1++x2) acc (List.replicate n #[x])).toList=acc.toList++List.replicate n x
 | 0,acc=>by simp
 | n+1,acc=>by rw [List.replicate_succ,List.foldl_cons,foldl_rep x n];simp [List.replicate_succ]
theorem p_mul_list {l:Nat} {x:Int} {t:Tok} (S:k.St ρ H s) (h:vBin .mul (.ref l) (.int x) H Q):wpAny (model k.c.prog k.c.w) A (binaryOp .Mult (.ref l) (.int x t)) (k.RE ρ Q) E s:=by
 obtain⟨G,S1,V⟩:=id S
 unfold vBin at h
 dsimp only at h
 cases hl:H l with
 | none=>rw [hl] at h;exact h.elim
 | some al =>
  rw [hl] at h
  cases al <;> first | exact h.elim | skip
  rename_i xs
  match xs,h with
  | [y],h =>
   obtain⟨-,arr,n,ho,hx,hz⟩:=S1.hv l _ hl
   obtain⟨arr⟩:=arr
   cases hx with
   | cons r t' =>
    cases t'
    rename_i v
    have room:(1:Nat)*x.toNat≤2 ^ 24:=by have:=h.1;omega
    have lt:∀ s':Shared,s'.heap.get? l=some (listObj #[v] n)→s'.TypeIs (.ref l) "list":=fun s' e=>⟨_,e,rfl⟩
    refine wpAny_binaryOp_repeat_ref (T:="list") (U:="int") (by decide) (lt s ho) (fun s'=>typeIs_int s' x t) noFill_list_mul F.fills_int_mul F.slot_int_rmul repeat_list F.slot_int_index.lookup ?_
    refine call_meets F.slot_int_rmul (typeIs_int s x t) F.entry_int_rmul (F.args_int_rmul_2 _ _) (int___rmul___int_list x t l #[v] n) ⟨ho,rfl,lt s ho,?_⟩
    refine call_meets F.slot_list_mul (lt s ho) F.entry_list_mul (F.args_list_mul_2 _ _) (AutoListH.list___mul___list_int_3 l #[v] n x t ?_ ?_ ?_) ⟨ho,?_⟩
    ·have:=h.1;simp [Builtin.List.listFitsIndex];omega
    ·have:=h.1;simp;omega
    ·simp [Builtin.List.listTooLong,sizeLine];have:=h.1;omega
    ·have hx2:(#[v]:Array Value).isEmpty=false:=rfl
     refine St_newL S ?_ ?_ _ h.2
     ·rw [hx2,foldl_rep];exact L2.replicate r _
     ·rw [hx2,← Array.length_toList,foldl_rep];have:=h.1;simp [lim];omega
  | [],h=>exact h.elim
  | _::_::_,h=>exact h.elim
theorem p_neg {v:Value} {x:AV} (h:match x with | .int i=>Q (.int (-i)) H | _=>False) (hv:VR v x) (S:k.St ρ H s):wpAny (model k.c.prog k.c.w) A (unaryOp .USub v) (k.RE ρ Q) E s:=by
 cases hv with
 | int i t=>exact P.neg_int (re_int _ S h)
 | _=>exact h.elim
theorem hs_tail (slice:Expr) (o i:Value):∃ ops,subscripted slice false o i=operate ops (getItem o i):=by
 unfold subscripted
 split
 ·exact⟨_,rfl⟩
 ·rename_i h;cases h
 ·exact⟨_,rfl⟩
theorem place_some {i:Int} {n j:Nat} (h:place i n=some j):seqIndex? i n=some j∧j < n∧((0≤i∧j=i.toNat)∨(i < 0∧-(n:Int)≤i∧j=(i+n).toNat)):=by
 unfold place at h
 by_cases h0:0≤i
 ·rw [if_pos h0] at h
  by_cases h1:i < n
  ·rw [if_pos h1] at h
   cases h
   refine⟨?_,by omega,.inl ⟨h0,rfl⟩⟩
   unfold seqIndex?
   dsimp only
   rw [if_neg (show ¬ i < 0 by omega)]
   simp [h0,h1]
  ·rw [if_neg h1] at h;cases h
 ·rw [if_neg h0] at h
  by_cases h1:-(n:Int)≤i
  ·rw [if_pos h1] at h
   cases h
   refine⟨?_,by omega,.inr ⟨by omega,h1,rfl⟩⟩
   unfold seqIndex?
   dsimp only
   rw [if_pos (show i < 0 by omega)]
   have h2:0≤i+n:=by omega
   have h3:i+n < n:=by omega
   simp [h2,h3]
  ·rw [if_neg h1] at h;cases h
theorem p_idx {value slice:Expr} {o i:Value} {x y:AV} (hx:VR o x) (hy:VR i y) (S:k.St ρ H s) (h:vIdx x y H fun v=>Q v H):wpAny (model k.c.prog k.c.w) A (subscriptTail value slice o i) (k.RE ρ Q) E s:=by
 cases hx <;> first | exact h.elim | skip
 rename_i l
 cases hy <;> first | exact h.elim | skip
 rename_i i t
 obtain⟨ops,hs⟩:=hs_tail slice (.ref l) (.int i t)
 obtain⟨G,S1,V⟩:=id S
 unfold vIdx at h
 dsimp only at h
 cases hl:H l with
 | none=>rw [hl] at h;exact h.elim
 | some al =>
  rw [hl] at h
  cases al <;> first | exact h.elim | skip
  ·rename_i xs
   obtain⟨-,arr,n,ho,hxs,hz⟩:=S1.hv l _ hl
   have e1:=hxs.length
   rw [Array.length_toList] at e1
   dsimp only at h
   cases hp:place i xs.length with
   | none=>rw [hp] at h;exact h.elim
   | some j =>
    rw [hp] at h
    obtain⟨h1,h2,h3⟩:=place_some hp
    obtain⟨v,hv,hr⟩:=hxs.get h2
    rw [Array.getElem?_toList] at hv
    have hl':s.heap.IsList l arr:=PySem.IsL.isList (n:=n) ho
    refine tail_any hl'.typeIs slot_list_getitem.lookup ?_ hs
    have hlim:xs.length≤1000000:=by unfold lim at hz;omega
    rcases h3 with ⟨h3,h4⟩ | ⟨h3,h4,h5⟩
    ·exact wpAny_getItem_list hl' h3 (by omega) (h4 ▸ hv) (re_mk hr S h)
    ·exact wpAny_getItem_list_neg hl' h3 (by rw [e1];exact h4) (by omega) (by rw [e1,← h5];exact hv) (re_mk hr S h)
  ·rename_i xs
   obtain⟨-,arr,n,ho,hxs,hz⟩:=S1.hv l _ hl
   have e1:=hxs.length
   rw [Array.length_toList] at e1
   dsimp only at h
   cases hp:place i xs.length with
   | none=>rw [hp] at h;exact h.elim
   | some j =>
    rw [hp] at h
    obtain⟨h1,h2,h3⟩:=place_some hp
    obtain⟨v,hv,hr⟩:=hxs.get h2
    rw [Array.getElem?_toList] at hv
    have hl':IsTup s.heap l arr:=⟨_,ho,rfl,n,rfl⟩
    have hlim:xs.length≤1000000:=by unfold lim at hz;omega
    exact tail_any hl'.typeIs slot_tuple_getitem.lookup (getItem_tuple hl' (by omega) (by omega) (by rw [e1];exact h1) hv (re_mk hr S h)) hs
end
end Bm
namespace Bm
open PySem PySem.W PyProof.Rows PySem.SeqAt PySem.MeetsSeq
theorem eqL_some {f:AV→AV→Option Bool}:∀ {xs ys:List AV} {b:Bool},eqL f xs ys=some b →
  ∃ e:Nat→Bool,(∀ j,j < xs.length→j < ys.length→f (lget xs j) (lget ys j)=some (e j))∧b=((List.range (min xs.length ys.length)).all e&&xs.length == ys.length)
 | [],[],b,h=>by cases h;exact⟨fun _=>true,fun j hj=>absurd hj (Nat.not_lt_zero _),rfl⟩
 | [],y::ys,b,h=>by cases h;exact⟨fun _=>true,fun j hj=>absurd hj (Nat.not_lt_zero _),by simp⟩
 | x::xs,[],b,h=>by cases h;exact⟨fun _=>true,fun j _ hj=>absurd hj (Nat.not_lt_zero _),by simp⟩
 | x::xs,y::ys,b,h=>by
  unfold eqL at h
  cases hp:f x y with
  | none=>rw [hp] at h;cases h
  | some p =>
   rw [hp] at h
   cases hq:eqL f xs ys with
   | none=>rw [hq] at h;cases h
   | some q =>
    rw [hq] at h
    have hb:(p&&q)=b:=by simpa using h
    obtain⟨g,g1,g2⟩:=eqL_some hq
    refine⟨fun j=>match j with | 0=>p | j+1=>g j,fun j hj hj'=>?_,?_⟩
    ·cases j with
     | zero=>exact hp
     | succ j=>exact g1 j (by simpa using hj) (by simpa using hj')
    ·have hm:min (x::xs).length (y::ys).length=min xs.length ys.length+1:=by simp only [List.length_cons];omega
     have hl:((x::xs).length == (y::ys).length)=(xs.length == ys.length):=by simp
     rw [← hb,g2,hm,hl,List.range_succ_eq_map,List.all_cons,List.all_map,Bool.and_assoc];rfl
theorem eqA_self:∀ {n:Nat} {H:AHeap} {x:AV} {b:Bool},eqA n H x x=some b→b=true:=by
 have list:∀ (f:AV→AV→Option Bool),(∀ x b,f x x=some b→b=true)→∀ (xs:List AV) (b:Bool),eqL f xs xs=some b→b=true:=by
  intro f hf xs
  induction xs with
  | nil=>intro b h;cases h;rfl
  | cons x xs ih =>
   intro b h
   unfold eqL at h
   cases hp:f x x with
   | none=>rw [hp] at h;cases h
   | some p =>
    rw [hp] at h
    cases hq:eqL f xs xs with
    | none=>rw [hq] at h;cases h
    | some q =>
     rw [hq] at h
     have hb:(p&&q)=b:=by simpa using h
     rw [← hb,hf x p hp,ih q hq];rfl
 intro n
 induction n with
 | zero=>intro H x b h;cases x <;> simp [eqA] at h <;> exact h.symm ▸ rfl
 | succ n ih =>
  intro H x b h
  cases x with
  | int a=>simp [eqA] at h;exact h.symm ▸ rfl
  | ref a =>
   unfold eqA at h
   dsimp only at h
   cases ha:H a with
   | none=>rw [ha] at h;cases h
   | some o =>
    rw [ha] at h
    cases o with
    | list xs=>exact list _ (fun x b h=>ih h) xs b h
    | tup xs=>exact list _ (fun x b h=>ih h) xs b h
    | _=>cases h
  | _=>cases h
theorem int_beq (a b:Int):(a == b)=decide (a=b):=by by_cases h:a=b <;> simp [h]
theorem eqA_seq {c:Cx} {G:Nat→Kd} {fr:List Env} {P:List (Addr×Obj)} {H:AHeap} {s:Shared} (S:StC c G fr P H s) {n:Nat} {A:Around} {l m:Nat} {b:Bool}
  (ih:∀ {x y:AV} {v w:Value} {b:Bool},eqA n H x y=some b→VR v x→VR w y→EqAt A.in1 s v w b) (h:eqA (n+1) H (.ref l) (.ref m)=some b) (hu:A.units < cLine) :
  RcAt A s (.ref l) (.ref m) b∧RcNeAt A s (.ref l) (.ref m) (!b):=by
 unfold eqA at h
 dsimp only at h
 cases hl:H l with
 | none=>rw [hl] at h;cases h
 | some ol =>
  cases hm:H m with
  | none=>rw [hl,hm] at h;cases ol <;> cases h
  | some om =>
   rw [hl,hm] at h
   have items:∀ {arr arr2:Array Value} {xs ys:List AV},L2 VR arr.toList xs→L2 VR arr2.toList ys→eqL (eqA n H) xs ys=some b →
     ∃ e:Nat→Bool,(∀ j (h1:j < arr.size) (h2:j < arr2.size),EqAt A.in1 s arr[j] arr2[j] (e j))∧b=((List.range (min arr.size arr2.size)).all e&&arr.size == arr2.size):=by
    intro arr arr2 xs ys hx hy he
    have e1:=hx.length;have e2:=hy.length
    rw [Array.length_toList] at e1 e2
    obtain⟨g,g1,g2⟩:=eqL_some he
    refine⟨g,fun j h1 h2=>?_,by rw [e1,e2];exact g2⟩
    obtain⟨a1,b1,r1⟩:=hx.get (i:=j) (by omega)
    obtain⟨a2,b2,r2⟩:=hy.get (i:=j) (by omega)
    have z1:arr[j]=a1:=by rw [Array.getElem?_toList,Array.getElem?_eq_getElem h1] at b1;exact Option.some.inj b1
    have z2:arr2[j]=a2:=by rw [Array.getElem?_toList,Array.getElem?_eq_getElem h2] at b2;exact Option.some.inj b2
    rw [z1,z2]
    exact ih (g1 j (by omega) (by omega)) r1 r2
   cases ol <;> cases om <;> first | (cases h;done) | skip
   ·obtain⟨-,arr,n1,ho,hx,hz⟩:=S.hv l _ hl
    obtain⟨-,arr2,n2,ho2,hx2,hz2⟩:=S.hv m _ hm
    obtain⟨e,e1,e2⟩:=items hx hx2 h
    have i1:s.heap.IsList l arr:=PySem.IsL.isList (n:=n1) ho
    have i2:s.heap.IsList m arr2:=PySem.IsL.isList (n:=n2) ho2
    by_cases hs:arr.size=arr2.size
    ·have e3:b=(List.range arr.size).all e:=by rw [e2,← hs,Nat.min_self];simp
     subst e3
     exact⟨RcAt.lists i1 i2 hs hu e1,RcNeAt.lists i1 i2 hs hu e1⟩
    ·have e3:b=false:=by rw [e2,beq_eq_false_iff_ne.mpr hs,Bool.and_false]
     subst e3
     exact⟨RcAt.lists_lengths i1 i2 (by simpa using hs) hu,RcNeAt.lists_lengths i1 i2 (by simpa using hs) hu⟩
   ·obtain⟨-,arr,n1,ho,hx,hz⟩:=S.hv l _ hl
    obtain⟨-,arr2,n2,ho2,hx2,hz2⟩:=S.hv m _ hm
    obtain⟨e,e1,e2⟩:=items hx hx2 h
    have i1:s.heap.IsTuple l arr:=⟨_,ho,rfl,n1,rfl⟩
    have i2:s.heap.IsTuple m arr2:=⟨_,ho2,rfl,n2,rfl⟩
    subst e2
    exact⟨RcAt.tuples i1 i2 hu e1,RcNeAt.tuples i1 i2 hu e1⟩
theorem eqA_at {c:Cx} {G:Nat→Kd} {fr:List Env} {P:List (Addr×Obj)} {H:AHeap} {s:Shared} (S:StC c G fr P H s):∀ {n:Nat} {A:Around} {x y:AV} {v w:Value} {b:Bool},eqA n H x y=some b→VR v x→VR w y→A.units+n < cLine→EqAt A s v w b:=by
 intro n
 induction n with
 | zero =>
  intro A x y v w b h hv hw hu
  cases hv <;> cases hw <;> simp [eqA] at h
  rename_i i t j u
  have q:=(EqGives.int i j t u).at A s
  rw [int_beq] at q
  rw [← h];exact q
 | succ n ih =>
  intro A x y v w b h hv hw hu
  cases hv <;> cases hw <;> first | (simp [eqA] at h;done) | skip
  ·rename_i i t j u
   have q:=(EqGives.int i j t u).at A s
   rw [int_beq] at q
   simp [eqA] at h
   rw [← h];exact q
  ·rename_i l m
   by_cases hlm:l=m
   ·subst hlm;rw [eqA_self h];exact EqAt.same _
   ·exact EqAt.of_refs hlm (eqA_seq S (fun e r1 r2=>ih e r1 r2 (by show A.units+1+n < cLine;omega)) h (by omega)).1
section
variable {k:Kx} {ρ:List AV} {H:AHeap} {s:Shared} {Q X:EQ} {E:Value→Shared→Prop} {A:Around}
theorem p_cmp {op:CmpOp} {op':COp} (hop:cop op op'=true) {v w:Value} {x y:AV} {Q:Bool→AHeap→Prop} (hv:VR v x) (hw:VR w y) (hu:A.units+10 < cLine) (S:k.St ρ H s) (h:vCmp op' x y H fun r=>Q r H) :
  wpAny (model k.c.prog k.c.w) A (compareOp op v w) (fun r s'=>∃ b,r=.bool b∧k.RB ρ Q b s') E s:=by
 obtain⟨G,S1,V⟩:=id S
 have rb:∀ b,Q b H→∃ b',Value.bool b=.bool b'∧k.RB ρ Q b' s:=fun b q=>⟨b,rfl,H,S,q⟩
 have listIn:∀ {i:Int} {l:Nat} {t:Tok} {xs:List AV},H l=some (.list xs)→xs.all isInt=true→∃ arr:Array Value,∃ e:Value→Bool,s.heap.IsList l arr∧(∀ y,y∈arr→EqAt A.in1 s y (.int i t) (e y))∧arr.any e=xs.any (isThe i):=by
  intro i l t xs hl hall
  obtain⟨-,arr,n,ho,hx,hz⟩:=S1.hv l _ hl
  refine⟨arr,fun v=>match v with | .int j _=>decide (j=i) | _=>false,PySem.IsL.isList (n:=n) ho,?_,?_⟩
  ·intro y hy
   have:∃ j u,y=.int j u:=by
    have hy':y∈arr.toList:=by simpa using hy
    clear hl ho hz hy
    generalize arr.toList=l at hx hy'
    induction hx with
    | nil=>cases hy'
    | cons r _ ih =>
     rw [List.all_cons,Bool.and_eq_true] at hall
     rcases List.mem_cons.mp hy' with rfl | h'
     ·cases r <;> first | exact⟨_,_,rfl⟩ | (exact absurd hall.1 (by simp [isInt]))
     ·exact ih hall.2 h'
   obtain⟨j,u,rfl⟩:=this
   have q:=(EqGives.int j i u t).at A.in1 s
   rw [int_beq] at q
   exact q
  ·rw [← Array.any_toList]
   clear hl ho hz
   generalize arr.toList=l at hx
   induction hx with
   | nil=>rfl
   | cons r _ ih =>
    rw [List.all_cons,Bool.and_eq_true] at hall
    rw [List.any_cons,List.any_cons,ih hall.2]
    cases r <;> first | rfl | (exact absurd hall.1 (by simp [isInt]))
 cases op <;> cases op' <;> first | (exact absurd hop (by decide)) | skip
 ·
  unfold vCmp at h
  cases hb:eqA 4 H x y with
  | none=>simp only [hb] at h
  | some b =>
   have hq:Q b H:=by simp only [hb] at h;exact h
   cases hv <;> cases hw <;> first | (simp [eqA] at hb;done) | skip
   ·simp [eqA] at hb
    refine P.eq_int (rb _ ?_)
    rw [int_beq,hb];exact hq
   ·exact(eqA_seq S1 (fun e r1 r2=>eqA_at S1 e r1 r2 (by show A.units+1+3 < cLine;omega)) hb (by omega)).1 _ _ _ _ (rb _ hq)
 ·
  unfold vCmp at h
  cases hb:eqA 4 H x y with
  | none=>simp only [hb] at h
  | some b =>
   have hq:Q (!b) H:=by simp only [hb] at h;exact h
   cases hv <;> cases hw <;> first | (simp [eqA] at hb;done) | skip
   ·simp [eqA] at hb
    refine P.ne_int (rb _ ?_)
    rw [show ∀ a b:Int,(a != b) = !(a == b) from fun _ _=>rfl,int_beq,hb];exact hq
   ·exact(eqA_seq S1 (fun e r1 r2=>eqA_at S1 e r1 r2 (by show A.units+1+3 < cLine;omega)) hb (by omega)).2 _ _ _ _ (rb _ hq)
 ·cases hv <;> cases hw <;> first | exact h.elim | exact P.lt_int (rb _ h)
 ·cases hv <;> cases hw <;> first | exact h.elim | exact P.le_int (rb _ h)
 ·cases hv <;> cases hw <;> first | exact h.elim | exact P.gt_int (rb _ h)
 ·cases hv <;> cases hw <;> first | exact h.elim | exact P.ge_int (rb _ h)
 ·cases hv <;> cases hw <;> first | exact h.elim | exact wpAny_is_self rfl (rb _ h) | exact wpAny_is_other rfl (fun q=>nomatch q) (rb _ h)
 ·cases hv <;> cases hw <;> first | exact h.elim | exact wpAny_isNot_self rfl (rb _ h) | exact wpAny_isNot_other rfl (fun q=>nomatch q) (rb _ h)
 ·cases hv <;> cases hw <;> first | exact h.elim | skip
  rename_i i t l
  unfold vCmp inList at h
  dsimp only at h
  cases hl:H l with
  | none=>rw [hl] at h;exact h.elim
  | some o =>
   rw [hl] at h
   cases o <;> first | exact h.elim | skip
   obtain⟨arr,e,h1,h2,h3⟩:=listIn (t:=t) hl h.1
   exact in_listAt e h1 h2 (rb _ (by rw [h3];exact h.2))
 ·cases hv <;> cases hw <;> first | exact h.elim | skip
  rename_i i t l
  unfold vCmp inList at h
  dsimp only at h
  cases hl:H l with
  | none=>rw [hl] at h;exact h.elim
  | some o =>
   rw [hl] at h
   cases o <;> first | exact h.elim | skip
   obtain⟨arr,e,h1,h2,h3⟩:=listIn (t:=t) hl h.1
   exact notIn_listAt e h1 h2 (rb _ (by rw [h3];exact h.2))
end
end Bm
namespace Bm
open PySem PySem.W PyProof.Rows PySem.SeqAt PySem.MeetsSeq Builtin Builtin.ObjectAttr
theorem ofString_inj {a b:String} (h:Str.ofString a=Str.ofString b):a=b:=by
 rw [Str.ofString_eq_toList,Str.ofString_eq_toList] at h
 injection h with h
 have h:a.toList.map Char.toNat=b.toList.map Char.toNat:=by simpa using h
 have inj:∀ c d:Char,c.toNat=d.toNat→c=d:=fun c d e=>Char.ext (UInt32.toNat_inj.mp e)
 exact String.toList_inj.mp (List.map_inj_right (fun c d=>inj c d) |>.mp h)
theorem lookIn_ns {h:Heap} {dx:Addr} {m:Str→Option Value} (hn:h.Ns dx m):∃ o,h.get? dx=some o∧∀ name,lookIn name o=some (m name):=by
 obtain⟨o,es,ep,ho,hd,hk,hf⟩:=hn
 refine⟨o,ho,fun name=>?_⟩
 have q:=hf name
 unfold nsFind findBy at q
 unfold lookIn
 rw [hd]
 dsimp only
 rw [← Array.find?_toList] at q
 cases hq:es.toList.find? (·.key.isStr name) with
 | some e=>rw [hq] at q;dsimp only;rw [← q];rfl
 | none =>
  rw [hq] at q
  dsimp only
  have:es.toList.any (·.refKey)=false:=by
   rw [List.any_eq_false];intro e he
   obtain⟨n,t,hh⟩:=hk e (by simpa using he)
   simp [DictEntry.refKey,hh]
  rw [if_neg (by rw [this];simp),← q];rfl
theorem isStr_of {e:DictEntry} {f:String×AV} (h:FR e f) (n:String):e.key.isStr (Str.ofString n)=decide (f.1=n):=by
 obtain⟨⟨tk,hk⟩,_⟩:=h
 rw [hk]
 show(Str.ofString f.1 == Str.ofString n)=_
 by_cases e:f.1=n
 ·rw [e];simp
 ·rw [decide_eq_false e]
  exact beq_eq_false_iff_ne.mpr fun z=>e (ofString_inj z)
theorem noRef_of {es:List DictEntry} {fs:List (String×AV)} (h:L2 FR es fs):es.any (·.refKey)=false:=by
 induction h with
 | nil=>rfl
 | cons r _ ih=>rw [List.any_cons,ih];obtain⟨⟨tk,hk⟩,_⟩:=r;simp [DictEntry.refKey,hk]
theorem getL_of {es:List DictEntry} {fs:List (String×AV)} (h:L2 FR es fs) (n:String):match fget fs n with
  | some v=>∃ y,getL (Str.ofString n) es=some (some y)∧VR y v
  | none=>getL (Str.ofString n) es=some none:=by
 have key:match fget fs n with
   | some v=>∃ e,es.find? (·.key.isStr (Str.ofString n))=some e∧VR e.val v
   | none=>es.find? (·.key.isStr (Str.ofString n))=none:=by
  induction h with
  | nil=>exact rfl
  | @cons e f es fs r _ ih =>
   unfold fget
   rw [List.find?_cons,isStr_of r]
   by_cases z:f.1=n
   ·rw [if_pos z,decide_eq_true z];exact⟨e,rfl,r.2⟩
   ·rw [if_neg z,decide_eq_false z];exact ih
 unfold getL
 cases hq:fget fs n with
 | some v=>rw [hq] at key;obtain⟨e,e1,e2⟩:=key;exact⟨e.val,by rw [e1],e2⟩
 | none=>rw [hq] at key;dsimp only at key ⊢;rw [key];dsimp only;rw [if_neg (by rw [noRef_of h];simp)]
theorem putL_of {es:List DictEntry} {fs:List (String×AV)} (h:L2 FR es fs) {n:String} {hsh:Int} {tk:Tok} {v:Value} {y:AV} (hy:VR v y):L2 FR (putL (Str.ofString n) hsh (.str (Str.ofString n) tk) v es) (fset fs n y):=by
 induction h with
 | nil=>exact .cons ⟨⟨tk,rfl⟩,hy⟩ .nil
 | @cons e f es fs r t ih =>
  obtain⟨k,w⟩:=f
  unfold putL fset
  rw [isStr_of r]
  by_cases z:k=n
  ·rw [if_pos z,if_pos (decide_eq_true z)];exact .cons ⟨r.1,hy⟩ t
  ·rw [if_neg z,if_neg (by simpa using z)];exact .cons r ih
theorem fset_length (fs:List (String×AV)) (n:String) (y:AV):(fset fs n y).length≤fs.length+1:=by
 induction fs with
 | nil=>exact Nat.le_refl _
 | cons f fs ih=>obtain⟨k,w⟩:=f;unfold fset;split <;> simp only [List.length_cons] <;> omega
theorem handed_VR {v:Value} {x:AV} (h:VR v x) (hx:x≠.undef):handedIn v=true:=by cases h <;> first | rfl | exact absurd rfl hx
section
variable {k:Kx} {ρ:List AV} {H:AHeap} {s:Shared} {Q X:EQ} {E:Value→Shared→Prop} {A:Around} {K:Frag}
theorem keepK (F:Fa k.c k.T K) {G:Nat→Kd} (S:StC k.c G k.fr k.P H s):K.In s.heap:=F.inK.keeps fun b o e=>(S.keep b o e).2
theorem p_attr (F:Fa k.c k.T K) {o:Value} {x:AV} {n:String} {expr:Bool} (hx:VR o x) (S:k.St ρ H s) (h:vAttr k.T x n H fun v=>Q v H) :
  wpAny (model k.c.prog k.c.w) A (getAttr o (Str.ofString n) expr) (k.RE ρ Q) E s:=by
 obtain⟨G,S1,V⟩:=id S
 cases hx <;> first | exact h.elim | skip
 rename_i a
 unfold vAttr at h
 dsimp only at h
 cases hl:H a with
 | none=>rw [hl] at h;exact h.elim
 | some ao =>
  rw [hl] at h
  cases ao <;> first | exact h.elim | skip
  ·rename_i C fs
   obtain⟨-,dx,es,m,h1,h2,h3,h4⟩:=S1.hv a _ hl
   obtain⟨a1,a2,a3,a4,a5,a6⟩:=F.att C n h.1
   have hf:=getL_of h4 n
   dsimp only at h
   cases hg:fget fs n with
   | none=>rw [hg] at h;exact h.2.elim
   | some v =>
    rw [hg] at h hf
    obtain⟨y,y1,y2⟩:=hf
    have I:InstAt s.heap a (instObj C dx) C (some (dictOf es m)):=⟨h1,rfl,rfl,h3⟩
    have hu:v≠.undef:=fun e=>by subst e;exact h.2.1
    exact get_value (keepK F S1) I (plainGet_of a1).1 (findObj_own a2 a3 rfl y1) (handed_VR y2 hu) (re_mk y2 (S.toks _) h.2.2)
  ·rename_i v
   obtain⟨rfl,hq⟩:=h
   obtain⟨-,ob,dx,m,h1,hc,hd,hno,h2,h3,hi,y,y1,y2⟩:=S1.hv a _ hl
   obtain⟨od,o1,o2⟩:=lookIn_ns h3
   have I:InstAt s.heap a ob 71 (some od):=⟨h1,hc,hno,by rw [hd];exact o1⟩
   have hu:v≠.undef:=fun e=>by subst e;cases hi
   have SO:=F.stop
   obtain⟨N,nm,q,bs,sn,sub,ab,col,dd,k0,k1,k2,k3,k5,hC⟩:=SO.cls.c71
   exact exc_get (keepK F S1) I SO.ga SO.ge (keepK F S1 _ _ hC) (by decide) (findObj_own SO.hd SO.cls.aNodes rfl (by rw [o2,y1])) (handed_VR y2 hu) (re_mk y2 (S.toks _) hq)
theorem p_setA (F:Fa k.c k.T K) {o v:Value} {x y:AV} {n:String} {Q:Unit→Shared→Prop} (hx:VR o x) (hy:VR v y) (S:k.St ρ H s) (h:vSetA k.T x n y H fun H'=>∀ s',k.St ρ H' s'→Q () s') :
  wpAny (model k.c.prog k.c.w) A (setAttr o (Str.ofString n) v) Q E s:=by
 obtain⟨G,S1,V⟩:=id S
 cases hx <;> first | exact h.elim | skip
 rename_i a
 unfold vSetA at h
 dsimp only at h
 cases hl:H a with
 | none=>rw [hl] at h;exact h.elim
 | some ao =>
  rw [hl] at h
  cases ao <;> first | exact h.elim | skip
  rename_i C fs
  obtain⟨ga,dx,es,m,h1,h2,h3,h4⟩:=S1.hv a _ hl
  obtain⟨a1,a2,a3,a4,a5,a6⟩:=F.att C n h.1
  have I:InstAt s.heap a (instObj C dx) C (some (dictOf es m)):=⟨h1,rfl,rfl,h3⟩
  have X:=keepK F S1
  obtain⟨cd,hc,hd'⟩:=any_some a2
  refine set_plain X I a4 (osa_open (s:={ s with toks:=s.toks+1 }) X I a5 a6 fun b=>?_)
  dsimp only
  refine wpAny_bind (wpAny_pure (wpAny_bind (wpAny_bind (wpAny_loadPart (s:={ s with toks:=s.toks+1 }) h1 (wpAny_bind (looks_clsIn (h:=s.heap) X hc _ _ _ { s with toks:=s.toks+1 } (fun _ _ e=>e) ?_))))))
  rw [hd']
  refine wpAny_pure (a:=some dx) (wpAny_bind (wpAny_pure (wpAny_bind ?_)))
  unfold nsSet
  refine wpAny_bind (wpAny_bind (wpAny_askSetting (wpAny_pure (wpAny_bind (wpAny_mkText (wpAny_bind (wpAny_loadPart (o:=dictOf es m) h3 ?_)))))))
  have c:(!es.toArray.any (·.key.isStr (Str.ofString n))&&es.toArray.any (·.refKey))=false:=by
   rw [← Array.any_toList,← Array.any_toList,noRef_of h4,Bool.and_false]
  have pn:=putName_dict (Str.ofString n) (PyData.keyHash k.c.w.params (Str.ofString n)) (.str (Str.ofString n) (s.toks+1)) v es m
  have hg:(s.heap.update dx (Obj.putName (Str.ofString n) (PyData.keyHash k.c.w.params (Str.ofString n)) (.str (Str.ofString n) (s.toks+1)) v)).get? dx=some (dictOf (putL (Str.ofString n) (PyData.keyHash k.c.w.params (Str.ofString n)) (.str (Str.ofString n) (s.toks+1)) v es) (putN (Str.ofString n) es m)):=by
   rw [Heap.get?_update_self _ h3 (by rw [pn];rfl),pn]
  have hs:=Heap.SameBut.update s.heap dx (Obj.putName (Str.ofString n) (PyData.keyHash k.c.w.params (Str.ofString n)) (.str (Str.ofString n) (s.toks+1)) v)
  have hL:=putL_of (n:=n) (hsh:=PyData.keyHash k.c.w.params (Str.ofString n)) (tk:=s.toks+1) h4 hy
  dsimp only [dictOf]
  rw [aRefKeyMayBeTheName_at,c]
  refine wpAny_updatePart (o:=dictOf es m) h3 ?_
  refine wpAny_bind (wpAny_lookBehind hg (pastItsLine_dict ?_) ?_)
  ·rw [List.size_toArray,sizeLine_eq,hL.length]
   have:=fset_length fs n y
   have:=h.2.1
   omega
  refine wpAny_pure ?_
  refine h.2.2 _ ⟨G,S1.putD (tk:=s.toks+1+1) ⟨_,hg⟩ h2 ga hs ⟨dx,_,_,(hs.2 a fun q=>?_).trans h1,h2,hg,hL⟩,V.heap fun b o hb e=>(hs.2 b fun q=>?_).trans e⟩
  ·subst q;rw [ga] at h2;cases h2
  ·subst q;rw [h2] at hb;cases hb
end
end Bm
namespace Bm
open PySem PySem.W PyProof.Rows PySem.SeqAt PySem.MeetsSeq
theorem idx_at {x:Str}:∀ {nm:List String} {i:Nat},idx x nm=some i→∃ n,nm[i]? = some n∧Str.ofString n=x
 | [],_,h=>nomatch h
 | n::r,i,h=>by
  unfold idx at h
  by_cases e:Str.ofString n=x
  ·rw [if_pos e] at h;cases h;exact⟨n,rfl,e⟩
  ·rw [if_neg e] at h
   cases hq:idx x r with
   | none=>rw [hq] at h;cases h
   | some j=>rw [hq] at h;cases h;obtain⟨n',a,b⟩:=idx_at (nm:=r) hq;exact⟨n',a,b⟩
theorem idx_inj {x y:Str} {nm:List String} {i:Nat} (h:idx x nm=some i) (h':idx y nm=some i):x=y:=by
 obtain⟨n,a,b⟩:=idx_at h
 obtain⟨m,c,d⟩:=idx_at h'
 rw [a] at c;cases c;rw [← b,← d]
theorem idx_lt {x:Str} {nm:List String} {i:Nat} (h:idx x nm=some i):i < nm.length:=by
 obtain⟨n,a,_⟩:=idx_at h
 exact(List.getElem?_eq_some_iff.mp a).1
theorem lset_length:∀ (ρ:List AV) (i:Nat) (v:AV),(lset ρ i v).length=ρ.length
 | [],_,_=>rfl
 | _::_,0,_=>rfl
 | _::r,i+1,v=>congrArg (· + 1) (lset_length r i v)
theorem lget_lset_eq:∀ {ρ:List AV} {i:Nat} {v:AV},i < ρ.length→lget (lset ρ i v) i=v
 | [],_,_,h=>absurd h (Nat.not_lt_zero _)
 | _::_,0,_,_=>rfl
 | _::r,i+1,v,h=>lget_lset_eq (ρ:=r) (Nat.lt_of_succ_lt_succ h)
theorem lget_lset_ne:∀ {ρ:List AV} {i j:Nat} {v:AV},j≠i→lget (lset ρ i v) j=lget ρ j
 | [],_,_,_,_=>rfl
 | _::_,0,0,_,h=>absurd rfl h
 | _::_,0,j+1,_,_=>rfl
 | _::_,i+1,0,_,_=>rfl
 | _::r,i+1,j+1,v,h=>lget_lset_ne (ρ:=r) (fun e=>h (by rw [e]))
theorem lookup_mem {α:Type} {x:Str} {a:α}:∀ {l:List (Str×α)},l.lookup x=some a→(x,a)∈l
 | [],e=>nomatch e
 | (y,b)::r,e=>by
  rw [List.lookup_cons] at e
  cases hxy:x == y with
  | true=>rw [hxy] at e;cases e;rw [eq_of_beq hxy];exact .head _
  | false=>rw [hxy] at e;exact .tail _ (lookup_mem e)
theorem StC.var {c:Cx} {G:Nat→Kd} {fr:List Env} {P:List (Addr×Obj)} {H:AHeap} {s:Shared} (S:StC c G fr P H s) {h':Heap} {tk:Nat} {a:Nat} (ga:G a=.var) (hs:Heap.SameBut a s.heap h')
  (he:∃ o,h'.get? a=some o) (hf:(∃ o,h'.get? a=some o∧∃ es n,o.data=.dict es n)∨∃ o,s.heap.get? a=some o∧∀ es n,o.data≠.dict es n):StC c G fr P H { s with heap:=h',toks:=tk }:=by
 have ne:∀ b,G b≠.var→b≠a:=fun b hb q=>hb (by rw [q,ga])
 refine⟨fun b o e=>⟨(S.keep b o e).1,(hs.2 b (ne b (by rw [(S.keep b o e).1];exact fun q=>nomatch q))).trans (S.keep b o e).2⟩,fun b hb=>if q:b=a then let ⟨o,e⟩:=he;⟨o,q ▸ e⟩ else let ⟨o,e⟩:=S.ex b hb;⟨o,(hs.2 b q).trans e⟩,fun b ao e=>?_,fun p hp=>?_,fun e he=>?_,S.gens,S.drawn,S.os⟩
 ·have:=S.hv b ao e
  refine⟨this.1,this.2.keep (fun b' o hb' ho=>(hs.2 b' (ne b' ?_)).trans ho) fun _ q=>q⟩
  rcases hb' with q | q
  ·rw [q,this.1];exact kd_ne (fun q=>nomatch q) (fun q=>nomatch q)
  ·rw [q];exact fun q=>nomatch q
 ·have:=S.pv p hp
  exact⟨this.1,this.2.keep fun o ho=>(hs.2 _ (ne _ (by rw [this.1];exact fun q=>nomatch q))).trans ho⟩
 ·obtain⟨h1,L,o,h2,h3,h4,h5⟩:=S.frs e he
  by_cases q:L=a
  ·rcases hf with ⟨o',o1,o2⟩ | ⟨o',o1,o2⟩
   ·exact⟨h1,L,o',h2,h3,by rw [q];exact o1,o2⟩
   ·rw [q,o1] at h4;cases h4
    obtain⟨es,n,h5⟩:=h5
    exact absurd h5 (o2 es n)
  ·exact⟨h1,L,o,h2,h3,(hs.2 L q).trans h4,h5⟩
section
variable {k:Kx} {ρ:List AV} {H:AHeap} {s:Shared} {Q X:EQ} {E:Value→Shared→Prop} {A:Around} {K:Frag}
theorem p_storeN {x:Str} {i:Nat} {v:Value} {av:AV} {Q:Unit→Shared→Prop} (hi:idx x k.nm=some i) (hx:∃ n∈k.ws,Str.ofString n=x) (hv:VR v av) (S:k.St ρ H s) (h:∀ s',k.St (lset ρ i av) H s'→Q () s') :
  wpAny (model k.c.prog k.c.w) A (storeName k.env x v) Q E s:=by
 obtain⟨G,S1,V⟩:=S
 obtain⟨n,hn,rfl⟩:=hx
 have hlt:i < ρ.length:=by rw [V.len];exact idx_lt hi
 obtain⟨m,hm⟩:=V.ns
 have vals:∀ (h':Heap),(∀ y w,y≠Str.ofString n→Reads G k.P k.env s.heap y w→Reads G k.P k.env h' y w)→Reads G k.P k.env h' (Str.ofString n) v →
   ∀ y j,idx y k.nm=some j→okKind (k.env.kindOf y)=true→lget (lset ρ i av) j≠.undef→∃ w,Reads G k.P k.env h' y w∧VR w (lget (lset ρ i av) j):=by
  intro h' hk hr y j hj hok hu
  by_cases e:j=i
  ·subst e
   rw [idx_inj hj hi,lget_lset_eq hlt]
   exact⟨v,hr,hv⟩
  ·rw [lget_lset_ne e] at hu ⊢
   obtain⟨w,w1,w2⟩:=V.reads y j hj hok hu
   exact⟨w,hk y w (fun q=>e (by rw [q] at hj;rw [hi] at hj;cases hj;rfl)) w1,w2⟩
 rcases V.stores n hn with h1 | ⟨h1,ca,h2,h3⟩
 ·refine wpAny_storeName_local h1 hm (fun h' hn' hs=>h _ ⟨G,S1.var V.loc hs ?_ ?_,?_⟩) (by rw [V.fn];rfl)
  ·obtain⟨o,es,ep,ho,hd,_⟩:=hn'
   exact⟨o,ho⟩
  ·obtain⟨o,es,ep,ho,hd,_⟩:=hn'
   exact .inl ⟨o,ho,es,ep,hd⟩
  ·have cell:∀ ca v,s.heap.IsCell ca v→h'.IsCell ca v:=fun ca v ⟨o,ho,hd⟩=>by
    refine⟨o,(hs.2 ca fun q=>?_).trans ho,hd⟩
    obtain⟨o',es,ep,ho',hd',_⟩:=hm
    rw [q,ho'] at ho;cases ho;rw [hd] at hd';cases hd'
   refine⟨V.fn,V.gl,V.bi,V.loc,⟨_,hn'⟩,vals h' (fun y w hy hr=>?_) (.inl ⟨h1,_,hn',if_pos rfl⟩),V.stores,fun y cb e q=>?_,V.inj,by rw [lset_length];exact V.len,V.inP,V.has⟩
   ·rcases hr with ⟨r1,m',r2,r3⟩ | ⟨cb,r1,r2,⟨r3,r4⟩ | r3⟩
    ·refine .inl ⟨r1,_,hn',?_⟩
     rw [if_neg hy]
     obtain⟨o,es,ep,ho,hd,_,hf⟩:=hm
     obtain⟨o',es',ep',ho',hd',_,hf'⟩:=r2
     rw [ho] at ho';cases ho';rw [hd] at hd';cases hd'
     rw [← hf,hf',r3]
    ·exact .inr ⟨cb,r1,r2,.inl ⟨r3,cell _ _ r4⟩⟩
    ·exact .inr ⟨cb,r1,r2,.inr r3⟩
   ·obtain⟨v₀,hv₀⟩:=V.cells y cb e q
    exact⟨v₀,cell _ _ hv₀⟩
 ·obtain⟨v₀,hv₀⟩:=V.cells _ ca h2 h3
  refine wpAny_storeName_cell V.fn h1 h2 hv₀ fun h' hc hs=>h _ ⟨G,S1.var (tk:=s.toks) h3 hs ?_ ?_,?_⟩
  ·obtain⟨o,ho,hd⟩:=hc
   exact⟨o,ho⟩
  ·obtain⟨o,ho,hd⟩:=hv₀
   exact .inr ⟨o,ho,fun es n q=>by rw [hd] at q;cases q⟩
  ·have hL:k.env.locals≠ca:=fun q=>by
    obtain⟨o',es,ep,ho',hd',_⟩:=hm
    obtain⟨o,ho,hd⟩:=hv₀
    rw [q] at ho';rw [ho] at ho';cases ho';rw [hd] at hd';cases hd'
   refine⟨V.fn,V.gl,V.bi,V.loc,⟨m,hm.sameBut hs hL⟩,vals h' (fun y w hy hr=>?_) (.inr ⟨ca,.inl h1,h2,.inl ⟨h3,hc⟩⟩),V.stores,fun y cb e q=>?_,V.inj,by rw [lset_length];exact V.len,V.inP,V.has⟩
   ·rcases hr with ⟨r1,m',r2,r3⟩ | ⟨cb,r1,r2,⟨r3,r4⟩ | r3⟩
    ·exact .inl ⟨r1,m',r2.sameBut hs hL,r3⟩
    ·exact .inr ⟨cb,r1,r2,.inl ⟨r3,r4.sameBut hs fun q=>hy (V.inj _ _ cb r2 (q ▸ h2))⟩⟩
    ·exact .inr ⟨cb,r1,r2,.inr r3⟩
   ·by_cases z:cb=ca
    ·subst z;exact⟨_,hc⟩
    ·obtain⟨v₁,hv₁⟩:=V.cells y cb e q
     exact⟨v₁,hv₁.sameBut hs z⟩
theorem p_store {x:Str} {i:Nat} {v:Value} {av:AV} {Q:Unit→Shared→Prop} (hi:idx x k.nm=some i) (hx:∃ n∈k.ws,Str.ofString n=x) (hv:VR v av) (S:k.St ρ H s) (h:∀ s',k.St (lset ρ i av) H s'→Q () s') :
  wpAny (model k.c.prog k.c.w) A (bindName k.env x v) Q E s:=wpAny_bindName (p_storeN hi hx hv S h)
theorem p_unbind {x:Str} {i:Nat} {Q:Unit→Shared→Prop} (hi:idx x k.nm=some i) (hl:k.env.kindOf x=some .local) (hu:lget ρ i≠.undef) (S:k.St ρ H s) (h:∀ s',k.St (lset ρ i .undef) H s'→Q () s') :
  wpAny (model k.c.prog k.c.w) A (unbindName k.env x) Q E s:=by
 obtain⟨G,S1,V⟩:=S
 have hlt:i < ρ.length:=by rw [V.len];exact idx_lt hi
 obtain⟨v,hr,hv⟩:=V.reads x i hi (by rw [hl];rfl) hu
 rcases hr with ⟨_,m,hm,hmv⟩ | ⟨ca,h1 | h1,_⟩
 rotate_left
 ·rw [hl] at h1;cases h1
 ·rw [hl] at h1;cases h1
 refine wpAny_unbindName_local hl hm hmv (by rw [V.fn];rfl) fun h' u hn' hs=>h _ ⟨G,S1.var (tk:=s.toks) V.loc hs ?_ ?_,?_⟩
 ·obtain⟨o,es,ep,ho,hd,_⟩:=hn'
  exact⟨o,ho⟩
 ·obtain⟨o,es,ep,ho,hd,_⟩:=hn'
  exact .inl ⟨o,ho,es,ep,hd⟩
 ·have cell:∀ ca v,s.heap.IsCell ca v→h'.IsCell ca v:=fun ca v ⟨o,ho,hd⟩=>by
   refine⟨o,(hs.2 ca fun q=>?_).trans ho,hd⟩
   obtain⟨o',es,ep,ho',hd',_⟩:=hm
   rw [q,ho'] at ho;cases ho;rw [hd] at hd';cases hd'
  refine⟨V.fn,V.gl,V.bi,V.loc,⟨_,hn'⟩,fun y j hj hok hu'=>?_,V.stores,fun y cb e q=>?_,V.inj,by rw [lset_length];exact V.len,V.inP,V.has⟩
  ·by_cases e:j=i
   ·subst e;rw [lget_lset_eq hlt] at hu';exact absurd rfl hu'
   ·rw [lget_lset_ne e] at hu' ⊢
    obtain⟨w,w1,w2⟩:=V.reads y j hj hok hu'
    refine⟨w,?_,w2⟩
    rcases w1 with ⟨r1,m',r2,r3⟩ | ⟨cb,r1,r2,⟨r3,r4⟩ | r3⟩
    ·refine .inl ⟨r1,_,hn',?_⟩
     rw [if_neg (fun q=>e (by rw [q] at hj;rw [hi] at hj;cases hj;rfl))]
     obtain⟨o,es,ep,ho,hd,_,hf⟩:=hm
     obtain⟨o',es',ep',ho',hd',_,hf'⟩:=r2
     rw [ho] at ho';cases ho';rw [hd] at hd';cases hd'
     rw [← hf,hf',r3]
    ·exact .inr ⟨cb,r1,r2,.inl ⟨r3,cell _ _ r4⟩⟩
    ·exact .inr ⟨cb,r1,r2,.inr r3⟩
  ·obtain⟨v₀,hv₀⟩:=V.cells y cb e q
   exact⟨v₀,cell _ _ hv₀⟩
def isVar:Kd→Bool
 | .var=>true
 | _=>false
theorem isVar_iff {x:Kd}:isVar x=true↔x=.var:=by cases x <;> simp [isVar]
def stor (G:Nat→Kd) (env:Env) (h:Heap):List Addr:=env.locals::(env.cells.map (·.2)).filter fun a=>isVar (G a)&&(h.get? a).isSome
def storO (G:Nat→Kd) (env:Env) (h:Heap):List (Addr×Obj):=(stor G env h).filterMap fun a=>(h.get? a).map (a,·)
def putBy (G:Nat→Kd):Nat→Kd:=fun a=>if isVar (G a)=true then .prot else G a
def takeUp (st:List Addr) (G:Nat→Kd):Nat→Kd:=fun a=>if a∈st then .var else G a
theorem putBy_ne {G:Nat→Kd} {a:Nat} (h:G a≠.var):putBy G a=G a:=by unfold putBy;rw [if_neg (fun q=>h (isVar_iff.mp q))]
theorem putBy_var {G:Nat→Kd} {a:Nat} (h:G a=.var):putBy G a=.prot:=by unfold putBy;rw [if_pos (isVar_iff.mpr h)]
theorem St_putBy {G:Nat→Kd} (S:StC k.c G k.fr k.P H s) (V:Vr G k.P k.env k.nm k.ws ρ s.heap):StC k.c (putBy G) k.fr (storO G k.env s.heap++k.P) H s:=by
 have sv:∀ a∈stor G k.env s.heap,G a=.var:=by
  intro a ha
  rcases List.mem_cons.mp ha with rfl | ha
  ·exact V.loc
  ·exact isVar_iff.mp (Bool.and_eq_true_iff.mp (List.mem_filter.mp ha).2).1
 refine⟨fun b o e=>⟨(putBy_ne (by rw [(S.keep b o e).1];exact fun q=>nomatch q)).trans (S.keep b o e).1,(S.keep b o e).2⟩,fun a ha=>S.ex a fun q=>ha ((putBy_ne (by rw [q];exact fun q=>nomatch q)).trans q),fun a ao e=>?_,fun p hp=>?_,fun e he=>?_,S.gens,S.drawn,S.os⟩
 ·have:=S.hv a ao e
  exact⟨(putBy_ne (by rw [this.1];exact kd_ne (fun q=>nomatch q) (fun q=>nomatch q))).trans this.1,this.2.keep (fun _ _ _ e=>e) fun b q=>(putBy_ne (by rw [q];exact fun q=>nomatch q)).trans q⟩
 ·rcases List.mem_append.mp hp with hp | hp
  ·obtain⟨a,ha,e⟩:=List.mem_filterMap.mp hp
   cases hq:s.heap.get? a with
   | none=>rw [hq] at e;cases e
   | some o=>rw [hq] at e;cases e;exact⟨putBy_var (sv a ha),.inl hq⟩
  ·have:=S.pv p hp
   exact⟨(putBy_ne (by rw [this.1];exact fun q=>nomatch q)).trans this.1,this.2⟩
 ·obtain⟨h1,L,o,h2,h3,h4,h5⟩:=S.frs e he
  refine⟨h1,L,o,h2,.inl ?_,h4,h5⟩
  rcases h3 with q | q
  ·exact(putBy_ne (by rw [q];exact fun q=>nomatch q)).trans q
  ·exact putBy_var q
theorem St_takeUp' {G G':Nat→Kd} {H':AHeap} {s':Shared} {P':List (Addr×Obj)} (V:Vr G k.P k.env k.nm k.ws ρ s.heap) (nv:∀ a,G' a≠.var) (S':StC k.c G' k.fr (storO G k.env s.heap++P') H' s')
  (hP:∀ p∈P',p.1∉stor G k.env s.heap) (hc:∀ c o v,(c,o)∈k.P→o.data=.cell v→(c,o)∈P') :
  StC k.c (takeUp (stor G k.env s.heap) G') k.fr P' H' s'∧Vr (takeUp (stor G k.env s.heap) G') P' k.env k.nm k.ws ρ s'.heap:=by
 have sv:∀ a∈stor G k.env s.heap,G a=.var:=by
  intro a ha
  rcases List.mem_cons.mp ha with rfl | ha
  ·exact V.loc
  ·exact isVar_iff.mp (Bool.and_eq_true_iff.mp (List.mem_filter.mp ha).2).1
 have inP:∀ a∈stor G k.env s.heap,∀ o,s.heap.get? a=some o→(a,o)∈storO G k.env s.heap++P':=fun a ha o ho=>List.mem_append_left _ (List.mem_filterMap.mpr ⟨a,ha,by rw [ho];rfl⟩)
 have locIn:k.env.locals∈stor G k.env s.heap:=.head _
 have cellIn:∀ x ca,k.env.cells.lookup x=some ca→G ca=.var→ca∈stor G k.env s.heap:=fun x ca e q=>by
  have:=lookup_mem e
  obtain⟨v₀,o,ho,_⟩:=V.cells x ca e q
  refine .tail _ (List.mem_filter.mpr ⟨?_,by rw [isVar_iff.mpr q,ho];rfl⟩)
  exact List.mem_map.mpr ⟨_,this,rfl⟩
 have obj:∀ a∈stor G k.env s.heap,∃ o,s.heap.get? a=some o:=by
  intro a ha
  rcases List.mem_cons.mp ha with rfl | ha
  ·obtain⟨m,o,_,_,ho,_⟩:=V.ns;exact⟨o,ho⟩
  ·exact Option.isSome_iff_exists.mp (Bool.and_eq_true_iff.mp (List.mem_filter.mp ha).2).2
 have prot:∀ a∈stor G k.env s.heap,G' a=.prot:=fun a ha=>by
  obtain⟨o,ho⟩:=obj a ha
  exact(S'.pv _ (inP a ha o ho)).1
 have tu_ne:∀ a,a∉stor G k.env s.heap→takeUp (stor G k.env s.heap) G' a=G' a:=fun a h=>by unfold takeUp;rw [if_neg h]
 have tu_in:∀ a,a∈stor G k.env s.heap→takeUp (stor G k.env s.heap) G' a=.var:=fun a h=>by unfold takeUp;rw [if_pos h]
 have notin:∀ a x,G' a=x→x≠.prot→a∉stor G k.env s.heap:=fun a x e n h=>n (by rw [← e,prot a h])
 have ns':∀ m,s.heap.Ns k.env.locals m→s'.heap.Ns k.env.locals m:=fun m ⟨o,es,ep,ho,hd,r⟩=>by
  rcases(S'.pv _ (inP _ locIn o ho)).2 with z | ⟨_,sl,z⟩
  ·exact⟨o,es,ep,z,hd,r⟩
  ·exact⟨_,es,ep,z,hd,r⟩
 have cell':∀ x ca,k.env.cells.lookup x=some ca→G ca=.var→∀ v,s.heap.IsCell ca v→s'.heap.IsCell ca v:=fun x ca e q v ⟨o,ho,hd⟩=>by
  rcases(S'.pv _ (inP _ (cellIn x ca e q) o ho)).2 with z | ⟨⟨_,es,n,w⟩,sl,z⟩
  ·exact⟨o,z,hd⟩
  ·rw [hd] at w;cases w
 refine⟨⟨fun b o e=>⟨(tu_ne b (notin b _ (S'.keep b o e).1 fun q=>nomatch q)).trans (S'.keep b o e).1,(S'.keep b o e).2⟩,fun a ha=>?_,fun a ao e=>?_,fun p hp=>?_,fun e he=>?_,S'.gens,S'.drawn,S'.os⟩,?_⟩
 ·by_cases q:a∈stor G k.env s.heap
  ·exact S'.ex a (by rw [prot a q];exact fun q=>nomatch q)
  ·rw [tu_ne a q] at ha;exact S'.ex a ha
 ·have:=S'.hv a ao e
  exact⟨(tu_ne a (notin a _ this.1 (kd_ne (fun q=>nomatch q) (fun q=>nomatch q)))).trans this.1,this.2.keep (fun _ _ _ e=>e) fun b q=>(tu_ne b (notin b _ q fun q=>nomatch q)).trans q⟩
 ·have:=S'.pv p (List.mem_append_right _ hp)
  exact⟨(tu_ne _ (hP p hp)).trans this.1,this.2⟩
 ·obtain⟨h1,L,o,h2,h3,h4,h5⟩:=S'.frs e he
  refine⟨h1,L,o,h2,?_,h4,h5⟩
  by_cases q:L∈stor G k.env s.heap
  ·exact .inr (tu_in L q)
  ·rw [tu_ne L q];exact h3
 ·refine⟨V.fn,V.gl,V.bi,tu_in _ locIn,V.ns.imp ns',fun x i e hk n=>?_,fun x hx=>?_,fun x ca e q=>?_,V.inj,V.len,fun x ca e=>(V.inP x ca e).imp (fun q=>tu_in _ (cellIn x ca e q)) fun⟨o,v,h1,h2⟩=>⟨o,v,hc _ _ _ h1 h2,h2⟩,V.has⟩
  ·obtain⟨v,hr,hv⟩:=V.reads x i e hk n
   refine⟨v,?_,hv⟩
   rcases hr with ⟨h1,m,h2,h3⟩ | ⟨ca,h1,h2,⟨h3,h4⟩ | h3⟩
   ·exact .inl ⟨h1,m,ns' m h2,h3⟩
   ·exact .inr ⟨ca,h1,h2,.inl ⟨tu_in _ (cellIn x ca h2 h3),cell' x ca h2 h3 _ h4⟩⟩
   ·obtain⟨o,h3,h4⟩:=h3
    exact .inr ⟨ca,h1,h2,.inr ⟨o,hc _ _ _ h3 h4,h4⟩⟩
  ·rcases V.stores x hx with h1 | ⟨h1,ca,h2,h3⟩
   ·exact .inl h1
   ·exact .inr ⟨h1,ca,h2,tu_in _ (cellIn _ ca h2 h3)⟩
  ·by_cases z:G ca=.var
   ·obtain⟨v₀,hv₀⟩:=V.cells x ca e z
    exact⟨v₀,cell' x ca e z _ hv₀⟩
   ·exfalso
    by_cases w:ca∈stor G k.env s.heap
    ·exact z (sv ca w)
    ·rw [tu_ne ca w] at q;exact nv ca q
theorem stor_var {G:Nat→Kd} {h:Heap} (V:Vr G k.P k.env k.nm k.ws ρ h):∀ a∈stor G k.env h,G a=.var:=by
 intro a ha
 rcases List.mem_cons.mp ha with rfl | ha
 ·exact V.loc
 ·exact isVar_iff.mp (Bool.and_eq_true_iff.mp (List.mem_filter.mp ha).2).1
theorem stor_obj {G:Nat→Kd} {h:Heap} (V:Vr G k.P k.env k.nm k.ws ρ h):∀ a∈stor G k.env h,∃ o,h.get? a=some o:=by
 intro a ha
 rcases List.mem_cons.mp ha with rfl | ha
 ·obtain⟨m,o,_,_,ho,_⟩:=V.ns;exact⟨o,ho⟩
 ·exact Option.isSome_iff_exists.mp (Bool.and_eq_true_iff.mp (List.mem_filter.mp ha).2).2
theorem stor_cell {G:Nat→Kd} {h:Heap} (V:Vr G k.P k.env k.nm k.ws ρ h) {x:Str} {ca:Nat} (e:k.env.cells.lookup x=some ca) (q:G ca=.var):ca∈stor G k.env h:=by
 have:=lookup_mem e
 obtain⟨v₀,o,ho,_⟩:=V.cells x ca e q
 refine .tail _ (List.mem_filter.mpr ⟨?_,by rw [isVar_iff.mpr q,ho];rfl⟩)
 exact List.mem_map.mpr ⟨_,this,rfl⟩
theorem storO_mem {G:Nat→Kd} {h:Heap} {a:Nat} {o:Obj} (ha:a∈stor G k.env h) (ho:h.get? a=some o):(a,o)∈storO G k.env h:=List.mem_filterMap.mpr ⟨a,ha,by rw [ho];rfl⟩
theorem storO_at {G:Nat→Kd} {h:Heap} {p:Addr×Obj} (hp:p∈storO G k.env h):p.1∈stor G k.env h∧h.get? p.1=some p.2:=by
 obtain⟨a,ha,e⟩:=List.mem_filterMap.mp hp
 cases hq:h.get? a with
 | none=>rw [hq] at e;cases e
 | some o=>rw [hq] at e;cases e;exact⟨ha,hq⟩
theorem St_takeUp {G G':Nat→Kd} {H':AHeap} {s':Shared} (S:StC k.c G k.fr k.P H s) (V:Vr G k.P k.env k.nm k.ws ρ s.heap) (nv:∀ a,G' a≠.var) (S':StC k.c G' k.fr (storO G k.env s.heap++k.P) H' s') :
  StC k.c (takeUp (stor G k.env s.heap) G') k.fr k.P H' s'∧Vr (takeUp (stor G k.env s.heap) G') k.P k.env k.nm k.ws ρ s'.heap :=
 St_takeUp' V nv S' (fun p hp q=>by have:=stor_var V _ q;rw [(S.pv p hp).1] at this;cases this) fun _ _ _ h _=>h
end
end Bm
namespace Bm
open PySem PySem.W PyProof.Rows PySem.SeqAt PySem.MeetsSeq
structure Kx.Ok (k:Kx) (K:Frag):Prop where
 F:Fa k.c k.T K
 room:k.A.depth+3*k.n+2≤900∧k.A.units+20*k.n+17≤9000
 frames:k.A.frames=some k.fr
 hand:k.hd=false→k.A.handled=none
 calls:CallOk k.c k.call k.n k.hd
section
variable {k:Kx} {ρ:List AV} {H:AHeap} {s:Shared} {Q X:EQ} {E:Value→Shared→Prop} {A:Around} {K:Frag}
theorem putBy_noVar (G:Nat→Kd):∀ a,putBy G a≠.var:=fun a q=>by
 by_cases h:G a=.var
 ·rw [putBy_var h] at q;cases q
 ·rw [putBy_ne h] at q;exact h q
theorem St_back {G G':Nat→Kd} {H':AHeap} {s':Shared} (S:StC k.c G k.fr k.P H s) (V:Vr G k.P k.env k.nm k.ws ρ s.heap) {r:Result} (h:RP k.c k.fr (storO G k.env s.heap++k.P) Q X r s') :
  match r with | .ok (.ret v)=>k.RE ρ Q v s' | .ok _=>False | .error e=>k.XE ρ X e s':=by
 rcases r with e | (v | _ | _ | v) <;> first | exact h | skip
 ·obtain⟨G',ea,n,H',nv,rfl,S',⟨f1,f2,oe,vs,dx,m',f3,f4,f5,f6,f7,f8,f9,f10,f11⟩,hx⟩:=h
  obtain⟨S2,V2⟩:=St_takeUp S V nv S'
  have tu:∀ a x,G' a=x→x≠.prot→takeUp (stor G k.env s.heap) G' a=x:=fun a x e n=>by
   unfold takeUp
   rw [if_neg,e]
   intro ha
   have sv:G a=.var:=by
    rcases List.mem_cons.mp ha with rfl | ha
    ·exact V.loc
    ·exact isVar_iff.mp (Bool.and_eq_true_iff.mp (List.mem_filter.mp ha).2).1
   have ob:∃ o,s.heap.get? a=some o:=by
    rcases List.mem_cons.mp ha with rfl | ha
    ·obtain⟨m,o,_,_,ho,_⟩:=V.ns;exact⟨o,ho⟩
    ·exact Option.isSome_iff_exists.mp (Bool.and_eq_true_iff.mp (List.mem_filter.mp ha).2).2
   obtain⟨o,ho⟩:=ob
   exact n (by rw [← e];exact(S'.pv _ (List.mem_append_left _ (List.mem_filterMap.mpr ⟨a,ha,by rw [ho];rfl⟩))).1)
  obtain⟨T,oT,ts,t1,t2,t3,t4,t5,t6⟩:=f8
  exact⟨_,ea,n,H',.fly,rfl,S2,V2,⟨tu _ _ f1 (fun q=>nomatch q),f2,oe,vs,dx,m',f3,f4,f5,f6,f7,⟨T,oT,ts,t1,tu _ _ t2 (fun q=>nomatch q),t3,t4,t5,t6⟩,tu _ _ f9 (fun q=>nomatch q),f10,f11⟩,(fun L e=>nomatch e),hx⟩
 ·obtain⟨G',av,H',nv,hv,S',hq⟩:=h
  obtain⟨S2,V2⟩:=St_takeUp S V nv S'
  exact⟨av,H',hv,⟨_,S2,V2⟩,hq⟩
theorem p_callf (O:k.Ok K) {f:Nat} {vs:List Value} {xs:List AV} (hv:L2 VR vs xs) (S:k.St ρ H s) (h:k.call f xs H Q X):wpAny (model k.c.prog k.c.w) k.A (call (.ref f) vs []) (k.RE ρ Q) (k.XE ρ X) s:=by
 obtain⟨G,S1,V⟩:=S
 refine wpAny_call (codeAny_mono (O.calls f xs H Q X h k.A k.fr _ _ s vs (putBy_noVar G) hv (St_putBy S1 V) ⟨by have:=O.room.1;omega,by have:=O.room.2;omega⟩ O.frames O.hand) fun r s' hr=>?_)
 have:=St_back (G':=G) (H':=H) S1 V hr
 rcases r with e | (v | _ | _ | v) <;> exact this
theorem gset2 {G:Nat→Kd} {a b:Nat} {x y:Kd} (h:b≠a):gset (gset G a x) b y a=x:=by rw [gset_ne (Ne.symm h),gset_eq]
theorem p_new (O:k.Ok K) {C f:Nat} {vs:List Value} {xs:List AV} (hi:k.T.ini C=some f) (hv:L2 VR vs xs) (S:k.St ρ H s)
  (h:∀ a,H a=none→k.call f (.ref a::xs) (upd H a (.obj C [])) (fun v H'=>(match v with | .none=>Q (.ref a) H' | _=>False)) X) :
  wpAny (model k.c.prog k.c.w) k.A (call (.ref C) vs []) (k.RE ρ Q) (k.XE ρ X) s:=by
 obtain⟨G,S1,V⟩:=S
 obtain⟨_,i1,i2,i3⟩:=O.F.ini C f hi
 have XK:=keepK O.F S1
 have f0:=S1.freeAt
 have S2:=(S1.garbage emptyDict s.toks).garbage (instObj C s.heap.objs.size) s.toks
 have sz:((s.heap.push emptyDict).push (instObj C s.heap.objs.size)).objs.size=s.heap.objs.size+2:=by rw [Heap.size_push,Heap.size_push]
 have free1:G (s.heap.objs.size+1)=.free:=by
  cases hq:G (s.heap.objs.size+1) with
  | free=>rfl
  | _=>exact absurd (S1.lt _ (by rw [hq];exact fun e=>nomatch e)) (by omega)
 let G':Nat→Kd:=gset (gset G s.heap.objs.size (.dic (s.heap.objs.size+1))) (s.heap.objs.size+1) .obj
 have g0:G' s.heap.objs.size=.dic (s.heap.objs.size+1):=gset2 (by omega)
 have g1:G' (s.heap.objs.size+1)=.obj:=gset_eq
 have gk:∀ a,G a≠.free→G' a=G a:=fun a ha=>by
  show gset _ _ _ a=_
  rw [gset_ne (fun q=>ha (by rw [q,free1])),gset_ne (fun q=>ha (by rw [q,f0]))]
 have d0:((s.heap.push emptyDict).push (instObj C s.heap.objs.size)).get? s.heap.objs.size=some emptyDict:=Heap.get?_push_of_some _ (Heap.get?_push_size _ rfl)
 have d1:((s.heap.push emptyDict).push (instObj C s.heap.objs.size)).get? (s.heap.objs.size+1)=some (instObj C s.heap.objs.size):=by
  have:=Heap.get?_push_size (s.heap.push emptyDict) (o:=instObj C s.heap.objs.size) rfl
  rw [Heap.size_push] at this;exact this
 have S3:=S2.rekind (G':=G') gk fun a ha=>by
  by_cases q:a=s.heap.objs.size+1
  ·rw [q];exact⟨_,d1⟩
  ·by_cases q':a=s.heap.objs.size
   ·rw [q'];exact⟨_,d0⟩
   ·have e:G' a=G a:=by show gset _ _ _ a=_;rw [gset_ne q,gset_ne q']
    rw [e] at ha
    obtain⟨o,ho⟩:=S1.ex a ha
    exact⟨o,Heap.get?_push_of_some _ (Heap.get?_push_of_some _ ho)⟩
 have hn1:H (s.heap.objs.size+1)=none:=by
  cases hq:H (s.heap.objs.size+1) with
  | none=>rfl
  | some ao=>have:=(S1.hv _ _ hq).1;rw [free1] at this;exact absurd this.symm (kd_ne (fun q=>nomatch q) (fun q=>nomatch q))
 have S4:StC k.c G' k.fr k.P (upd H (s.heap.objs.size+1) (.obj C [])) { s with heap:=(s.heap.push emptyDict).push (instObj C s.heap.objs.size) }:=by
  refine⟨S3.keep,S3.ex,fun a ao e=>?_,S3.pv,S3.frs,S3.gens,S3.drawn,S3.os⟩
  unfold upd at e
  split at e
  ·rename_i q;subst q;cases e;exact⟨g1,_,[],0,d1,g0,d0,.nil⟩
  ·exact S3.hv a ao e
 have V4:Vr G' k.P k.env k.nm k.ws ρ ((s.heap.push emptyDict).push (instObj C s.heap.objs.size)):=by
  refine V.step (fun a e=>(gk a (by rw [e];exact fun q=>nomatch q)).trans e) (fun x ca _ e=>?_) (fun a o _ e=>Heap.get?_push_of_some _ (Heap.get?_push_of_some _ e))
  by_cases q:G ca=.free
  ·by_cases q1:ca=s.heap.objs.size+1
   ·rw [q1,g1] at e;cases e
   ·by_cases q2:ca=s.heap.objs.size
    ·rw [q2,g0] at e;cases e
    ·have:G' ca=G ca:=by show gset _ _ _ ca=_;rw [gset_ne q1,gset_ne q2]
     rw [this,q] at e;cases e
  ·rw [gk ca q] at e;exact e
 obtain⟨hp,gg,dd,tt,os⟩:=s
 refine wpAny_call (make_core (makes_of XK i1) (looks_findIn XK i2) (fun self=>bind_fn XK self i3) (.inl rfl) ?_)
 have key:=O.calls f (.ref (hp.objs.size+1)::xs) _ _ _ (h _ hn1) (k.A.under (.builtin "type.__call__" ⟨.ref C::vs,[]⟩)) k.fr _ _ _ (.ref (hp.objs.size+1)::vs) (putBy_noVar _) (.cons (.ref _) hv) (St_putBy S4 V4)
  ⟨by have:=O.room.1;have e:=depth_under_kw k.A C vs [];omega,by have:=O.room.2;have e:(k.A.under (.builtin "type.__call__" ⟨.ref C::vs,[]⟩)).units=k.A.units+1:=rfl;omega⟩ (by show pushEnvs [] k.A.frames=_;exact O.frames) O.hand
 refine codeAny_mono key fun r s' hr=>?_
 have back:=St_back (G':=G) (H':=H) S4 V4 hr
 rcases r with e | (v | _ | _ | v) <;> first | exact back | skip
 obtain⟨av,H',hv',St',hq⟩:=back
 cases hv' <;> first | exact hq.elim | skip
 exact⟨rfl,_,H',.ref _,St',hq⟩
end
end Bm
namespace Bm
open PySem PySem.W PyProof.Rows PySem.SeqAt PySem.MeetsSeq
section
variable {k:Kx} {ρ:List AV} {H:AHeap} {s:Shared} {Q X:EQ} {E:Value→Shared→Prop} {A:Around} {K:Frag}
theorem starEach_cons {e:Expr} {r:List Expr} {env:Env} (h:isStar e=false):starEach (e::r) env=(false,eval e env)::starEach r env:=by
 cases e <;> first | rfl | (cases h)
theorem backTo_cons {pos:Pos} {t:Sem Value} {l:List (Bool×Sem Value)}:backTo pos ((false,t)::l)=(false,t)::backTo pos l:=rfl
theorem plain_any:∀ {es:List Expr} {pos:Pos} {env:Env},es.all (fun e=>!isStar e)=true→(backTo pos (starEach es env)).any (·.1)=false
 | [],_,_,_=>rfl
 | e::r,pos,env,h=>by
  rw [List.all_cons,Bool.and_eq_true] at h
  rw [starEach_cons (by simpa using h.1),backTo_cons,List.any_cons,plain_any h.2];rfl
theorem evalArgs_any {M:Model} {f:Value} {es:List Expr} {pos:Pos} {env:Env} {Q:Args→Shared→Prop} (hs:es.all (fun e=>!isStar e)=true)
  (h:wpAny M A (spliced (backTo pos (starEach es env))) (fun vs s'=>Q ⟨vs,[]⟩ s') E s):wpAny M A (evalArgs f true (backTo pos (starEach es env)) []) Q E s:=by
 cases es with
 | nil =>
  unfold evalArgs
  show wpAny M A (spliced [] >>= _) Q E s
  refine wpAny_bind (wpAny_mono h (fun vs s' h'=>?_) fun _ _ x=>x)
  refine wpAny_bind (wpAny_pure ?_)
  refine wpAny_holding ?_
  exact wpAny_bind (wpAny_pure (wpAny_bind (wpAny_pure (wpAny_pure h'))))
 | cons e r =>
  rw [List.all_cons,Bool.and_eq_true] at hs
  rw [starEach_cons (by simpa using hs.1),backTo_cons] at h ⊢
  exact Calls.evalArgs_plain h
theorem with_K {M:Model} {f:Value} {first:List Value} {es:List Expr} {pos:Pos} {env:Env} {Q:Value→Shared→Prop} (hk:keepIn K f=true) (hs:es.all (fun e=>!isStar e)=true)
  (h:wpAny M A (spliced (backTo pos (starEach es env))) (fun vs s'=>K.In s'.heap∧wpAny M A (call f (first++vs) []) Q E s') E s):wpAny M A (callWith pos f first (backTo pos (starEach es env)) []) Q E s :=
 callWith_of (P:=K.In) (by rw [plain_any hs];rfl) (keeps_K hk) (evalArgs_any hs h)
theorem with_B {M:Model} {id:String} {first:List Value} {es:List Expr} {pos:Pos} {env:Env} {Q:Value→Shared→Prop} (hs:es.all (fun e=>!isStar e)=true)
  (h:wpAny M A (spliced (backTo pos (starEach es env))) (fun vs s'=>wpAny M A (call (.builtin id) (first++vs) []) Q E s') E s):wpAny M A (callWith pos (.builtin id) first (backTo pos (starEach es env)) []) Q E s :=
 Calls.callWith_builtin (plain_any hs) (evalArgs_any hs h)
theorem with_T {M:Model} {T:String} {first:List Value} {es:List Expr} {pos:Pos} {env:Env} {Q:Value→Shared→Prop} (hs:es.all (fun e=>!isStar e)=true)
  (h:wpAny M A (spliced (backTo pos (starEach es env))) (fun vs s'=>wpAny M A (call (.type T) (first++vs) []) Q E s') E s):wpAny M A (callWith pos (.type T) first (backTo pos (starEach es env)) []) Q E s :=
 PyProof.Rows.callWith_type (plain_any hs) (evalArgs_any hs h)
theorem bare_base {o:Expr} {x:Str} {env:Env} {t:Sem Value} (hb:bare o=false):attributeBase o x env t=t:=by
 unfold attributeBase
 split
 ·cases hb
 ·rfl
theorem eval_meth {o:Expr} {x:Str} {apos pos:Pos} {args:List Expr} {env:Env} (hb:bare o=false) (hs:args.all (fun e=>!isStar e)=true) (hl:args.length < 20) (hp:apos.endLine=pos.line) :
  eval (.Call (.Attribute o x apos) args [] pos) env=(do
   let ov ← eval o env
   standAt apos.atName
   let fx ← holding [ov] (getMethod ov x (do return (← importBound o env).getD true))
   let p ← (pure pos:Sem Pos)
   callWith p fx.1 fx.2 (backTo pos (starEach args env)) []):=by
 rw [arm_eval_Call,bare_base hb]
 have few:methodCallForm (args.length+([]:List Keyword).length) (backTo pos (starEach args env)) (backToKw pos (keywordEach [] env))=true:=by
  unfold methodCallForm
  have h1:(backTo pos (starEach args env)).all (fun x=>!x.1)=true:=by
   have:=plain_any (pos:=pos) (env:=env) hs
   rw [List.any_eq_false] at this
   rw [List.all_eq_true]
   intro x hx
   have:=this x hx
   simpa using this
  rw [h1]
  have:args.length+0 < 30:=by omega
  simp [backToKw,keywordEach];omega
 unfold methodCall
 rw [few]
 have hpos:∀ o env,methodCallPos true o env apos pos=pure pos:=fun o env=>by unfold methodCallPos;simp [hp]
 rw [hpos]
 rfl
theorem plainArgs_of {es:List Expr} {xs:IEs} {n:Nat} {sc:List (Str×NameKind)} {nm:List String} (h:chkEs n sc nm es xs=true):es.all (fun e=>!isStar e)=true:=by
 induction es generalizing xs n with
 | nil=>rfl
 | cons e r ih =>
  cases n with
  | zero=>simp [chkEs] at h
  | succ n =>
   cases xs with
   | nil=>simp [chkEs] at h
   | cons x y =>
    simp only [chkEs,Bool.and_eq_true] at h
    rw [List.all_cons,ih h.2,h.1.1];rfl
theorem eraseP_of {i:Int} {vs:List Value} {xs:List AV} (h:L2 VR vs xs) (hall:xs.all isInt=true) (hany:xs.any (isThe i)=true) :
  ∃ j,∃ hj:j < vs.length,(match vs[j] with | .int a _=>decide (a=i) | _=>false)=true∧(∀ m (hm:m < vs.length),m < j→(match vs[m] with | .int a _=>decide (a=i) | _=>false)=false)∧L2 VR (vs.eraseIdx j) (xs.eraseP (isThe i)):=by
 induction h with
 | nil=>simp at hany
 | @cons v x vs xs r t ih =>
  rw [List.all_cons,Bool.and_eq_true] at hall
  cases r <;> first | (have h1:=hall.1;cases h1;done) | skip
  rename_i a u
  by_cases e:a=i
  ·refine⟨0,Nat.succ_pos _,by show decide (a=i)=true;simp [e],fun m _ hm=>absurd hm (Nat.not_lt_zero _),?_⟩
   rw [List.eraseP_cons_of_pos (by simp [isThe,e])]
   exact t
  ·have hany':xs.any (isThe i)=true:=by
    rw [List.any_cons] at hany
    have:isThe i (.int a)=false:=by simp [isThe,e]
    rw [this,Bool.false_or] at hany;exact hany
   obtain⟨j,hj,h1,h2,h3⟩:=ih hall.2 hany'
   refine⟨j+1,Nat.succ_lt_succ hj,h1,fun m hm hmj=>?_,?_⟩
   ·cases m with
    | zero=>simp [e]
    | succ m=>exact h2 m (Nat.lt_of_succ_lt_succ hm) (Nat.lt_of_succ_lt_succ hmj)
   ·rw [List.eraseP_cons_of_neg (by simp [isThe,e])]
    exact .cons (.int a u) h3
theorem p_listM {a:Nat} {n:String} {vs:List Value} {xs:List AV} (hv:L2 VR vs xs) (S:k.St ρ H s) (h:vListM a n xs H Q) :
  wpAny (model k.c.prog k.c.w) A (call (.builtin ("list."++n)) (.ref a::vs)) (k.RE ρ Q) E s:=by
 obtain⟨G,S1,V⟩:=id S
 unfold vListM at h
 cases hl:H a with
 | none=>rw [hl] at h;exact h.elim
 | some ao =>
  rw [hl] at h
  cases ao <;> first | exact h.elim | skip
  rename_i ys
  obtain⟨-,arr,m,ho,hx,hz⟩:=S1.hv a _ hl
  have hlen:=hx.length
  rw [Array.length_toList] at hlen
  have hsz:=lim_line hz
  have hT:s.TypeIs (.ref a) "list":=⟨_,ho,rfl⟩
  have put:∀ (f:Array Value→Array Value) (zs:List AV),L2 VR (f arr).toList zs→(f arr).size≤lim→k.St ρ (upd H a (.list zs)) { s with heap:=s.heap.update a (Obj.mapSeq f) }:=fun f zs h1 h2 =>
   St_putL S hl (ao:=.list ys) (xs:=zs) (n:=if (f arr).size == arr.size then m else m+1) s.toks ho rfl h1 h2
  cases hv with
  | nil =>
   dsimp only at h
   obtain⟨rfl,hne,hq⟩:=h
   have hpos:0 < ys.length:=List.length_pos_iff.mpr hne
   obtain⟨v,hv,hr⟩:=hx.get (i:=ys.length - 1) (by omega)
   rw [Array.getElem?_toList] at hv
   refine call_meets F.slot_list_pop hT F.entry_list_pop (F.args_list_pop_1 _) (list_pop_last a arr m v (by rw [hlen];exact hv) hsz) ⟨ho,_,_,hr,put _ ys.dropLast ?_ ?_,hq⟩
   ·rw [Array.toList_eraseIdxIfInBounds,hlen,← List.eraseIdx_length_sub_one]
    exact hx.eraseIdx _
   ·rw [← Array.length_toList,Array.toList_eraseIdxIfInBounds];exact Nat.le_trans (List.length_eraseIdx_le _ _) (by rw [Array.length_toList];exact hz)
  | cons r t =>
   cases t with
   | cons=>exact h.elim
   | nil =>
    rename_i v x
    dsimp only at h
    by_cases hap:n = "append"
    ·subst hap
     rw [if_pos rfl] at h
     refine call_meets F.slot_list_append hT F.entry_list_append (F.args_list_append_2 _ _) (list_append a arr m v hsz) ⟨ho,_,_,.none,put _ (ys++[x]) ?_ ?_,h.2⟩
     ·rw [Array.toList_push];exact hx.append (.cons r .nil)
     ·rw [Array.size_push];have:=h.1;omega
    ·rw [if_neg hap] at h
     cases r <;> first | exact h.elim | skip
     rename_i i u
     dsimp only at h
     by_cases hpo:n = "pop"
     ·subst hpo
      rw [if_pos rfl] at h
      cases hp:place i ys.length with
      | none=>rw [hp] at h;exact h.elim
      | some j =>
       rw [hp] at h
       obtain⟨p1,p2,p3⟩:=place_some hp
       obtain⟨v,hv,hr⟩:=hx.get p2
       rw [Array.getElem?_toList] at hv
       have hlim:ys.length≤1000000:=by unfold lim at hz;omega
       refine call_meets F.slot_list_pop hT F.entry_list_pop (F.args_list_pop_2 _ _) (list_pop_at a arr m i u j v (by simp [Builtin.List.listFitsIndex];omega) (by rw [hlen];exact p1) hv hsz) ⟨ho,_,_,hr,put _ (ys.eraseIdx j) ?_ ?_,h⟩
       ·rw [Array.toList_eraseIdxIfInBounds];exact hx.eraseIdx _
       ·rw [← Array.length_toList,Array.toList_eraseIdxIfInBounds];exact Nat.le_trans (List.length_eraseIdx_le _ _) (by rw [Array.length_toList];exact hz)
     ·rw [if_neg hpo] at h
      obtain⟨rfl,hall,hany,hq⟩:=h
      obtain⟨j,hj,e1,e2,e3⟩:=eraseP_of hx hall hany
      have hj':j < arr.size:=by simpa using hj
      have heq:∀ y,y∈arr→EqGives y (.int i u) (match y with | .int a _=>decide (a=i) | _=>false):=by
       intro y hy
       have:∃ b c,y=.int b c:=by
        have hy':y∈arr.toList:=by simpa using hy
        clear hl ho hz hy e1 e2 e3 hq hj hj' hany put hlen hsz hT
        generalize arr.toList=l at hx hy'
        induction hx with
        | nil=>cases hy'
        | cons r _ ih =>
         rw [List.all_cons,Bool.and_eq_true] at hall
         rcases List.mem_cons.mp hy' with rfl | h'
         ·cases r <;> first | exact⟨_,_,rfl⟩ | (exact absurd hall.1 (by simp [isInt]))
         ·exact ih hall.2 h'
       obtain⟨b,c,rfl⟩:=this
       have q:=EqGives.int b i c u
       rw [int_beq] at q
       exact q
      refine call_meets F.slot_list_remove hT F.entry_list_remove (F.args_list_remove_2 _ _) (list_remove a arr m (.int i u) (fun y=>match y with | .int a _=>decide (a=i) | _=>false) heq j hj' (by have:=e1;rw [Array.getElem_toList] at this;exact this) (fun q hq' hqj=>by have:=e2 q (by simpa using hq') hqj;rw [Array.getElem_toList] at this;exact this) hsz) ⟨ho,_,_,.none,put _ (ys.eraseP (isThe i)) ?_ ?_,hq⟩
      ·rw [Array.toList_eraseIdxIfInBounds];exact e3
      ·rw [← Array.length_toList,Array.toList_eraseIdxIfInBounds];exact Nat.le_trans (List.length_eraseIdx_le _ _) (by rw [Array.length_toList];exact hz)
theorem valueAt_of {kvs:List (Int×Value)} {d:List (Int×AV)} (h:L2 KI kvs d) (i:Int):match dget d i with
  | some w=>∃ v,valueAt kvs i=some v∧VR v w
  | none=>valueAt kvs i=none:=by
 induction h with
 | nil=>exact rfl
 | @cons kv f kvs d r t ih =>
  obtain⟨q,w⟩:=f
  obtain⟨q',v⟩:=kv
  obtain⟨e,hv⟩:=r
  dsimp only at e hv
  subst e
  unfold dget valueAt
  rw [List.find?_cons]
  by_cases z:q'=i
  ·rw [if_pos z];simp only [z,decide_true];exact⟨v,rfl,hv⟩
  ·rw [if_neg z];simp only [z,decide_false];exact ih
theorem p_dictM {a:Nat} {vs:List Value} {xs:List AV} (hv:L2 VR vs xs) (S:k.St ρ H s) (h:vDictM a xs H Q) :
  wpAny (model k.c.prog k.c.w) A (call (.builtin "dict.get") (.ref a::vs)) (k.RE ρ Q) E s:=by
 obtain⟨G,S1,V⟩:=id S
 unfold vDictM at h
 cases hl:H a with
 | none=>rw [hl] at h;exact h.elim
 | some ao =>
  rw [hl] at h
  cases ao <;> first | exact h.elim | skip
  rename_i d
  obtain⟨-,kvs,hd,hx,hz,hm⟩:=S1.hv a _ hl
  have hmap:=hd.mapOf
  cases hv with
  | nil=>exact h.elim
  | cons r1 t1=>cases t1 with
   | nil=>cases r1 <;> exact h.elim
   | cons r2 t2=>cases t2 with
    | cons=>cases r1 <;> cases r2 <;> exact h.elim
    | nil =>
     cases r1 <;> cases r2 <;> first | exact h.elim | skip
     rename_i i t j u
     refine call_meetsIn F.slot_dict_get hmap.typeIs F.entry_dict_get (F.args_dict_get_3 _ _ _) (meets_dict_get_default (intKind k.c.prog k.c.w) a (k:=i) (key:=.int i t) (by simp [intKind,Value.isInt]) hm (.int j u)) ⟨_,hmap,?_⟩
     have hva:=valueAt_of hx i
     dsimp only at h
     show k.RE ρ Q _ _
     cases hg:dget d i with
     | some w=>rw [hg] at h hva;obtain⟨v,v1,v2⟩:=hva;rw [v1];exact re_mk v2 (S.toks _) h
     | none=>rw [hg] at h hva;dsimp only at hva;rw [hva];exact re_mk (.int _ _) (S.toks _) h
end
end Bm
namespace Bm
open PySem PySem.W PyProof.Rows PySem.SeqAt PySem.MeetsSeq
def Kx.withP (k:Kx) (p:Addr×Obj):Kx:={ k with P:=p::k.P }
theorem Kx.Ok.withP {k:Kx} {K:Frag} (O:k.Ok K) (p:Addr×Obj):(k.withP p).Ok K:=⟨O.F,O.room,O.frames,O.hand,O.calls⟩
section
variable {k:Kx} {ρ:List AV} {H:AHeap} {s:Shared} {Q X:EQ} {E:Value→Shared→Prop} {A:Around} {K:Frag}
theorem Vr.moreP {G:Nat→Kd} {P P':List (Addr×Obj)} {env:Env} {nm ws:List String} {ρ:List AV} {h:Heap} (V:Vr G P env nm ws ρ h) (hs:∀ p∈P,p.2.data≠.dict #[] 0→p∈P' ) (hc:∀ c o v,(c,o)∈P→o.data=.cell v→(c,o)∈P'):Vr G P' env nm ws ρ h :=
 ⟨V.fn,V.gl,V.bi,V.loc,V.ns,fun x i e hk n=>let ⟨v,hr,hv⟩:=V.reads x i e hk n;⟨v,hr.imp id fun⟨ca,h1,h2,h3⟩=>⟨ca,h1,h2,h3.imp id fun⟨o,m,d⟩=>⟨o,hc _ _ _ m d,d⟩⟩,hv⟩,V.stores,V.cells,V.inj,V.len,fun x ca e=>(V.inP x ca e).imp id fun⟨o,v,h1,h2⟩=>⟨o,v,hc _ _ _ h1 h2,h2⟩,V.has⟩
theorem Vr.subP {G:Nat→Kd} {P P':List (Addr×Obj)} {env:Env} {nm ws:List String} {ρ:List AV} {h:Heap} (V:Vr G P env nm ws ρ h) (hc:∀ c o v,(c,o)∈P→o.data=.cell v→(c,o)∈P'):Vr G P' env nm ws ρ h :=
 ⟨V.fn,V.gl,V.bi,V.loc,V.ns,fun x i e hk n=>let ⟨v,hr,hv⟩:=V.reads x i e hk n;⟨v,hr.imp id fun⟨ca,h1,h2,h3⟩=>⟨ca,h1,h2,h3.imp id fun⟨o,m,d⟩=>⟨o,hc _ _ _ m d,d⟩⟩,hv⟩,V.stores,V.cells,V.inj,V.len,fun x ca e=>(V.inP x ca e).imp id fun⟨o,v,h1,h2⟩=>⟨o,v,hc _ _ _ h1 h2,h2⟩,V.has⟩
theorem St_protect (S:k.St ρ H s) (o:Obj) (ho:o.isFreed=false) (tk:Nat):(k.withP (s.heap.objs.size,o)).St ρ H { s with heap:=s.heap.push o,toks:=tk }:=by
 obtain⟨G,S1,V⟩:=S
 have g0:=S1.freeAt
 have S2:=(S1.garbage o tk).rekind (G':=gset G s.heap.objs.size .prot) (fun a ha=>gset_ne fun q=>ha (by rw [q,g0])) (fun a ha=>by
  by_cases q:a=s.heap.objs.size
  ·rw [q];exact⟨o,Heap.get?_push_size _ ho⟩
  ·rw [gset_ne q] at ha;obtain⟨o',e⟩:=S1.ex a ha;exact⟨o',Heap.get?_push_of_some _ e⟩)
 refine⟨_,⟨S2.keep,S2.ex,S2.hv,fun p hp=>?_,S2.frs,S2.gens,S2.drawn,S2.os⟩,(V.step (fun a ha=>by rw [gset_ne (fun q=>by rw [q,g0] at ha;cases ha),ha]) (fun x ca _ e=>by by_cases q:ca=s.heap.objs.size;(rw [q,gset_eq] at e;cases e);(rwa [gset_ne q] at e)) (fun a o _ e=>Heap.get?_push_of_some _ e)).subP fun c o v hm _=>.tail _ hm⟩
 rcases List.mem_cons.mp hp with rfl | hp
 ·exact⟨gset_eq,.inl (Heap.get?_push_size _ ho)⟩
 ·exact S2.pv p hp
theorem St_release {d:Nat} {o:Obj} (S:(k.withP (d,o)).St ρ H s) (hnc:∀ v,o.data≠.cell v) (hnp:∀ p∈k.P,p.1≠d) {h':Heap} {tk:Nat} {ao:AO} (hs:Heap.SameBut d s.heap h') (ho:∀ G,Ob k.c (gset G d .obj) h' d ao) (hnf:∀ e∈k.fr,e.frame≠some d) (hk:kd ao=.obj:=by rfl) :
  H d=none∧k.St ρ (upd H d ao) { s with heap:=h',toks:=tk }:=by
 obtain⟨G,S1,V⟩:=S
 have gd:G d=.prot:=(S1.pv (d,o) (.head _)).1
 have hn:H d=none:=by
  cases hq:H d with
  | none=>rfl
  | some ao=>have:=(S1.hv _ _ hq).1;rw [gd] at this;exact absurd this.symm (kd_ne (fun q=>nomatch q) (fun q=>nomatch q))
 have gne:∀ a x,G a=x→x≠.prot→gset G d .obj a=x:=fun a x e n=>(gset_ne fun q=>n (by rw [← e,q,gd])).trans e
 have ne:∀ a,G a≠.prot→a≠d:=fun a h q=>h (by rw [q,gd])
 refine⟨hn,gset G d .obj,⟨fun b o e=>⟨gne _ _ (S1.keep b o e).1 (fun q=>nomatch q),(hs.2 b (ne b (by rw [(S1.keep b o e).1];exact fun q=>nomatch q))).trans (S1.keep b o e).2⟩,fun a ha=>?_,fun a ao' e=>?_,fun p hp=>?_,fun e he=>?_,S1.gens,S1.drawn,S1.os⟩,?_⟩
 ·by_cases q:a=d
  ·rw [q];exact(ho G).there
  ·rw [gset_ne q] at ha
   obtain⟨o',e⟩:=S1.ex a ha
   exact⟨o',(hs.2 a q).trans e⟩
 ·unfold upd at e
  split at e
  ·rename_i q;subst q;cases e;exact⟨gset_eq.trans hk.symm,ho G⟩
  ·have:=S1.hv a ao' e
   refine⟨gne _ _ this.1 (kd_ne (fun q=>nomatch q) (fun q=>nomatch q)),this.2.keep (fun b o' hb e'=>(hs.2 b (ne b ?_)).trans e') fun b q=>gne _ _ q (fun q=>nomatch q)⟩
   rcases hb with q | q
   ·rw [q,this.1];exact kd_ne (fun q=>nomatch q) (fun q=>nomatch q)
   ·rw [q];exact fun q=>nomatch q
 ·have:=S1.pv p (.tail _ hp)
  exact⟨(gset_ne (hnp p hp)).trans this.1,this.2.keep fun o' e=>(hs.2 _ (hnp p hp)).trans e⟩
 ·obtain⟨h1,L,o',h2,h3,h4,h5⟩:=S1.frs e he
  have hL:L≠d:=fun q=>hnf e he (by rw [h2,q])
  exact⟨h1,L,o',h2,by rw [gset_ne hL];exact h3,(hs.2 L hL).trans h4,h5⟩
 ·refine(V.step (fun a e=>gne _ _ e (fun q=>nomatch q)) (fun x ca _ e=>?_) (fun a o' e ho'=>(hs.2 a (ne a (by rw [e];exact fun q=>nomatch q))).trans ho')).subP fun c o' v hm hv=>?_
  ·by_cases q:ca=d
   ·rw [q,gset_eq] at e;cases e
   ·rw [gset_ne q] at e;exact e
  ·rcases List.mem_cons.mp hm with q | q
   ·cases q;exact absurd hv (hnc v)
   ·exact q
theorem St_old (S:k.St ρ H s):(∀ p∈k.P,p.1≠s.heap.objs.size)∧(∀ e∈k.fr,e.frame≠some s.heap.objs.size):=by
 obtain⟨G,S1,V⟩:=S
 refine⟨fun p hp q=>?_,fun e he q=>?_⟩
 ·have:=(S1.pv p hp).1;rw [q,S1.freeAt] at this;cases this
 ·obtain⟨_,L,o,h2,_,h4,_⟩:=S1.frs e he
  rw [h2] at q;cases q
  exact Nat.lt_irrefl _ (Heap.lt_size h4)
theorem low_sys {h:Heap} (hl:h.NoLimit):(h.objs.size == sysModules)=false:=by
 have h0:=PyProof.Rows.modules_low hl
 refine beq_eq_false_iff_ne.mpr fun q=>?_
 rw [q] at h0
 exact absurd h0 (Nat.lt_irrefl _)
theorem strAt_of {kvs:List (Str×Value)} {d:List (String×AV)} (h:L2 KS kvs d) (i:String):match fget d i with
  | some w=>∃ v,valueAt kvs (Str.ofString i)=some v∧VR v w
  | none=>valueAt kvs (Str.ofString i)=none:=by
 induction h with
 | nil=>exact rfl
 | @cons kv f kvs d r t ih =>
  obtain⟨q,w⟩:=f
  obtain⟨q',v⟩:=kv
  obtain⟨e,hv⟩:=r
  dsimp only at e hv
  subst e
  unfold fget valueAt
  rw [List.find?_cons]
  by_cases z:q=i
  ·rw [if_pos z];simp only [z,decide_true];exact⟨v,rfl,hv⟩
  ·have z':¬ Str.ofString q=Str.ofString i:=fun e=>z (ofString_inj e)
   rw [if_neg z];simp only [z',decide_false];exact ih
theorem p_key {value slice:Expr} {o:Value} {x:AV} {n:String} {t:Tok} (hx:VR o x) (S:k.St ρ H s) (h:vKey x n H fun v=>Q v H):wpAny (model k.c.prog k.c.w) A (subscriptTail value slice o (.str (Str.ofString n) t)) (k.RE ρ Q) E s:=by
 obtain⟨G,S1,V⟩:=id S
 cases hx <;> first | exact h.elim | skip
 rename_i a
 unfold vKey at h
 dsimp only at h
 cases hl:H a with
 | none=>rw [hl] at h;exact h.elim
 | some ao =>
  rw [hl] at h
  cases ao <;> first | exact h.elim | skip
  rename_i fs
  obtain⟨-,kvs,hd,hx,hz,hm⟩:=S1.hv a _ hl
  obtain⟨ops,hs⟩:=hs_tail slice (.ref a) (.str (Str.ofString n) t)
  have hva:=strAt_of hx n
  dsimp only at h
  cases hg:fget fs n with
  | none=>rw [hg] at h;exact h.elim
  | some w =>
   rw [hg] at h hva
   obtain⟨v,v1,v2⟩:=hva
   exact tail_any hd.mapOf.typeIs slot_dict_getitem.lookup (wpAny_getItem_of (strKind_is _ _ _ _) hd.mapOf v1 (re_mk v2 (S.toks _) h)) hs
theorem p_getK {o:Value} {x:AV} {n:String} {t:Tok} (hx:VR o x) (S:k.St ρ H s) (h:vKey x n H fun v=>Q v H):wpAny (model k.c.prog k.c.w) A (getItem o (.str (Str.ofString n) t)) (k.RE ρ Q) E s:=by
 obtain⟨G,S1,V⟩:=id S
 cases hx <;> first | exact h.elim | skip
 rename_i a
 unfold vKey at h
 dsimp only at h
 cases hl:H a with
 | none=>rw [hl] at h;exact h.elim
 | some ao =>
  rw [hl] at h
  cases ao <;> first | exact h.elim | skip
  rename_i fs
  obtain⟨-,kvs,hd,hx,hz,hm⟩:=S1.hv a _ hl
  have hva:=strAt_of hx n
  dsimp only at h
  cases hg:fget fs n with
  | none=>rw [hg] at h;exact h.elim
  | some w =>
   rw [hg] at h hva
   obtain⟨v,v1,v2⟩:=hva
   exact wpAny_getItem_of (strKind_is _ _ _ _) hd.mapOf v1 (re_mk v2 (S.toks _) h)
theorem stored_str {kvs:List (Str×Value)} {d:List (String×AV)} (h:L2 KS kvs d) (hn:(kvs.map (·.1)).Nodup) {i:String} {v:Value} {w w₀:AV} (hv:VR v w) (hg:fget d i=some w₀):L2 KS (stored kvs (Str.ofString i) v) (fset d i w)∧(stored kvs (Str.ofString i) v).length=kvs.length:=by
 have key:∀ {kvs:List (Str×Value)} {d:List (String×AV)},L2 KS kvs d→(kvs.map (·.1)).Nodup→(∃ w₀,fget d i=some w₀)→kvs.any (fun kv=>kv.1=Str.ofString i)=true∧L2 KS (kvs.map fun kv=>if kv.1=Str.ofString i then(kv.1,v) else kv) (fset d i w):=by
  intro kvs d h
  induction h with
  | nil=>rintro _ ⟨_,e⟩;cases e
  | @cons kv f kvs d r t ih =>
   intro hn ⟨w₀,hg⟩
   obtain⟨q,w'⟩:=f
   obtain⟨q',v'⟩:=kv
   obtain⟨e,hv'⟩:=r
   dsimp only at e hv'
   subst e
   unfold fget at hg
   unfold fset
   rw [List.map_cons,List.nodup_cons] at hn
   rw [List.any_cons,List.map_cons]
   by_cases z:q=i
   ·subst z
    refine⟨by simp,?_⟩
    rw [if_pos rfl]
    dsimp only
    rw [if_pos rfl]
    refine .cons ⟨rfl,hv⟩ ?_
    have same:kvs.map (fun kv=>if kv.1=Str.ofString q then(kv.1,v) else kv)=kvs:=by
     conv=>rhs;rw [← List.map_id kvs]
     refine List.map_congr_left fun kv hm=>?_
     rw [if_neg];rfl
     intro e
     exact hn.1 (List.mem_map.mpr ⟨kv,hm,e⟩)
    rw [same];exact t
   ·have z':¬ Str.ofString q=Str.ofString i:=fun e=>z (ofString_inj e)
    rw [if_neg z] at hg
    obtain⟨i1,i2⟩:=ih hn.2 ⟨w₀,hg⟩
    refine⟨by rw [i1,Bool.or_true],?_⟩
    rw [if_neg z]
    dsimp only
    rw [if_neg z']
    exact .cons ⟨rfl,hv'⟩ i2
 obtain⟨k1,k2⟩:=key h hn ⟨w₀,hg⟩
 unfold stored
 rw [if_pos k1]
 exact⟨k2,List.length_map _⟩
theorem p_setK {o v:Value} {x y:AV} {n:String} {t:Tok} {Q:Unit→Shared→Prop} (hx:VR o x) (hy:VR v y) (S:k.St ρ H s) (h:vSetK x n y H fun H'=>∀ s',k.St ρ H' s'→Q () s'):wpAny (model k.c.prog k.c.w) A (setItem o (.str (Str.ofString n) t) v) Q E s:=by
 obtain⟨G,S1,V⟩:=id S
 cases hx <;> first | exact h.elim | skip
 rename_i a
 unfold vSetK at h
 dsimp only at h
 cases hl:H a with
 | none=>rw [hl] at h;exact h.elim
 | some ao =>
  rw [hl] at h
  cases ao <;> first | exact h.elim | skip
  rename_i fs
  obtain⟨ga,kvs,hd,hx,hz,hm⟩:=S1.hv a _ hl
  dsimp only at h
  cases hg:fget fs n with
  | none=>rw [hg] at h;exact h.elim
  | some w =>
   rw [hg] at h
   have hnd:(kvs.map (·.1)).Nodup:=let ⟨_,_,_,_,_,_,_,_,z⟩:=hd;z
   obtain⟨k1,k2⟩:=stored_str hx hnd hy hg
   refine wpAny_setItem_pairs (knd:=strKind k.c.prog k.c.w) (strKind_is _ _ _ _) hd (fun h' hd' hs=>h _ ⟨G,S1.put ga hs ⟨_,hd',k1,by rw [k2];exact hz,hm⟩,V.heap fun b o hb e=>(hs.2 b fun q=>?_).trans e⟩) (lim_line hz)
   subst q;rw [ga] at hb;cases hb
theorem stored_int {kvs:List (Int×Value)} {d:List (Int×AV)} (h:L2 KI kvs d) (hn:(kvs.map (·.1)).Nodup) {i:Int} {v:Value} {w:AV} (hv:VR v w):L2 KI (stored kvs i v) (dset d i w)∧(stored kvs i v).length≤kvs.length+1:=by
 have key:∀ {kvs:List (Int×Value)} {d:List (Int×AV)},L2 KI kvs d→(kvs.map (·.1)).Nodup →
   (kvs.any (fun kv=>kv.1=i)=true→L2 KI (kvs.map fun kv=>if kv.1=i then(kv.1,v) else kv) (dset d i w))∧(kvs.any (fun kv=>kv.1=i)=false→L2 KI (kvs++[(i,v)]) (dset d i w)):=by
  intro kvs d h
  induction h with
  | nil=>intro _;exact⟨fun e=>by simp at e,fun _=>.cons ⟨rfl,hv⟩ .nil⟩
  | @cons kv f kvs d r t ih =>
   intro hn
   obtain⟨q,w'⟩:=f
   obtain⟨q',v'⟩:=kv
   obtain⟨e,hv'⟩:=r
   dsimp only at e hv'
   subst e
   unfold dset
   rw [List.map_cons,List.nodup_cons] at hn
   rw [List.any_cons,List.map_cons]
   by_cases z:q'=i
   ·subst z
    refine⟨fun _=>?_,fun e=>by simp at e⟩
    rw [if_pos rfl]
    dsimp only
    rw [if_pos rfl]
    refine .cons ⟨rfl,hv⟩ ?_
    have same:kvs.map (fun kv=>if kv.1=q' then(kv.1,v) else kv)=kvs:=by
     conv=>rhs;rw [← List.map_id kvs]
     refine List.map_congr_left fun kv hm=>?_
     rw [if_neg];rfl
     intro e
     exact hn.1 (List.mem_map.mpr ⟨kv,hm,e⟩)
    rw [same];exact t
   ·obtain⟨i1,i2⟩:=ih hn.2
    have dz:decide (q'=i)=false:=decide_eq_false z
    rw [dz,Bool.false_or,if_neg z]
    rw [if_neg z]
    exact⟨fun e=>.cons ⟨rfl,hv'⟩ (i1 e),fun e=>.cons ⟨rfl,hv'⟩ (i2 e)⟩
 obtain⟨k1,k2⟩:=key h hn
 unfold stored
 cases hq:kvs.any (fun kv=>kv.1=i) with
 | true=>rw [if_pos rfl];exact⟨k1 hq,by rw [List.length_map];omega⟩
 | false=>rw [if_neg (by simp)];exact⟨k2 hq,by rw [List.length_append];exact Nat.le_refl _⟩
theorem p_setI {o i v:Value} {x y z:AV} {Q:Unit→Shared→Prop} (hx:VR o x) (hy:VR i y) (hz:VR v z) (S:k.St ρ H s) (h:vSetI x y z H fun H'=>∀ s',k.St ρ H' s'→Q () s'):wpAny (model k.c.prog k.c.w) A (setItem o i v) Q E s:=by
 obtain⟨G,S1,V⟩:=id S
 cases hx <;> first | exact h.elim | skip
 rename_i a
 cases hy <;> first | exact h.elim | skip
 rename_i i t
 unfold vSetI at h
 dsimp only at h
 cases hl:H a with
 | none=>rw [hl] at h;exact h.elim
 | some ao =>
  rw [hl] at h
  cases ao <;> first | exact h.elim | skip
  ·rename_i xs
   obtain⟨ga,arr,n,ho,hxs,hsz⟩:=S1.hv a _ hl
   have hlen:=hxs.length
   rw [Array.length_toList] at hlen
   dsimp only at h
   have hlim:xs.length≤1000000:=by unfold lim at hsz;omega
   obtain⟨⟨h0,h1⟩,hq⟩:=h
   refine ki_setAt ho h0 (by omega) (by omega) (hq _ (St_putL S hl (ao:=.list xs) (arr:=arr.setIfInBounds i.toNat v) (n:=if (arr.setIfInBounds i.toNat v).size == arr.size then n else n+1) s.toks ho rfl ?_ ?_))
   ·rw [Array.toList_setIfInBounds];exact hxs.set hz _
   ·rw [Array.size_setIfInBounds];exact hsz
  ·rename_i d
   obtain⟨ga,kvs,hd,hxs,hsz,hm⟩:=S1.hv a _ hl
   have hnd:(kvs.map (·.1)).Nodup:=let ⟨_,_,_,_,_,_,_,_,z⟩:=hd;z
   obtain⟨k1,k2⟩:=stored_int hxs hnd (i:=i) hz
   refine wpAny_setItem_pairs (knd:=intKind k.c.prog k.c.w) (intKind_is _ _ _ _) hd (fun h' hd' hs=>h.2.2 _ ⟨G,S1.put ga hs ⟨_,hd',k1,by have:=h.1;have:=hxs.length;omega,hm⟩,V.heap fun b o hb e=>(hs.2 b fun q=>?_).trans e⟩) (lim_line hsz)
   subst q;rw [ga] at hb;cases hb
theorem p_dict0 (O:k.Ok K) {pos:Pos} (S:k.St ρ H s) (h:∀ a,H a=none→Q (.ref a) (upd H a (.idict []))):wpAny (model k.c.prog k.c.w) A (eval (.Dict [] [] pos) k.env) (k.RE ρ Q) E s:=by
 rw [eval_Dict_empty]
 obtain⟨G,S1,V⟩:=S
 have hl:s.heap.NoLimit:=O.F.nolim.keeps fun b o e=>(S1.keep b o e).2
 refine wpAny_bind (wpAny_standAt ?_)
 unfold newDict
 refine wpAny_newObj_type ⟨.ref s.heap.objs.size,_,.ref _,⟨_,S1.alloc s.toks (ao:=.idict []) ⟨[],Heap.DictOf.new s.heap,.nil,Nat.zero_le _,low_sys hl⟩,V.step (fun a ha=>by rw [gset_ne (fun q=>by rw [q,S1.freeAt] at ha;cases ha),ha]) (fun x ca _ e=>by by_cases q:ca=s.heap.objs.size;(rw [q,gset_eq] at e;cases e);(rwa [gset_ne q] at e)) (fun a o _ e=>Heap.get?_push_of_some _ e)⟩,h _ S1.hnone⟩
end
end Bm
namespace Bm
open PySem PySem.W PyProof.Rows PySem.SeqAt PySem.MeetsSeq
section
variable {k:Kx} {ρ:List AV} {H:AHeap} {s:Shared} {Q X:EQ} {E:Value→Shared→Prop} {A:Around} {K:Frag}
theorem St_made (S:k.St ρ H s) {h':Heap} {tk:Nat} {arr:Array Value} {n:Nat} {xs:List AV} (hk:∀ b o,s.heap.get? b=some o→h'.get? b=some o) (ho:h'.get? s.heap.objs.size=some (listObj arr n)) (hx:L2 VR arr.toList xs) (hz:arr.size≤lim) :
  H s.heap.objs.size=none∧k.St ρ (upd H s.heap.objs.size (.list xs)) { s with heap:=h',toks:=tk }:=by
 obtain⟨G,S1,V⟩:=S
 have g0:=S1.freeAt
 refine⟨S1.hnone,gset G s.heap.objs.size .obj,?_,V.step (fun a ha=>by rw [gset_ne (fun q=>by rw [q,g0] at ha;cases ha),ha]) (fun x ca _ e=>by by_cases q:ca=s.heap.objs.size;(rw [q,gset_eq] at e;cases e);(rwa [gset_ne q] at e)) (fun a o _ e=>hk a o e)⟩
 have S2:=(S1.grow (tk:=tk) hk).rekind (G':=gset G s.heap.objs.size .obj) (fun a ha=>gset_ne fun q=>ha (by rw [q,g0])) (fun a ha=>by
  by_cases q:a=s.heap.objs.size
  ·rw [q];exact⟨_,ho⟩
  ·rw [gset_ne q] at ha;obtain⟨o',e⟩:=S1.ex a ha;exact⟨o',hk _ _ e⟩)
 refine⟨S2.keep,S2.ex,fun a ao' e=>?_,S2.pv,S2.frs,S2.gens,S2.drawn,S2.os⟩
 unfold upd at e
 split at e
 ·rename_i q;subst q;cases e;exact⟨gset_eq,arr,n,ho,hx,hz⟩
 ·exact S2.hv a ao' e
theorem p_slice {value slice:Expr} {l:Nat} {xs zs:List AV} {vl vu vs:Value} {lo hi st:Option Int} {tk:Nat} (S:k.St ρ H s) (hl:H l=some (.list xs)∨H l=some (.ro xs)) (pl:IsPart vl lo) (pu:IsPart vu hi) (ps:IsPart vs st) (h0:st≠some 0)
  (hp:∀ arr:Array Value,L2 VR arr.toList xs→L2 VR (slicePick arr lo hi st).toList zs) (h:∀ a,H a=none→Q (.ref a) (upd H a (.list zs))) :
  wpAny (model k.c.prog k.c.w) A (subscriptTail value slice (.ref l) (.ref s.heap.objs.size)) (k.RE ρ Q) E { s with heap:=s.heap.push { cls:=.type "slice",data:=.fields #[vl,vu,vs] },toks:=tk }:=by
 have S2:=St_garb S { cls:=.type "slice",data:=.fields #[vl,vu,vs] } tk
 obtain⟨G,S1,V⟩:=id S
 obtain⟨arr,hl',hxs,hz⟩:∃ arr,s.heap.IsList l arr∧L2 VR arr.toList xs∧arr.size≤lim:=by
  rcases hl with hl | hl
  ·obtain⟨-,arr,n,ho,r⟩:=S1.hv l _ hl
   exact⟨arr,PySem.IsL.isList (n:=n) ho,r⟩
  ·exact(S1.hv l _ hl).2
 obtain⟨ops,hs⟩:=hs_tail slice (.ref l) (.ref s.heap.objs.size)
 refine tail_any (hl'.push _).typeIs slot_list_getitem.lookup ?_ hs
 refine wpAny_getItem_list_slice (hl'.push _) (Heap.IsSliceOf.new ..) pl pu ps h0 ?_ (lim_line hz)
 exact St_newL S2 (hp arr hxs) (Nat.le_trans (slicePick_size_le ..) hz) tk h
theorem p_len {v:Value} {x:AV} (h:match x with | .ref l=>(match H l with | some (.list xs)=>Q (.int xs.length) H | _=>False) | _=>False) (hx:VR v x) (S:k.St ρ H s) :
  wpAny (model k.c.prog k.c.w) A (call (.builtin "len") [v]) (k.RE ρ Q) E s:=by
 cases hx <;> first | exact h.elim | skip
 rename_i l
 dsimp only at h
 cases hl:H l with
 | none=>rw [hl] at h;exact h.elim
 | some al =>
  rw [hl] at h
  cases al <;> first | exact h.elim | skip
  rename_i xs
  obtain⟨G,S1,V⟩:=id S
  obtain⟨-,arr,n,ho,hxs,hz⟩:=S1.hv l _ hl
  have hl':s.heap.IsList l arr:=PySem.IsL.isList (n:=n) ho
  have e1:=hxs.length
  rw [Array.length_toList] at e1
  refine Calls.call_len_list hl' (by unfold lim at hz;omega) (re_mk (.int _ _) (S.toks _) ?_)
  rw [e1];exact h
theorem p_abs {v:Value} {x:AV} (h:match x with | .int i=>Q (.int (if i < 0 then -i else i)) H | _=>False) (hx:VR v x) (S:k.St ρ H s) :
  wpAny (model k.c.prog k.c.w) A (call (.builtin "abs") [v]) (k.RE ρ Q) E s:=by
 cases hx <;> first | exact h.elim | skip
 exact call_abs_int fun u tk=>re_mk (.int _ _) (S.toks _) h
theorem p_max2 {v w:Value} {x y:AV} (h:match x,y with | .int i,.int j=>Q (.int (max i j)) H | _,_=>False) (hx:VR v x) (hy:VR w y) (hh:A.handled=none) (S:k.St ρ H s) :
  wpAny (model k.c.prog k.c.w) A (call (.builtin "max") [v,w]) (k.RE ρ Q) E s:=by
 cases hx <;> cases hy <;> first | exact h.elim | skip
 rename_i i t j u
 refine max_two_ints hh fun h' tk hk=>?_
 have e:(if j > i then Value.int j u else .int i t)=.int (max i j) (if j > i then u else t):=by
  by_cases q:j > i
  ·rw [if_pos q,if_pos q,Int.max_eq_right (by omega)]
  ·rw [if_neg q,if_neg q,Int.max_eq_left (by omega)]
 rw [e]
 exact re_mk (.int _ _) (St_grow S hk) h
theorem p_min2 {v w:Value} {x y:AV} (h:match x,y with | .int i,.int j=>Q (.int (min i j)) H | _,_=>False) (hx:VR v x) (hy:VR w y) (hh:A.handled=none) (S:k.St ρ H s) :
  wpAny (model k.c.prog k.c.w) A (call (.builtin "min") [v,w]) (k.RE ρ Q) E s:=by
 cases hx <;> cases hy <;> first | exact h.elim | skip
 rename_i i t j u
 refine min_two_ints hh fun h' tk hk=>?_
 have e:(if j < i then Value.int j u else .int i t)=.int (min i j) (if j < i then u else t):=by
  by_cases q:j < i
  ·rw [if_pos q,if_pos q,Int.min_eq_right (by omega)]
  ·rw [if_neg q,if_neg q,Int.min_eq_left (by omega)]
 rw [e]
 exact re_mk (.int _ _) (St_grow S hk) h
theorem ints_of:∀ {vs:List Value} {ns:List Int},L2 VR vs (ns.map AV.int)→∃ ps:List (Int×Tok),ps.map (·.1)=ns∧vs=ps.map fun p=>Value.int p.1 p.2
 | [],[],_=>⟨[],rfl,rfl⟩
 | [],_::_,h=>nomatch h
 | _::_,[],h=>nomatch h
 | v::vs,n::ns,.cons r t=>by
  obtain⟨ps,e1,e2⟩:=ints_of t
  cases r with
  | int i u=>exact⟨(n,u)::ps,by rw [List.map_cons,e1],by rw [e2];rfl⟩
theorem p_maxl {v:Value} {x:AV} (h:match x with
   | .ref l=>(match H l with
    | some (.list xs)=>xs≠[]∧∃ ns:List Int,xs=ns.map AV.int∧∀ m,m∈ns→(∀ k∈ns,k≤m)→Q (.int m) H
    | _=>False)
   | _=>False) (hx:VR v x) (hh:A.handled=none) (S:k.St ρ H s) :
  wpAny (model k.c.prog k.c.w) A (call (.builtin "max") [v]) (k.RE ρ Q) E s:=by
 cases hx <;> first | exact h.elim | skip
 rename_i l
 dsimp only at h
 cases hl:H l with
 | none=>rw [hl] at h;exact h.elim
 | some al =>
  rw [hl] at h
  cases al <;> first | exact h.elim | skip
  rename_i xs
  obtain⟨hne,ns,rfl,hq⟩:=h
  obtain⟨G,S1,V⟩:=id S
  obtain⟨-,arr,n,ho,hxs,hz⟩:=S1.hv l _ hl
  obtain⟨ps,e1,e2⟩:=ints_of hxs
  have ea:arr=intItems ps.toArray:=by
   rw [← Array.toList_inj,e2];simp [intItems]
  have hl':s.heap.IsList l (intItems ps.toArray):=by rw [← ea];exact PySem.IsL.isList (n:=n) ho
  have hpos:0 < ps.length:=by
   cases ps with
   | nil=>exact absurd (by rw [← e1];rfl) hne
   | cons=>simp
  refine max_intList hh hl' (by simpa using hpos) fun v h' tk hv hk=>?_
  obtain⟨g1,g2⟩:=argBest_gt (numAt ps.toArray) (ps.toArray.size - 1)
  obtain⟨t,rfl⟩:=intItems_at hv
  generalize argBest (fun i j=>decide (numAt ps.toArray i > numAt ps.toArray j)) (ps.toArray.size - 1)=j at g1 g2 hv ⊢
  have hn:∀ (i:Nat) (hi:i < ps.length),numAt ps.toArray i=ns[i]'(by rw [← e1];simpa using hi):=fun i hi=>by
   subst e1
   simp [numAt,hi]
  have hsz:ps.toArray.size=ps.length:=List.size_toArray ..
  have hj:j < ps.length:=by omega
  refine re_mk (.int _ _) (St_grow S hk) (hq _ ?_ fun m hm=>?_)
  ·rw [hn j hj];exact List.getElem_mem _
  ·obtain⟨i,hi,rfl⟩:=List.mem_iff_getElem.mp hm
   have hi':i < ps.length:=by rw [← e1] at hi;simpa using hi
   rw [← hn i hi']
   exact g2 i (by omega)
theorem p_copy {v:Value} {x:AV} (h:match x with
   | .ref l=>(match H l with | some (.list xs)=>∀ a,H a=none→Q (.ref a) (upd H a (.list xs)) | _=>False)
   | _=>False) (hx:VR v x) (S:k.St ρ H s) :
  wpAny (model k.c.prog k.c.w) A (call (.type "list") [v]) (k.RE ρ Q) E s:=by
 cases hx <;> first | exact h.elim | skip
 rename_i l
 dsimp only at h
 cases hl:H l with
 | none=>rw [hl] at h;exact h.elim
 | some al =>
  rw [hl] at h
  cases al <;> first | exact h.elim | skip
  rename_i xs
  obtain⟨G,S1,V⟩:=id S
  obtain⟨-,arr,n,ho,hxs,hz⟩:=S1.hv l _ hl
  refine call_list_seq l (.inl rfl) ho rfl rfl (fun h' c' hk hn=>?_) (lim_line hz)
  obtain⟨h1,h2⟩:=St_made S (tk:=s.toks) hk hn hxs hz
  exact re_mk (.ref _) h2 (h _ h1)
theorem range_small {lo hi:Int} (h:-(2 ^ 40) < lo∧lo < 2 ^ 40∧-(2 ^ 40) < hi∧hi < 2 ^ 40):Builtin.Range.small lo hi 1=true:=by
 obtain⟨h1,h2,h3,h4⟩:=h
 exact small_one (by omega) (by omega) (by omega) (by omega)
theorem range_size (lo hi:Int):Builtin.Range.rangeSize lo hi 1=((hi - lo).toNat:Int):=by rw [rangeSize_one];split <;> omega
theorem ints_L2 {lo:Int}:∀ {vs:List Value} {n:Nat},vs.length=n→(∀ (i:Nat) v,vs[i]? = some v→∃ t,v=Value.int (lo+(i:Int)) t)→L2 VR vs ((List.range n).map fun(k:Nat)=>AV.int (lo+(k:Int))):=by
 intro vs n hn hv
 have key:∀ (m:Nat),m≤n→L2 VR (vs.take m) ((List.range m).map fun(k:Nat)=>AV.int (lo+(k:Int))):=by
  intro m
  induction m with
  | zero=>intro _;rw [List.take_zero];exact .nil
  | succ m ih =>
   intro hm
   have hlt:m < vs.length:=by omega
   rw [List.range_succ,List.map_append,List.take_succ_eq_append_getElem hlt]
   refine(ih (by omega)).append ?_
   obtain⟨t,e⟩:=hv m _ (List.getElem?_eq_getElem hlt)
   rw [e]
   exact .cons (.int _ t) .nil
 have:=key n (Nat.le_refl _)
 rwa [List.take_of_length_le (by omega)] at this
theorem p_listR {lo hi:Int} {r:Nat} {t u v:Tok} (hh:A.handled=none) (S:k.St ρ H s) (hr:IsRange s.heap r lo hi 1 t u v) (hb:-(2 ^ 40) < lo∧lo < 2 ^ 40∧-(2 ^ 40) < hi∧hi < 2 ^ 40) (hlen:hi - lo≤lim) (h:∀ a,H a=none→Q (.ref a) (upd H a (.list (Bm.iRng lo hi)))) :
  wpAny (model k.c.prog k.c.w) A (call (.type "list") [.ref r]) (k.RE ρ Q) E s:=by
 have hl:((hi - lo).toNat:Nat)≤lim:=by unfold lim at hlen ⊢;omega
 refine call_list_range hh hr (range_small hb) (range_size lo hi) (by unfold lim at hl;omega) fun h' tk acc' c' hk hn hi'=>?_
 obtain⟨i1,i2⟩:=hi'
 have hx:L2 VR acc'.toList (Bm.iRng lo hi):=ints_L2 (by rw [Array.length_toList];exact i1) fun i v e=>by
  rw [Array.getElem?_toList] at e
  have:=i2 i v e
  simpa using this
 obtain⟨h1,h2⟩:=St_made S (tk:=tk) hk hn hx (by rw [i1];exact hl)
 exact re_mk (.ref _) h2 (h _ h1)
end
end Bm
namespace Bm
open PySem PySem.W PyProof.Rows PySem.SeqAt PySem.MeetsSeq
section
variable {k:Kx} {ρ:List AV} {H:AHeap} {s:Shared} {Q X:EQ} {E:Value→Shared→Prop} {A:Around} {K:Frag}
def Own (k:Kx) (I:Nat):Prop:=(∀ p∈k.P,p.1≠I)∧∀ e∈k.fr,e.frame≠some I
theorem StC.lessP {c:Cx} {G:Nat→Kd} {fr:List Env} {P P':List (Addr×Obj)} (S:StC c G fr P H s) (h:∀ p∈P',p∈P):StC c G fr P' H s :=
 ⟨S.keep,S.ex,S.hv,fun p hp=>S.pv p (h p hp),S.frs,S.gens,S.drawn,S.os⟩
def Kx.onP (k:Kx) (P:List (Addr×Obj)):Kx:={ k with P }
theorem Kx.Ok.onP {k:Kx} {K:Frag} (O:k.Ok K) (P:List (Addr×Obj)):(k.onP P).Ok K:=⟨O.F,O.room,O.frames,O.hand,O.calls⟩
theorem St_lessP {P':List (Addr×Obj)} (S:k.St ρ H s) (h:∀ p∈P',p∈k.P) (hc:∀ c o v,(c,o)∈k.P→o.data=.cell v→(c,o)∈P'):(k.onP P').St ρ H s :=
 let ⟨G,S1,V⟩:=S;⟨G,S1.lessP h,V.subP hc⟩
theorem St_getP {d:Nat} {o:Obj} (S:(k.withP (d,o)).St ρ H s) (hd:∀ es n,o.data≠.dict es n):s.heap.get? d=some o:=by
 obtain⟨G,S1,V⟩:=S
 rcases(S1.pv (d,o) (.head _)).2 with h | ⟨⟨_,es,n,h⟩,_⟩
 ·exact h
 ·exact absurd h (hd es n)
theorem St_ownG {d:Nat} {o:Obj} {G:Nat→Kd} (own:Own k d) (S1:StC k.c G k.fr ((d,o)::k.P) H s) {h':Heap} {tk:Nat} (hk:∀ b o,b≠d→s.heap.get? b=some o→h'.get? b=some o) {G':Nat→Kd} (hG:∀ a,a≠d→G' a=G a)
  (hd:G' d≠.free→∃ o,h'.get? d=some o):StC k.c G' k.fr k.P H { s with heap:=h',toks:=tk }:=by
 have gd:G d=.prot:=(S1.pv (d,o) (.head _)).1
 have ne:∀ b x,G b=x→x≠.prot→b≠d:=fun b x e n q=>n (by rw [← e,q,gd])
 refine⟨fun b o e=>?_,fun a ha=>?_,fun a ao e=>?_,fun p hp=>?_,fun e he=>?_,S1.gens,S1.drawn,S1.os⟩
 ·have q:=S1.keep b o e
  have n:=ne b _ q.1 (fun q=>nomatch q)
  exact⟨(hG b n).trans q.1,hk b o n q.2⟩
 ·by_cases q:a=d
  ·subst q;exact hd ha
  ·rw [hG a q] at ha;obtain⟨o',e⟩:=S1.ex a ha;exact⟨o',hk a o' q e⟩
 ·have q:=S1.hv a ao e
  have n:=ne a _ q.1 (kd_ne (fun q=>nomatch q) (fun q=>nomatch q))
  refine⟨(hG a n).trans q.1,q.2.keep (fun b o' hb ho=>hk b o' ?_ ho) fun b e=>(hG b (ne b _ e (fun q=>nomatch q))).trans e⟩
  rcases hb with rfl | hb
  ·exact n
  ·exact ne b _ hb (fun q=>nomatch q)
 ·have q:=S1.pv p (.tail _ hp)
  have n:=own.1 p hp
  exact⟨(hG _ n).trans q.1,q.2.keep fun o ho=>hk _ o n ho⟩
 ·obtain⟨h1,L,o',h2,h3,h4,h5⟩:=S1.frs e he
  have n:L≠d:=fun q=>own.2 e he (by rw [h2,q])
  exact⟨h1,L,o',h2,by rw [hG L n];exact h3,hk L o' n h4,h5⟩
theorem St_dropP {d:Nat} {o:Obj} (own:Own k d) (ho:∀ v,o.data≠.cell v) (S:(k.withP (d,o)).St ρ H s) {h':Heap} {tk:Nat} (hk:∀ b o,b≠d→s.heap.get? b=some o→h'.get? b=some o):k.St ρ H { s with heap:=h',toks:=tk }:=by
 obtain⟨G,S1,V⟩:=S
 have gd:G d=.prot:=(S1.pv (d,o) (.head _)).1
 have ne:∀ a,G a=.var→a≠d:=fun a e q=>by rw [q,gd] at e;cases e
 refine⟨gset G d .free,St_ownG own S1 hk (fun a ha=>gset_ne ha) (fun q=>absurd gset_eq q),?_⟩
 refine(V.step (fun a e=>(gset_ne (ne a e)).trans e) (fun x ca _ e=>?_) (fun a o e ho=>hk a o (ne a e) ho)).subP fun c o' v hm hv=>?_
 ·by_cases q:ca=d
  ·rw [q,gset_eq] at e;cases e
  ·rwa [gset_ne q] at e
 ·rcases List.mem_cons.mp hm with q | q
  ·cases q;exact absurd hv (ho v)
  ·exact q
theorem St_setP {d:Nat} {o o':Obj} (own:Own k d) (ho:∀ v,o.data≠.cell v) (S:(k.withP (d,o)).St ρ H s) {h':Heap} {tk:Nat} (hk:∀ b o,b≠d→s.heap.get? b=some o→h'.get? b=some o) (hd:h'.get? d=some o') :
  (k.withP (d,o')).St ρ H { s with heap:=h',toks:=tk }:=by
 obtain⟨G,S1,V⟩:=S
 have gd:G d=.prot:=(S1.pv (d,o) (.head _)).1
 have ne:∀ a,G a=.var→a≠d:=fun a e q=>by rw [q,gd] at e;cases e
 have S2:=St_ownG own S1 (tk:=tk) hk (fun a _=>(rfl:G a=G a)) (fun _=>⟨o',hd⟩)
 refine⟨G,⟨S2.keep,S2.ex,S2.hv,fun p hp=>?_,S2.frs,S2.gens,S2.drawn,S2.os⟩,(V.heap (fun a o e ho=>hk a o (ne a e) ho)).subP fun c o'' v hm hv=>?_⟩
 ·rcases List.mem_cons.mp hp with rfl | hp
  ·exact⟨gd,.inl hd⟩
  ·exact S2.pv p hp
 ·rcases List.mem_cons.mp hm with q | q
  ·cases q;exact absurd hv (ho v)
  ·exact .tail _ q
def IterOf (src:Src) (xs:List AV) (v:Value) (H:AHeap) (h:Heap):Prop:=match src with
 | .lst l ys=>xs=ys∧v=.ref l∧H l=some (.list ys)
 | .tup l ys=>xs=ys∧v=.ref l∧H l=some (.tup ys)
 | .rng=>∃ r lo hi t u w,v=.ref r∧IsRange h r lo hi 1 t u w∧(-(2 ^ 40) < lo∧lo < 2 ^ 40∧-(2 ^ 40) < hi∧hi < 2 ^ 40)∧xs=Bm.iRng lo hi
def rngO (x left:Int):Obj:={ cls:=.type "range_iterator",dict:=none,data:=.fields #[rawInt x,rawInt left,rawInt 1],slots:=#[] }
def ItR (src:Src) (o:Obj) (rest:List AV):Prop:=match src with
 | .lst l ys=>∃ i:Nat,o.cls=.type "list_iterator"∧o.data=.fields #[.ref l,.int i 0]∧rest=ys.drop i
 | .tup l ys=>∃ i:Nat,o.cls=.type "tuple_iterator"∧o.data=.fields #[.ref l,.int i 0]∧rest=ys.drop i
 | .rng=>∃ (x:Int) (n:Nat),o=rngO x n∧rest=(List.range n).map fun(k:Nat)=>AV.int (x+(k:Int))
theorem ItR.fields {src:Src} {o:Obj} {rest:List AV} (h:ItR src o rest):∃ vs,o.data=.fields vs:=by
 cases src with
 | lst l ys=>obtain⟨i,_,h,_⟩:=h;exact⟨_,h⟩
 | tup l ys=>obtain⟨i,_,h,_⟩:=h;exact⟨_,h⟩
 | rng=>obtain⟨x,n,rfl,_⟩:=h;exact⟨_,rfl⟩
theorem Own.at (S:k.St ρ H s):Own k s.heap.objs.size:=St_old S
theorem p_iter {src:Src} {xs:List AV} {v:Value} {Q':Value→Shared→Prop} (S:k.St ρ H s) (hi:IterOf src xs v H s.heap) (h:∀ o s',ItR src o xs→(k.withP (s.heap.objs.size,o)).St ρ H s'→Q' (.ref s.heap.objs.size) s') :
  wpAny (model k.c.prog k.c.w) A (pyIter v) Q' E s:=by
 obtain⟨G,S1,V⟩:=id S
 cases src with
 | lst l ys =>
  obtain⟨rfl,rfl,hl⟩:=hi
  obtain⟨-,arr,n,ho,hxs,hz⟩:=S1.hv l _ hl
  refine wpAny_pyIter_list (PySem.IsL.isList (n:=n) ho) (h { cls:=.type "list_iterator",data:=.fields #[.ref l,.int 0 0] } _ ⟨0,rfl,rfl,rfl⟩ (St_protect S _ rfl _))
 | tup l ys =>
  obtain⟨rfl,rfl,hl⟩:=hi
  obtain⟨-,arr,n,ho,hxs,hz⟩:=S1.hv l _ hl
  refine wpAny_pyIter_tuple ⟨_,ho,rfl,n,rfl⟩ (h { cls:=.type "tuple_iterator",data:=.fields #[.ref l,.int 0 0] } _ ⟨0,rfl,rfl,rfl⟩ (St_protect S _ rfl _))
 | rng =>
  obtain⟨r,lo,hi,t,u,w,rfl,hr,hb,rfl⟩:=hi
  refine wpAny_pyIter_range hr (range_small hb) ?_
  rw [range_size]
  exact h (rngO lo ((hi - lo).toNat:Nat)) _ ⟨lo,(hi - lo).toNat,rfl,rfl⟩ (St_protect S _ rfl _)
theorem drop_lget:∀ {ys:List AV} {i:Nat},i < ys.length→ys.drop i=lget ys i::ys.drop (i+1)
 | _::_,0,_=>rfl
 | _::ys,i+1,h=>drop_lget (ys:=ys) (Nat.lt_of_succ_lt_succ h)
theorem p_next {src:Src} {I:Nat} {o:Obj} {rest:List AV} {Q':Option Value→Shared→Prop} (hh:A.handled=none) (own:Own k I) (it:ItR src o rest) (hs:src.ok H) (S:(k.withP (I,o)).St ρ H s)
  (h0:rest=[]→∀ s',k.St ρ H s'→Q' none s') (h:∀ x xs,rest=x::xs→∀ v o' s',VR v x→ItR src o' xs→(k.withP (I,o')).St ρ H s'→Q' (some v) s'):wpAny (model k.c.prog k.c.w) A (pyNext (.ref I)) Q' E s:=by
 obtain⟨fvs,hfd⟩:=it.fields
 have ho:=St_getP S (fun es n q=>by rw [hfd] at q;cases q)
 have hnc:∀ v,o.data≠.cell v:=fun v q=>by rw [hfd] at q;cases q
 obtain⟨G,S1,V⟩:=id S
 have gI:G I=.prot:=(S1.pv (I,o) (.head _)).1
 cases src with
 | lst l ys =>
  obtain⟨i,h1,h2,rfl⟩:=it
  have hl:=S1.hv l _ hs
  obtain⟨gl,arr,n,hol,hxs,hz⟩:=hl
  have hit:s.heap.IsListIter I l i:=⟨o,ho,h1,h2⟩
  have hlen:=hxs.length
  rw [Array.length_toList] at hlen
  by_cases hi:i < ys.length
  ·obtain⟨v,hv,hr⟩:=hxs.get hi
   rw [Array.getElem?_toList] at hv
   have e:=drop_lget hi
   refine wpAny_pyNext_list_item hit (PySem.IsL.isList (n:=n) hol) hv fun h' hit' hsb=>?_
   obtain⟨o',ho',hc',hd'⟩:=hit'
   exact h _ _ e v o' _ hr ⟨i+1,hc',hd',rfl⟩ (St_setP own hnc S (tk:=s.toks) (fun b o hb e=>(hsb.2 b hb).trans e) ho')
  ·have e:ys.drop i=[]:=List.drop_eq_nil_of_le (by omega)
   refine wpAny_pyNext_list_end hh hit (PySem.IsL.isList (n:=n) hol) (Array.getElem?_eq_none (by omega)) fun h' hx=>h0 (by first | exact e | rfl) _ ?_
   exact St_dropP own hnc S (tk:=s.toks) fun b o hb e=>hx b o hb e
 | tup l ys =>
  obtain⟨i,h1,h2,rfl⟩:=it
  have hl:=S1.hv l _ hs
  obtain⟨gl,arr,n,hol,hxs,hz⟩:=hl
  have hit:s.heap.IsTupleIter I l i:=⟨o,ho,h1,h2⟩
  have hlen:=hxs.length
  rw [Array.length_toList] at hlen
  by_cases hi:i < ys.length
  ·obtain⟨v,hv,hr⟩:=hxs.get hi
   rw [Array.getElem?_toList] at hv
   have e:=drop_lget hi
   refine wpAny_pyNext_tuple_item hit ⟨_,hol,rfl,n,rfl⟩ hv fun h' hit' hsb=>?_
   obtain⟨o',ho',hc',hd'⟩:=hit'
   exact h _ _ e v o' _ hr ⟨i+1,hc',hd',rfl⟩ (St_setP own hnc S (tk:=s.toks) (fun b o hb e=>(hsb.2 b hb).trans e) ho')
  ·have e:ys.drop i=[]:=List.drop_eq_nil_of_le (by omega)
   refine wpAny_pyNext_tuple_end hh hit ⟨_,hol,rfl,n,rfl⟩ (Array.getElem?_eq_none (by omega)) fun h' hx=>h0 (by first | exact e | rfl) _ ?_
   exact St_dropP own hnc S (tk:=s.toks) fun b o hb e=>hx b o hb e
 | rng =>
  obtain⟨x,n,rfl,rfl⟩:=it
  cases n with
  | zero =>
   refine wpAny_pyNext_range_end hh ho (by decide) fun h' hx=>h0 (by first | exact e | rfl) _ ?_
   exact St_dropP own hnc S (tk:=s.toks) fun b o hb e=>hx b o hb e
  | succ n =>
   have e:(List.range (n+1)).map (fun(k:Nat)=>AV.int (x+(k:Int)))=.int x::(List.range n).map fun(k:Nat)=>AV.int (x+1+(k:Int)):=by
    rw [List.range_succ_eq_map,List.map_cons,List.map_map]
    congr 1
    ·rw [Int.natCast_zero,Int.add_zero]
    ·refine List.map_congr_left fun k _=>?_
     show AV.int _=AV.int _
     congr 1
     show x+((k+1:Nat):Int)=_
     omega
   refine wpAny_pyNext_range_item ho (by show(0:Int) < ((n+1:Nat):Int);omega) fun h' hit' hsb=>?_
   have hit2:h'.get? I=some (rngO (x+1) n):=by
    have e:((n+1:Nat):Int) - 1=(n:Int):=by omega
    rw [e] at hit';exact hit'
   exact h _ _ e _ _ _ (.int x _) ⟨x+1,n,rfl,rfl⟩ (St_setP own hnc S (tk:=s.toks+1) (fun b o hb e=>(hsb.2 b hb).trans e) hit2)
end
end Bm
namespace Bm
open PySem PySem.W PyProof.Rows PySem.SeqAt PySem.MeetsSeq
section
variable {k:Kx} {ρ:List AV} {H:AHeap} {s:Shared} {Q X:EQ} {E:Value→Shared→Prop} {A:Around} {K:Frag} {M:Model}
theorem newEnv_nobind {scope:Scope} {globals:Addr} {cl:List (Str×Addr)} {qual:Str} {func:Option Addr} {code:Value} {around:Option Env} {builtins:Addr} {Q:Env→Shared→Prop}
  (h:Q (newEnv scope s.heap.objs.size globals (cellsFrom (s.heap.objs.size+1) scope.names cl) qual func code around builtins) { s with heap:=pushCells (s.heap.push { cls:=.type (if around.isSome then "dict" else "frame"),data:=.dict #[] }) scope.names }) :
  wpAny M A (newFunctionEnv scope globals cl [] qual func code around builtins) Q E s:=by
 cases around with
 | none =>
  simp only [newFunctionEnv,Option.isSome_none,Bool.false_eq_true,if_false] at h ⊢
  refine wpAny_bind (wpAny_alloc ?_)
  refine wpAny_bind (wpAny_layCells _ (fun name kind cells=>by cases hkc:kind == NameKind.cell <;> simp [hkc]) _ _ _ _ ?_)
  rw [show({ s with heap:=s.heap.push { cls:=.type "frame",data:=.dict #[] } }:Shared).heap.objs.size=s.heap.objs.size+1 from Heap.size_push ..]
  exact wpAny_bind (by rw [List.forIn_nil];exact wpAny_pure (wpAny_pure h))
 | some outer =>
  simp only [newFunctionEnv,Option.isSome_some,if_true] at h ⊢
  refine wpAny_bind (wpAny_alloc ?_)
  refine wpAny_bind (wpAny_layCells _ (fun name kind cells=>by cases hkc:kind == NameKind.cell <;> simp [hkc]) _ _ _ _ ?_)
  rw [show({ s with heap:=s.heap.push { cls:=.type "dict",data:=.dict #[] } }:Shared).heap.objs.size=s.heap.objs.size+1 from Heap.size_push ..]
  exact wpAny_bind (by rw [List.forIn_nil];exact wpAny_pure (wpAny_pure h))
theorem pushCells_size:∀ (names:List (Str×NameKind)) (h:Heap),h.objs.size≤(pushCells h names).objs.size
 | [],_=>Nat.le_refl _
 | (_,kind)::r,h=>by
  unfold pushCells
  split
  ·exact Nat.le_trans (by rw [Heap.size_push];omega) (pushCells_size r _)
  ·exact pushCells_size r h
structure Laid (h:Heap) (lo:Nat) (acc:List (Str×Addr)) (names:List (Str×NameKind)) (cs:List (Str×Addr)):Prop where
 old:∀ n,(n,NameKind.cell)∉names→cs.lookup n=acc.lookup n
 new:∀ n,(n,NameKind.cell)∈names→∃ c,cs.lookup n=some c
 at_:∀ n c,(n,c)∈cs→(n,c)∈acc∨(lo≤c∧h.IsCell c none∧(n,NameKind.cell)∈names)
 inj:∀ n n' c,(n,c)∈cs→(n',c)∈cs→lo≤c→n=n'
theorem laid:∀ (names:List (Str×NameKind)) (h:Heap) (acc:List (Str×Addr)),(∀ n c,(n,c)∈acc→c < h.objs.size)→Laid (pushCells h names) h.objs.size acc names (cellsFrom h.objs.size names acc)
 | [],h,acc,ha=>⟨fun _ _=>rfl,(fun n hn=>nomatch hn),fun n c hm=>.inl hm,fun n n' c hm _ hl=>absurd (ha n c hm) (Nat.not_lt.mpr hl)⟩
 | (x,kind)::r,h,acc,ha=>by
  unfold pushCells cellsFrom
  by_cases hk:(kind == NameKind.cell)=true
  ·rw [if_pos hk,if_pos hk]
   have ek:kind=.cell:=by simpa using hk
   subst ek
   have hsz:(h.push { cls:=.type "cell",data:=.cell none }).objs.size=h.objs.size+1:=Heap.size_push ..
   have L:=laid r (h.push { cls:=.type "cell",data:=.cell none }) ((x,h.objs.size)::acc) (fun n c hm=>by
    rw [hsz]
    rcases List.mem_cons.mp hm with e | hm
    ·cases e;exact Nat.lt_succ_self _
    ·exact Nat.lt_succ_of_lt (ha n c hm))
   rw [hsz] at L
   have hcell:(pushCells (h.push { cls:=.type "cell",data:=.cell none }) r).IsCell h.objs.size none:=⟨_,pushCells_keeps r _ _ _ (Heap.get?_push_size _ rfl),rfl⟩
   refine⟨fun n hn=>?_,fun n hn=>?_,fun n c hm=>?_,fun n n' c hm hm' hl=>?_⟩
   ·have h1:n≠x:=fun e=>hn (by rw [e];exact .head _)
    rw [L.old n fun q=>hn (.tail _ q),List.lookup_cons]
    have:(n == x)=false:=by simpa using h1
    rw [this]
   ·by_cases q:(n,NameKind.cell)∈r
    ·exact L.new n q
    ·have h1:n=x:=by
      rcases List.mem_cons.mp hn with e | e
      ·cases e;rfl
      ·exact absurd e q
     subst h1
     exact⟨_,by rw [L.old n q,List.lookup_cons];simp;rfl⟩
   ·rcases L.at_ n c hm with q | ⟨q1,q2,q3⟩
    ·rcases List.mem_cons.mp q with e | q
     ·cases e;exact .inr ⟨Nat.le_refl _,hcell,.head _⟩
     ·exact .inl q
    ·exact .inr ⟨by omega,q2,.tail _ q3⟩
   ·by_cases q:h.objs.size+1≤c
    ·exact L.inj n n' c hm hm' q
    ·have hc:c=h.objs.size:=Nat.le_antisymm (Nat.le_of_lt_succ (Nat.lt_of_not_le q)) hl
     have one:∀ m,(m,c)∈cellsFrom (h.objs.size+1) r ((x,h.objs.size)::acc)→m=x:=fun m hm=>by
      rcases L.at_ m c hm with z | ⟨z,_⟩
      ·rcases List.mem_cons.mp z with e | z
       ·cases e;rfl
       ·have:=ha m c z;rw [hc] at this;exact absurd this (Nat.lt_irrefl _)
      ·exact absurd z q
     rw [one n hm,one n' hm']
  ·rw [if_neg hk,if_neg hk]
   have nk:kind≠.cell:=by simpa using hk
   have L:=laid r h acc ha
   have out:∀ n,(n,NameKind.cell)∈((x,kind)::r)↔(n,NameKind.cell)∈r:=fun n=>⟨fun q=>by
    rcases List.mem_cons.mp q with e | q
    ·cases e;exact absurd rfl nk
    ·exact q,fun q=>.tail _ q⟩
   exact⟨fun n hn=>L.old n fun q=>hn ((out n).mpr q),fun n hn=>L.new n ((out n).mp hn),fun n c hm=>(L.at_ n c hm).imp id fun⟨a,b,c⟩=>⟨a,b,(out n).mpr c⟩,L.inj⟩
def varG (G:Nat→Kd) (n:Nat) (h:Heap):Nat→Kd:=fun a=>if n≤a∧(h.get? a).isSome=true then .var else G a
theorem varG_old {G:Nat→Kd} {n:Nat} {h:Heap} {a:Nat} (ha:a < n):varG G n h a=G a:=by unfold varG;rw [if_neg (fun q=>by omega)]
theorem varG_new {G:Nat→Kd} {n:Nat} {h:Heap} {a:Nat} {o:Obj} (ha:n≤a) (ho:h.get? a=some o):varG G n h a=.var:=by unfold varG;rw [if_pos ⟨ha,by rw [ho];rfl⟩]
theorem StC.vars {c:Cx} {G:Nat→Kd} {fr:List Env} {P:List (Addr×Obj)} (S:StC c G fr P H s) {h':Heap} {tk:Nat} (hk:∀ b o,s.heap.get? b=some o→h'.get? b=some o):StC c (varG G s.heap.objs.size h') fr P H { s with heap:=h',toks:=tk } :=
 (S.grow hk).rekind (fun a ha=>varG_old (S.lt a ha)) fun a ha=>by
  unfold varG at ha
  split at ha
  ·rename_i q;exact Option.isSome_iff_exists.mp q.2
  ·obtain⟨o,e⟩:=S.ex a ha;exact⟨o,hk a o e⟩
def closL (env:Env):List (Str×NameKind)→List (Str×Addr)→List (Str×Addr)
 | [],acc=>acc
 | (n,k)::r,acc=>closL env r (if k == .free then(match env.cells.lookup n with | some a=>(n,a)::acc | none=>acc) else acc)
theorem closL_lookup {env:Env}:∀ (names:List (Str×NameKind)) (acc:List (Str×Addr)) (x:Str),(∀ n,(n,NameKind.free)∈names→∃ a,env.cells.lookup n=some a) →
  (closL env names acc).lookup x=if (x,NameKind.free)∈names then env.cells.lookup x else acc.lookup x
 | [],acc,x,_=>by simp [closL]
 | (n,k)::r,acc,x,h=>by
  unfold closL
  rw [closL_lookup r _ x fun m hm=>h m (.tail _ hm)]
  by_cases hr:(x,NameKind.free)∈r
  ·rw [if_pos hr,if_pos (List.mem_cons_of_mem _ hr)]
  ·rw [if_neg hr]
   by_cases hk:k=.free
   ·subst hk
    obtain⟨a,ha⟩:=h n (.head _)
    rw [if_pos (by rfl),ha]
    by_cases hx:x=n
    ·subst hx;rw [if_pos (.head _),ha,List.lookup_cons];simp
    ·rw [if_neg (fun q=>by
      rcases List.mem_cons.mp q with e | q
      ·cases e;exact hx rfl
      ·exact hr q),List.lookup_cons]
     have:(x == n)=false:=by simpa using hx
     rw [this]
   ·have hk':(k == NameKind.free)=false:=by simpa using hk
    have nm:¬ (x,NameKind.free)∈(n,k)::r:=fun q=>by
     rcases List.mem_cons.mp q with e | q
     ·cases e;exact hk rfl
     ·exact hr q
    rw [hk',if_neg nm,if_neg Bool.false_ne_true]
theorem closL_mem {env:Env}:∀ (names:List (Str×NameKind)) (acc:List (Str×Addr)) (n:Str) (c:Addr),(n,c)∈closL env names acc→(n,c)∈acc∨(env.cells.lookup n=some c∧(n,NameKind.free)∈names)
 | [],acc,n,c,h=>.inl h
 | (m,k)::r,acc,n,c,h=>by
  unfold closL at h
  rcases closL_mem r _ n c h with q | q
  ·split at q
   ·rename_i hk
    have ek:k=.free:=by simpa using hk
    split at q
    ·rename_i a ha
     rcases List.mem_cons.mp q with e | q
     ·cases e;exact .inr ⟨ha,by rw [ek];exact .head _⟩
     ·exact .inl q
    ·exact .inl q
   ·exact .inl q
  ·exact .inr ⟨q.1,.tail _ q.2⟩
theorem closureFor_is {env:Env} {scope:Scope} (h:∀ n,(n,NameKind.free)∈scope.names→∃ a,env.cells.lookup n=some a):closureFor scope env=pure (closL env scope.names []):=by
 unfold closureFor
 have key:∀ (names:List (Str×NameKind)) (acc:List (Str×Addr)),(∀ n,(n,NameKind.free)∈names→∃ a,env.cells.lookup n=some a) →
   (forIn names acc fun x r=>(match x with | (name,kind)=>if (kind == NameKind.free)=true then do let a ← cellOf env name;pure (ForInStep.yield ((name,a)::r)) else pure (ForInStep.yield r):Sem (ForInStep (List (Str×Addr)))))=pure (closL env names acc):=by
  intro names
  induction names with
  | nil=>intro acc _;rw [List.forIn_nil];rfl
  | cons x r ih =>
   intro acc hh
   obtain⟨n,kd⟩:=x
   rw [List.forIn_cons]
   unfold closL
   by_cases hk:(kd == NameKind.free)=true
   ·have ek:kd=.free:=by simpa using hk
    subst ek
    obtain⟨a,ha⟩:=hh n (.head _)
    have hc:cellOf env n=pure a:=by unfold cellOf;rw [ha]
    simp only [hk,if_true,hc,ha,pure_bind]
    exact ih _ fun m hm=>hh m (.tail _ hm)
   ·simp only [hk,if_false,pure_bind]
    exact ih _ fun m hm=>hh m (.tail _ hm)
 have:=key scope.names [] h
 simp only [bind_pure] at this ⊢
 rw [← this]
 try rfl
end
end Bm
namespace Bm
open PySem PySem.W PyProof.Rows PySem.SeqAt PySem.MeetsSeq
section
variable {k:Kx} {ρ:List AV} {H:AHeap} {s:Shared} {Q X:EQ} {E:Value→Shared→Prop} {A:Around} {K:Frag} {M:Model}
def cenvOf (scope:Scope) (C:Addr) (cs:List (Str×Addr)) (env:Env):Env :=
 { scope:=relabel scope env,locals:=C,globals:=env.globals,cells:=cs,qual:=env.qual,func:=none,code:=env.code,frame:=env.frame,builtins:=env.builtins }
structure CompOk (env:Env) (nm:List String) (scope:Scope) (t:Str):Prop where
 kind:scope.kind=.function
 tk:(cscope env.scope.names scope.names).lookup t=some .local∨(cscope env.scope.names scope.names).lookup t=some .cell
 ok:cscopeOk env.scope.names nm t scope.names=true
 tt:Str.ofString t.toString=t
theorem CompOk.at_ {env:Env} {nm:List String} {scope:Scope} {t:Str} (O:CompOk env nm scope t) {n:Str} {kd:NameKind} (h:(n,kd)∈scope.names) :
  (kd=.free∧n≠t∧(env.kindOf n=some .cell∨env.kindOf n=some .free))∨(kd=.local∧scope.names.lookup n=some .local∧(n=t∨idx n nm=none))∨(kd=.cell∧n=t)∨(kd=.globalImplicit∧n≠t∧idx n nm=none):=by
 have:=List.all_eq_true.mp O.ok (n,kd) h
 rw [Bool.and_eq_true] at this
 obtain⟨h1,h2⟩:=this
 cases kd <;> simp only [Bool.and_eq_true,Bool.or_eq_true,decide_eq_true_eq] at h2 <;> first | (exact absurd h2 Bool.false_ne_true) | skip
 all_goals first
  | exact .inl ⟨rfl,h2.1.1,h2.1.2⟩
  | exact .inr (.inr (.inl ⟨rfl,h2⟩))
  | exact .inr (.inr (.inr ⟨rfl,h2.1,h2.2⟩))
  | skip
 refine .inr (.inl ⟨rfl,?_,h2.imp id (·.2)⟩)
 simpa using h1
theorem lookup_map {f:Str×NameKind→Str×NameKind} (hf:∀ x,(f x).1=x.1):∀ {l:List (Str×NameKind)} {x:Str} {kd:NameKind},(l.map f).lookup x=some kd→∃ k0,(x,k0)∈l∧(f (x,k0)).2=kd
 | (n,k0)::r,x,kd,h=>by
  rw [List.map_cons] at h
  have e:f (n,k0)=(n,(f (n,k0)).2):=Prod.ext (hf _) rfl
  rw [e,List.lookup_cons] at h
  cases hx:x == n with
  | true =>
   rw [hx] at h
   have:x=n:=by simpa using hx
   subst this
   cases h
   exact⟨k0,.head _,rfl⟩
  | false =>
   rw [hx] at h
   obtain⟨k1,h1,h2⟩:=lookup_map hf h
   exact⟨k1,.tail _ h1,h2⟩
theorem relabel_cscope {scope:Scope} {env:Env} (hf:env.scope.kind=.function):(relabel scope env).names=cscope env.scope.names scope.names:=by
 unfold relabel cscope
 dsimp only
 refine List.map_congr_left fun x _=>?_
 obtain⟨n,kd⟩:=x
 dsimp only
 have:(env.scope.kind == ScopeKind.function)=true:=by rw [hf];rfl
 rw [this,Bool.and_true]
 rfl
theorem CompOk.kinds {env:Env} {nm:List String} {scope:Scope} {t:Str} (O:CompOk env nm scope t) (hf:env.scope.kind=.function) {C:Addr} {cs:List (Str×Addr)} {x:Str} {kd:NameKind} (h:(cenvOf scope C cs env).kindOf x=some kd) :
  ∃ k0,(x,k0)∈scope.names∧kd=if (k0 == .free&&(env.kindOf x == some .cell))=true then .cell else k0:=by
 have h':(relabel scope env).names.lookup x=some kd:=h
 rw [relabel_cscope hf] at h'
 unfold cscope at h'
 obtain⟨k0,h1,h2⟩:=lookup_map (fun x=>by obtain⟨n,k⟩:=x;dsimp only;split <;> rfl) h'
 refine⟨k0,h1,?_⟩
 dsimp only at h2
 have e:env.kindOf x=env.scope.names.lookup x:=rfl
 rw [e]
 split at h2
 ·rename_i q;rw [if_pos q];exact h2.symm
 ·rename_i q;rw [if_neg q];exact h2.symm
theorem comp_env {G:Nat→Kd} (S:StC k.c G k.fr k.P H s) (V:Vr G k.P k.env k.nm k.ws ρ s.heap) {scope:Scope} {t:Str} (O:CompOk k.env k.nm scope t) {h':Heap} {cs:List (Str×Addr)}
  (eh:h'=pushCells (s.heap.push { cls:=.type "dict",data:=.dict #[] }) scope.names) (ec:cs=cellsFrom (s.heap.objs.size+1) scope.names (closL k.env scope.names [])) :
  ∃ G',StC k.c G' k.fr (storO G k.env s.heap++k.P) H { s with heap:=h' }∧Vr G' (storO G k.env s.heap++k.P) (cenvOf scope s.heap.objs.size cs k.env) (t.toString::k.nm) [t.toString] (.undef::ρ) h':=by
 have keep:∀ b o,s.heap.get? b=some o→h'.get? b=some o:=fun b o e=>by rw [eh];exact pushCells_keeps _ _ _ _ (Heap.get?_push_of_some _ e)
 have S1:=St_putBy S V
 have S2:=S1.vars (tk:=s.toks) keep
 have freeAt:∀ n,(n,NameKind.free)∈scope.names→∃ a,k.env.cells.lookup n=some a:=fun n hn=>by
  rcases O.at_ hn with ⟨_,_,h⟩ | ⟨h,_⟩ | ⟨h,_⟩ | ⟨h,_⟩ <;> first | (cases h;done) | exact V.has n h
 have low:∀ n ca,k.env.cells.lookup n=some ca→ca < s.heap.objs.size:=fun n ca e=>S.lt ca fun q=>by
  rcases V.inP n ca e with z | ⟨o,v,z,_⟩
  ·rw [q] at z;cases z
  ·have:=(S.pv _ z).1;rw [q] at this;cases this
 have psz:(s.heap.push { cls:=.type "dict",data:=.dict #[] }).objs.size=s.heap.objs.size+1:=Heap.size_push ..
 have accLow:∀ n c,(n,c)∈closL k.env scope.names []→c < s.heap.objs.size:=fun n c hm=>by
  rcases closL_mem _ _ n c hm with q | ⟨q,_⟩
  ·cases q
  ·exact low n c q
 have L:=laid scope.names (s.heap.push { cls:=.type "dict",data:=.dict #[] }) (closL k.env scope.names []) (fun n c hm=>by rw [psz];exact Nat.lt_succ_of_lt (accLow n c hm))
 rw [psz,← eh,← ec] at L
 have oldAt:∀ n c,cs.lookup n=some c→c < s.heap.objs.size+1→(k.env.cells.lookup n=some c∧(n,NameKind.free)∈scope.names):=fun n c e hl=>by
  rcases L.at_ n c (lookup_mem e) with q | ⟨q,_⟩
  ·rcases closL_mem _ _ n c q with z | z
   ·cases z
   ·exact z
  ·exact absurd hl (Nat.not_lt.mpr q)
 have lookFree:∀ n,(n,NameKind.free)∈scope.names→cs.lookup n=k.env.cells.lookup n:=fun n hn=>by
  have nc:(n,NameKind.cell)∉scope.names:=fun q=>by
   rcases O.at_ q with ⟨h,_⟩ | ⟨h,_⟩ | ⟨_,h⟩ | ⟨h,_⟩ <;> first | (cases h;done) | skip
   rcases O.at_ hn with ⟨_,h1,_⟩ | ⟨h1,_⟩ | ⟨h1,_⟩ | ⟨h1,_⟩ <;> first | (cases h1;done) | exact h1 h
  rw [L.old n nc,closL_lookup _ _ _ freeAt,if_pos hn]
 have oldG:∀ n ca,k.env.cells.lookup n=some ca→varG (putBy G) s.heap.objs.size h' ca≠.var:=fun n ca e=>by
  rw [varG_old (low n ca e)];exact putBy_noVar G ca
 have dC:h'.get? s.heap.objs.size=some { cls:=.type "dict",data:=.dict #[] }:=by rw [eh];exact pushCells_keeps _ _ _ _ (Heap.get?_push_size _ rfl)
 have cellP:∀ n ca,k.env.cells.lookup n=some ca→∃ o v,(ca,o)∈storO G k.env s.heap++k.P∧o.data=.cell v:=fun n ca e=>by
  rcases V.inP n ca e with z | ⟨o,v,z1,z2⟩
  ·obtain⟨v₀,o,ho,hd⟩:=V.cells n ca e z
   exact⟨o,v₀,List.mem_append_left _ (storO_mem (stor_cell V e z) ho),hd⟩
  ·exact⟨o,v,List.mem_append_right _ z1,z2⟩
 refine⟨_,S2,⟨?_,V.gl,V.bi,varG_new (Nat.le_refl _) dC,⟨fun _=>none,?_⟩,fun x i e hk n=>?_,fun x hx=>?_,fun x ca e q=>?_,fun x y ca e e'=>?_,?_,fun x ca e=>?_,fun x hx=>?_⟩⟩
 ·exact O.kind
 ·rw [eh];exact(Heap.Ns.new s.heap (.type "dict")).keeps (pushCells_keeps _ _)
 ·have e1:idx x (t.toString::k.nm)=if Str.ofString t.toString=x then some 0 else(idx x k.nm).map (·+ 1):=rfl
  rw [e1,O.tt] at e
  by_cases htx:t=x
  ·rw [if_pos htx] at e;cases e;exact absurd rfl n
  ·rw [if_neg htx] at e
   cases hj:idx x k.nm with
   | none=>rw [hj] at e;cases e
   | some j =>
    rw [hj] at e
    cases e
    have n':lget ρ j≠.undef:=n
    cases hkd:(cenvOf scope s.heap.objs.size cs k.env).kindOf x with
    | none=>rw [hkd] at hk;cases hk
    | some kd =>
     rw [hkd] at hk
     obtain⟨k0,m0,rfl⟩:=O.kinds V.fn hkd
     have hfree:k0=.free∧(k.env.kindOf x=some .cell∨k.env.kindOf x=some .free):=by
      rcases O.at_ m0 with ⟨h1,_,h2⟩ | ⟨_,_,h | h⟩ | ⟨_,h⟩ | ⟨_,_,h⟩
      ·exact⟨h1,h2⟩
      ·exact absurd h.symm htx
      ·rw [hj] at h;cases h
      ·exact absurd h.symm htx
      ·rw [hj] at h;cases h
     obtain⟨rfl,hkk⟩:=hfree
     have hok:okKind (k.env.kindOf x)=true:=by rcases hkk with h | h <;> rw [h] <;> rfl
     obtain⟨v,hr,hv⟩:=V.reads x j hj hok n'
     refine⟨v,.inr ?_,hv⟩
     have hkd':(cenvOf scope s.heap.objs.size cs k.env).kindOf x=some .cell∨(cenvOf scope s.heap.objs.size cs k.env).kindOf x=some .free:=by
      rw [hkd];split
      ·exact .inl rfl
      ·exact .inr rfl
     rcases hr with ⟨h1,_⟩ | ⟨ca,_,h2,h3⟩
     ·rcases hkk with h | h <;> rw [h1] at h <;> cases h
     ·refine⟨ca,hkd',by show cs.lookup x=_;rw [lookFree x m0,h2],.inr ?_⟩
      rcases h3 with ⟨h4,o,h5,h6⟩ | ⟨o,h5,h6⟩
      ·exact⟨o,List.mem_append_left _ (storO_mem (stor_cell V h2 h4) h5),h6⟩
      ·exact⟨o,List.mem_append_right _ h5,h6⟩
 ·have hx':x=t.toString:=by simpa using hx
  subst hx'
  rw [O.tt]
  have e2:(cenvOf scope s.heap.objs.size cs k.env).kindOf t=(cscope k.env.scope.names scope.names).lookup t:=by
   show(relabel scope k.env).names.lookup t=_
   rw [relabel_cscope V.fn]
  rcases O.tk with h | h
  ·exact .inl (e2.trans h)
  ·refine .inr ⟨e2.trans h,?_⟩
   obtain⟨k0,m0,e3⟩:=O.kinds V.fn (e2.trans h)
   have hc:k0=.cell:=by
    rcases O.at_ m0 with ⟨_,h1,_⟩ | ⟨h1,_⟩ | ⟨h1,_⟩ | ⟨_,h1,_⟩
    ·exact absurd rfl h1
    ·rw [h1] at e3;cases e3
    ·exact h1
    ·exact absurd rfl h1
   subst hc
   obtain⟨c,hc⟩:=L.new t m0
   refine⟨c,hc,?_⟩
   rcases Nat.lt_or_ge c (s.heap.objs.size+1) with hl | hl
   ·have:=(oldAt t c hc hl).2
    rcases O.at_ this with ⟨_,h1,_⟩ | ⟨h1,_⟩ | ⟨h1,_⟩ | ⟨h1,_⟩ <;> first | (cases h1;done) | exact absurd rfl h1
   ·rcases L.at_ t c (lookup_mem hc) with q | ⟨_,⟨o,ho,_⟩,_⟩
    ·have:=accLow t c q;exact absurd this (Nat.not_lt.mpr (Nat.le_of_succ_le hl))
    ·exact varG_new (Nat.le_of_succ_le hl) ho
 ·rcases L.at_ x ca (lookup_mem e) with z | ⟨z1,z2,_⟩
  ·have:=accLow x ca z
   exact absurd q (by rw [varG_old this];exact putBy_noVar G ca)
  ·exact⟨_,z2⟩
 ·rcases Nat.lt_or_ge ca (s.heap.objs.size+1) with hl | hl
  ·exact V.inj x y ca (oldAt x ca e hl).1 (oldAt y ca e' hl).1
  ·exact L.inj x y ca (lookup_mem e) (lookup_mem e') hl
 ·show(AV.undef::ρ).length=(t.toString::k.nm).length
  rw [List.length_cons,List.length_cons,V.len]
 ·rcases L.at_ x ca (lookup_mem e) with z | ⟨z1,⟨o,ho,_⟩,_⟩
  ·rcases closL_mem _ _ x ca z with w | ⟨w,_⟩
   ·cases w
   ·exact .inr (cellP x ca w)
  ·exact .inl (varG_new (Nat.le_of_succ_le z1) ho)
 ·have:∃ k0,(x,k0)∈scope.names∧(k0=.free∨k0=.cell):=by
   rcases hx with h | h <;> obtain⟨k0,m0,e3⟩:=O.kinds V.fn h <;> refine⟨k0,m0,?_⟩ <;> split at e3
   ·rename_i q;simp at q;exact .inl q.1
   ·exact .inr e3.symm
   ·cases e3
   ·exact .inl e3.symm
  obtain⟨k0,m0,h | h⟩:=this
  ·subst h
   obtain⟨a,ha⟩:=freeAt x m0
   exact⟨a,(lookFree x m0).trans ha⟩
  ·subst h;exact L.new x m0
end
end Bm
namespace Bm
open PySem PySem.W PyProof.Rows PySem.SeqAt PySem.MeetsSeq
section
variable {k:Kx} {ρ:List AV} {H:AHeap} {s:Shared} {Q X:EQ} {E:Value→Shared→Prop} {A:Around} {K:Frag} {M:Model}
theorem St_perm {P P':List (Addr×Obj)} (S:(k.onP P).St ρ H s) (h:∀ p,p∈P'↔p∈P):(k.onP P').St ρ H s :=
 St_lessP (k:=k.onP P) S (fun p hp=>(h p).mp hp) fun c o v hm _=>(h _).mpr hm
theorem Own.more {k:Kx} {I D:Nat} {o:Obj} (h:Own k I) (hn:D≠I):Own (k.withP (D,o)) I :=
 ⟨fun p hp=>by rcases List.mem_cons.mp hp with rfl | hp;exact hn;exact h.1 p hp,h.2⟩
theorem p_assign {x:Str} {px:Pos} {i:Nat} {v:Value} {av:AV} {Q:Unit→Shared→Prop} (hi:idx x k.nm=some i) (hx:∃ n∈k.ws,Str.ofString n=x) (hv:VR v av) (S:k.St ρ H s) (h:∀ s',k.St (lset ρ i av) H s'→Q () s') :
  wpAny (model k.c.prog k.c.w) A (assign (.Name x px) k.env v) Q E s:=by
 show wpAny _ A (do standAt px;bindName k.env x v) Q E s
 exact wpAny_bind (wpAny_standAt (p_store hi hx hv S h))
theorem comp_loop {kb:Kx} (hh:kb.A.handled=none) {t:Str} {tp:Pos} {elt iter:Expr} {ifs:List Expr} {scope:Scope} {pos:Pos} {src:Src} {I D:Nat} (oI:Own kb I) (oD:Own kb D) (hID:I≠D)
  {t':String} {nm0:List String} (hnm:kb.nm=t'::nm0) (hws:kb.ws=[t']) (htt:Str.ofString t'=t) {ρ:List AV} {cond:AV→AHeap→(Bool→AHeap→Prop)→Prop} {elt':AV→AHeap→EQ→Prop} {K':List AV→AHeap→Prop} {R:Result→Shared→Prop}
  (hc:∀ P' v H s Qb,(kb.onP P').St (v::ρ) H s→cond v H Qb→wpAny (model kb.c.prog kb.c.w) kb.A (forIn ifs true fun c r=>if r=true then do let ok ← isTrue c kb.env (eval c kb.env);pure (ForInStep.yield ok) else pure (ForInStep.yield r)) ((kb.onP P').RB (v::ρ) Qb) (fun _ _=>False) s)
  (he:∀ P' v H s Q,(kb.onP P').St (v::ρ) H s→elt' v H Q→wpAny (model kb.c.prog kb.c.w) kb.A (eval elt kb.env) ((kb.onP P').RE (v::ρ) Q) (fun _ _=>False) s)
  (hR:∀ y arr n ws H' s',(kb.withP (D,listObj arr n)).St (y::ρ) H' s'→L2 VR arr.toList ws→arr.size≤lim→K' ws H'→R (.ok .next) s')
  {o:Obj} {arr:Array Value} {n:Nat} {rest acc:List AV} {y:AV} {H:AHeap} {s:Shared} (it:ItR src o rest) (hok:src.ok H) (hx:L2 VR arr.toList acc) (hz:arr.size+rest.length≤lim) (S:((kb.withP (D,listObj arr n)).withP (I,o)).St (y::ρ) H s)
  (h:compIfL src cond elt' rest acc H K') :
  codeAny (model kb.c.prog kb.c.w) kb.A (.compLoop (.ListComp elt [⟨.Name t tp,iter,ifs,0⟩] scope pos) 0 (.ref I) (.ref D) kb.env) R s:=by
 refine codeAny_compLoop_tests (fun m s=>∃ (o:Obj) (arr:Array Value) (n:Nat) (rest acc:List AV) (y:AV) (H:AHeap),m=rest.length+1∧ItR src o rest∧src.ok H∧L2 VR arr.toList acc∧arr.size+rest.length≤lim ∧
  ((kb.withP (D,listObj arr n)).withP (I,o)).St (y::ρ) H s∧compIfL src cond elt' rest acc H K') ?_ (rest.length+1) ⟨o,arr,n,rest,acc,y,H,rfl,it,hok,hx,hz,S,h⟩
 clear hok hx hz S h it
 rintro m s ⟨o,arr,n,rest,acc,y,H,rfl,it,hok,hx,hz,S,h⟩
 refine p_next (k:=kb.withP (D,listObj arr n)) hh (oI.more (fun e=>hID e.symm)) it hok S (fun e s' S'=>?_) (fun x xs e v o' s' hv it' S'=>?_)
 ·subst e
  exact hR y arr n acc H s' S' hx (by have:([]:List AV).length=0:=rfl;omega) h
 ·subst e
  have hi:idx t kb.nm=some 0:=by rw [hnm];show(if Str.ofString t'=t then some 0 else _)=_;rw [if_pos htt]
  refine p_assign (k:=(kb.withP (D,listObj arr n)).withP (I,o')) hi ⟨t',by show t'∈kb.ws;rw [hws];exact .head _,htt⟩ hv S' fun s2 S2=>?_
  have S2':(kb.onP ((I,o')::(D,listObj arr n)::kb.P)).St (x::ρ) H s2:=S2
  unfold compIfL at h
  refine wpAny_mono (hc _ _ _ _ _ S2' h) (fun ok s3 h3=>?_) fun _ _ f=>f.elim
  obtain⟨H3,S3,h3⟩:=h3
  have hlen:(x::xs).length=xs.length+1:=rfl
  cases ok with
  | false =>
   rw [if_neg Bool.false_ne_true] at h3 ⊢
   exact⟨xs.length+1,by omega,o',arr,n,xs,acc,x,H3,rfl,it',h3.1,hx,by omega,S3,h3.2⟩
  | true =>
   rw [if_pos rfl] at h3 ⊢
   refine wpAny_mono (he _ _ _ _ _ S3 h3) (fun w s4 h4=>?_) fun _ _ f=>f.elim
   obtain⟨aw,H4,hw,S4,hok4,h4⟩:=h4
   have S4':((kb.withP (I,o')).withP (D,listObj arr n)).St (x::ρ) H4 s4:=St_perm (k:=kb) (P:=(I,o')::(D,listObj arr n)::kb.P) (P':=(D,listObj arr n)::(I,o')::kb.P) S4 fun p=>by
    simp only [List.mem_cons];exact or_left_comm
   have hD:s4.heap.PlainList D arr:=⟨n,St_getP S4' (fun es n q=>by cases q)⟩
   have hlim:arr.size≤lim:=by omega
   refine wpAny_list_append_plain hD (fun h' hp hs=>?_) (lim_line hlim)
   obtain⟨n',hp⟩:=hp
   have S5:=St_setP (oD.more hID) (fun v q=>by cases q) S4' (tk:=s4.toks) (fun b o hb e=>(hs.2 b hb).trans e) hp
   refine⟨xs.length+1,by omega,o',arr.push w,n',xs,acc++[aw],x,H4,rfl,it',hok4,by rw [Array.toList_push];exact hx.append (.cons hw .nil),by rw [Array.size_push];omega,?_,h4⟩
   exact St_perm (k:=kb) (P:=(D,listObj (arr.push w) n')::(I,o')::kb.P) (P':=(I,o')::(D,listObj (arr.push w) n')::kb.P) S5 fun p=>by
    simp only [List.mem_cons];exact or_left_comm
theorem iter_self {src:Src} {I:Nat} {o:Obj} {rest:List AV} {Q':Value→Shared→Prop} (it:ItR src o rest) (ho:s.heap.get? I=some o) (h:Q' (.ref I) s):wpAny (model k.c.prog k.c.w) A (pyIter (.ref I)) Q' E s:=by
 cases src with
 | lst l ys=>obtain⟨i,h1,h2,_⟩:=it;exact wpAny_pyIter_listiter ⟨o,ho,h1,h2⟩ h
 | tup l ys=>obtain⟨i,h1,h2,_⟩:=it;exact wpAny_pyIter_tupleiter ⟨o,ho,h1,h2⟩ h
 | rng=>obtain⟨x,n,rfl,_⟩:=it;exact wpAny_pyIter_rangeiter ho h
def Kx.inComp (k:Kx) (scope:Scope) (t:Str) (C:Addr) (cs:List (Str×Addr)) (P:List (Addr×Obj)):Kx :=
 { k with env:=cenvOf scope C cs k.env,nm:=t.toString::k.nm,ws:=[t.toString],P:=P }
theorem ns_ofP {C:Nat} {oC:Obj} {h₀ h:Heap} {m:Str→Option Value} (hn:h₀.Ns C m) (ho:h₀.get? C=some oC) (hp:PR k.fr h (C,oC)):h.Ns C m:=by
 obtain⟨o,es,ep,ho',hd,r⟩:=hn
 rw [ho] at ho';cases ho'
 rcases hp with z | ⟨_,sl,z⟩
 ·exact⟨_,es,ep,z,hd,r⟩
 ·exact⟨_,es,ep,z,hd,r⟩
theorem comp_fin {scope:Scope} {t:Str} {C D:Nat} {cs:List (Str×Addr)} {G3:Nat→Kd} {s3 s':Shared} (V3:Vr G3 k.P k.env k.nm k.ws ρ s3.heap) (hP:∀ p∈k.P,G3 p.1=.prot) (eC:s3.heap.objs.size=C) {arr:Array Value} {n:Nat} {ws:List AV} {ρ':List AV} {H':AHeap}
  (Sf:((k.inComp scope t C cs (storO G3 k.env s3.heap++k.P)).withP (D,listObj arr n)).St ρ' H' s') (oD:Own (k.inComp scope t C cs (storO G3 k.env s3.heap++k.P)) D) (hx:L2 VR arr.toList ws) (hz:arr.size≤lim) :
  ∃ m oC,s'.heap.Ns C m∧s'.heap.get? C=some oC∧(∀ v,oC.data≠.cell v)∧H' D=none∧(k.withP (C,oC)).St ρ (upd H' D (.list ws)) s':=by
 have hget:=St_getP Sf (fun es n q=>by cases q)
 obtain⟨hDn,Sg⟩:=St_release (k:=k.inComp scope t C cs (storO G3 k.env s3.heap++k.P)) (o:=listObj arr n) Sf (fun v q=>by cases q) oD.1 (h':=s'.heap) (tk:=s'.toks) (ao:=.list ws) (Heap.SameBut.refl ..) (fun G=>⟨arr,n,hget,hx,hz⟩) oD.2
 obtain⟨G5,SC5,V5⟩:=Sg
 have SC6:=St_putBy SC5 V5
 obtain⟨m,hm⟩:=V5.ns
 obtain⟨oC,es,ep,hoC,hdC,rC⟩:=id hm
 have inC:(C,oC)∈storO G5 (cenvOf scope C cs k.env) s'.heap:=storO_mem (k:=k.inComp scope t C cs (storO G3 k.env s3.heap++k.P)) (.head _) hoC
 have SC7:StC k.c (putBy G5) k.fr (storO G3 k.env s3.heap++((C,oC)::k.P)) (upd H' D (.list ws)) s':=by
  refine SC6.lessP fun p hp=>?_
  rcases List.mem_append.mp hp with hp | hp
  ·exact List.mem_append_right _ (List.mem_append_left _ hp)
  ·rcases List.mem_cons.mp hp with rfl | hp
   ·exact List.mem_append_left _ inC
   ·exact List.mem_append_right _ (List.mem_append_right _ hp)
 refine⟨m,oC,hm,hoC,(fun v q=>by rw [hdC] at q;cases q),hDn,_,St_takeUp' (k:=k) (s:=s3) (P':=(C,oC)::k.P) V3 (putBy_noVar G5) SC7 (fun p hp q=>?_) fun _ _ _ h _=>.tail _ h⟩
 rcases List.mem_cons.mp hp with rfl | hp
 ·obtain⟨o',e⟩:=stor_obj V3 _ q
  have:=Heap.lt_size e;rw [eC] at this;exact Nat.lt_irrefl _ this
 ·have:=stor_var V3 _ q
  rw [hP p hp] at this;cases this
set_option maxHeartbeats 2000000 in
theorem p_comp (S0:k.St ρ H s) {scope:Scope} {t:Str} {tp:Pos} {elt iter:Expr} {ifs:List Expr} {pos:Pos} (CO:CompOk k.env k.nm scope t) (use:Option (Value→Sem Unit)) {Q':Value→Shared→Prop}
  {cond:AV→AHeap→(Bool→AHeap→Prop)→Prop} {elt':AV→AHeap→EQ→Prop} {K':List AV→AHeap→Prop} {tgt:Expr} {g:Comprehension} (hg:g=⟨.Name t tp,iter,ifs,0⟩)
  (hfold:∀ x,foldedSetIterable iter k.env x=pure x)
  (hfirst:wpAny (model k.c.prog k.c.w) k.A (eval iter k.env) (fun x s1=>∃ src xs H1,k.St ρ H1 s1∧IterOf src xs x H1 s1.heap∧src.ok H1∧xs.length≤lim∧k.A.handled=none∧compIfL src cond elt' xs [] H1 K') E s)
  (hc:∀ C cs P' v H s Qb,(k.inComp scope t C cs P').St (v::ρ) H s→(cenvOf scope C cs k.env).scope.names=cscope k.env.scope.names scope.names→cond v H Qb→wpAny (model k.c.prog k.c.w) k.A (forIn ifs true fun c r=>if r=true then do let ok ← isTrue c (cenvOf scope C cs k.env) (eval c (cenvOf scope C cs k.env));pure (ForInStep.yield ok) else pure (ForInStep.yield r)) ((k.inComp scope t C cs P').RB (v::ρ) Qb) (fun _ _=>False) s)
  (he:∀ C cs P' v H s Q,(k.inComp scope t C cs P').St (v::ρ) H s→(cenvOf scope C cs k.env).scope.names=cscope k.env.scope.names scope.names→elt' v H Q→wpAny (model k.c.prog k.c.w) k.A (eval elt (cenvOf scope C cs k.env)) ((k.inComp scope t C cs P').RE (v::ρ) Q) (fun _ _=>False) s)
  (hfin:match use with
   | none=>∀ D H1 ws s',K' ws H1→H1 D=none→k.St ρ (upd H1 D (.list ws)) s'→Q' (.ref D) s'
   | some u=>∀ D H1 ws s' C oC,K' ws H1→H1 D=none→(k.withP (C,oC)).St ρ (upd H1 D (.list ws)) s'→wpAny (model k.c.prog k.c.w) k.A (u (.ref D)) (fun _ s''=>∃ ρ',(k.withP (C,oC)).St ρ' (upd H1 D (.list ws)) s''∧∀ s3,k.St ρ' (upd H1 D (.list ws)) s3→Q' .none s3) E s') {pos2:Pos} :
  wpAny (model k.c.prog k.c.w) k.A (comprehension (.ListComp elt [g] scope pos) scope k.env pos2 (newList []) false (eval iter k.env) use) Q' E s:=by
 subst hg
 have hnames:∀ x∈scope.names,x.2=.local→scope.names.lookup x.1=some .local:=fun x hx hl=>by
  obtain⟨n,kd⟩:=x
  cases hl
  rcases CO.at_ hx with ⟨h,_⟩ | ⟨_,h,_⟩ | ⟨h,_⟩ | ⟨h,_⟩ <;> first | (cases h;done) | exact h
 refine wpAny_comprehension_free (cl:=closL k.env scope.names []) (g:=⟨.Name t tp,iter,ifs,0⟩) (gs:=[]) rfl hfold ?_ CO.kind hnames ?_
 ·obtain⟨G0,_,V0⟩:=S0
  refine closureFor_is fun n hn=>?_
  rcases CO.at_ hn with ⟨_,_,h⟩ | ⟨h,_⟩ | ⟨h,_⟩ | ⟨h,_⟩ <;> first | (cases h;done) | exact V0.has n h
 ·refine wpAny_mono hfirst (fun x s1 h1=>?_) fun _ _ e=>e
  obtain⟨src,xs,H1,S1,hi,hok,hlen,hh,hv⟩:=h1
  refine p_iter S1 hi fun o s2 it S2=>?_
  have oI:=Own.at S1
  refine wpAny_newObj_type ?_ (by size_fits)
  have oD:=Own.at S2
  have S3:=St_protect S2 (listObj #[] 0) rfl s2.toks
  have oC:=Own.at S3
  have hID:s1.heap.objs.size≠s2.heap.objs.size:=oD.1 _ (.head _)
  generalize eI:s1.heap.objs.size=I at *
  generalize eD:s2.heap.objs.size=D at *
  obtain⟨G3,SC3,V3⟩:=S3
  have V3':Vr G3 k.P k.env k.nm k.ws ρ (s2.heap.push (listObj #[] 0)):=V3.subP fun c o' v hm hd=>by
   rcases List.mem_cons.mp hm with q | hm
   ·cases q;cases hd
   ·rcases List.mem_cons.mp hm with q | hm
    ·cases q;obtain⟨fvs,hf⟩:=it.fields;rw [hf] at hd;cases hd
    ·exact hm
  refine newEnv_nobind ?_
  obtain⟨G4,SC4,V4⟩:=comp_env (k:=(k.withP (I,o)).withP (D,listObj #[] 0)) SC3 V3 CO rfl rfl
  dsimp only
  generalize eH4:pushCells ((s2.heap.push (listObj #[] 0)).push { cls:=.type (if (some k.env).isSome=true then "dict" else "frame"),data:=.dict #[] }) scope.names=h4
  generalize eC:(s2.heap.push (listObj #[] 0)).objs.size=C at *
  generalize ecs:cellsFrom (C+1) scope.names (closL k.env scope.names [])=cs
  have eH4':pushCells ((s2.heap.push (listObj #[] 0)).push { cls:=.type "dict",data:=.dict #[] }) scope.names=h4:=eH4
  have SC4':StC k.c G4 k.fr (storO G3 k.env (s2.heap.push (listObj #[] 0))++((D,listObj #[] 0)::(I,o)::k.P)) H1 { s2 with heap:=h4 }:=by rw [← eH4'];exact SC4
  have V4':Vr G4 (storO G3 k.env (s2.heap.push (listObj #[] 0))++((D,listObj #[] 0)::(I,o)::k.P)) (cenvOf scope C cs k.env) (t.toString::k.nm) [t.toString] (.undef::ρ) h4:=by
   rw [← eH4',← ecs];exact V4
  clear SC4 V4
  generalize es3:({ s2 with heap:=s2.heap.push (listObj #[] 0) }:Shared)=s3 at *
  have es3h:s2.heap.push (listObj #[] 0)=s3.heap:=by rw [← es3]
  rw [es3h] at SC4' V4' V3' eC
  have S4:(((k.inComp scope t C cs (storO G3 k.env s3.heap++k.P)).withP (D,listObj #[] 0)).withP (I,o)).St (.undef::ρ) H1 { s2 with heap:=h4 }:=by
   refine St_perm (k:=k.inComp scope t C cs (storO G3 k.env s3.heap++k.P)) (P:=storO G3 k.env s3.heap++((D,listObj #[] 0)::(I,o)::k.P)) (P':=(I,o)::(D,listObj #[] 0)::(storO G3 k.env s3.heap++k.P)) ⟨G4,SC4',V4'⟩ fun p=>?_
   simp only [List.mem_cons,List.mem_append]
   constructor
   ·rintro (h | h | h | h) <;> simp [h]
   ·rintro (h | h | h | h) <;> simp [h]
  have fromSt:∀ p∈storO G3 k.env s3.heap,G3 p.1=.var:=fun p hp=>stor_var V3' _ (storO_at (k:=k) hp).1
  have gD:G3 D=.prot:=(SC3.pv (D,listObj #[] 0) (.head _)).1
  have gI:G3 I=.prot:=(SC3.pv (I,o) (.tail _ (.head _))).1
  have gP:∀ p∈k.P,G3 p.1=.prot:=fun p hp=>(SC3.pv p (.tail _ (.tail _ hp))).1
  have oIb:Own (k.inComp scope t C cs (storO G3 k.env s3.heap++k.P)) I:=⟨fun p hp=>by
   rcases List.mem_append.mp hp with hp | hp
   ·intro e;have:=fromSt p hp;rw [e,gI] at this;cases this
   ·exact oI.1 p hp,oI.2⟩
  have oDb:Own (k.inComp scope t C cs (storO G3 k.env s3.heap++k.P)) D:=⟨fun p hp=>by
   rcases List.mem_append.mp hp with hp | hp
   ·intro e;have:=fromSt p hp;rw [e,gD] at this;cases this
   ·exact oD.1 p (.tail _ hp),oD.2⟩
  have oCk:Own k C:=⟨fun p hp=>oC.1 p (.tail _ (.tail _ hp)),oC.2⟩
  have hnames2:(cenvOf scope C cs k.env).scope.names=cscope k.env.scope.names scope.names:=by
   obtain⟨G0,_,V0⟩:=S0
   exact relabel_cscope V0.fn
  have fin:∀ y arr n ws H' s',((k.inComp scope t C cs (storO G3 k.env s3.heap++k.P)).withP (D,listObj arr n)).St (y::ρ) H' s'→L2 VR arr.toList ws→arr.size≤lim→K' ws H'→compPost (model k.c.prog k.c.w) k.A E use Q' (.ref D) C (.ok .next) s':=by
   intro y arr n ws H' s' Sf hx hz hk
   obtain⟨m,oC',hm,hoC,ncC,hDn,S8⟩:=comp_fin V3' gP eC Sf oDb hx hz
   cases use with
   | none=>exact⟨m,hm,fun h' hs=>hfin D H' ws _ hk hDn (St_dropP oCk ncC S8 (tk:=s'.toks) fun b o hb e=>(hs.2 b hb).trans e)⟩
   | some u =>
    refine wpAny_mono (hfin D H' ws s' C oC' hk hDn S8) (fun _ s'' h''=>?_) fun _ _ e=>e
    obtain⟨ρ',S9,hq⟩:=h''
    refine⟨m,?_,fun h' hs=>hq _ (St_dropP oCk ncC S9 (tk:=s''.toks) fun b o hb e=>(hs.2 b hb).trans e)⟩
    obtain⟨G9,SC9,_⟩:=S9
    exact ns_ofP (k:=k) hm hoC (SC9.pv (C,oC') (.head _)).2
  have loop:codeAny (model k.c.prog k.c.w) k.A (.compLoop (.ListComp elt [⟨.Name t tp,iter,ifs,0⟩] scope pos) 0 (.ref I) (.ref D) (cenvOf scope C cs k.env)) (compPost (model k.c.prog k.c.w) k.A E use Q' (.ref D) C) { s2 with heap:=h4 } :=
   comp_loop (kb:=k.inComp scope t C cs (storO G3 k.env s3.heap++k.P)) hh oIb oDb hID rfl rfl CO.tt (fun P' v H s Qb St hq=>hc C cs P' v H s Qb St hnames2 hq) (fun P' v H s Q St hq=>he C cs P' v H s Q St hnames2 hq) fin it hok .nil (by show 0+xs.length≤lim;omega) S4 hv
  have getI:h4.get? I=some o:=St_getP S4 fun es n q=>by obtain⟨fvs,hf⟩:=it.fields;rw [hf] at q;cases q
  exact codeAny_compStart_list loop (iter_self (k:=k) it getI loop)
end
end Bm
namespace Bm
open PySem PySem.W PyProof.Rows PySem.SeqAt PySem.MeetsSeq
def SE (K:Frag) (sc:List (Str×NameKind)) (nm:List String) (e:Expr) (ir:IE):Prop:=∀ (k:Kx),k.Ok K→k.env.scope.names=sc→k.nm=nm→∀ (ρ:List AV) (H:AHeap) (s:Shared) (Q X:EQ),
 k.St ρ H s→vE k.T k.hd k.call ir ρ H Q X→wpAny (model k.c.prog k.c.w) k.A (eval e k.env) (k.RE ρ Q) (k.XE ρ X) s
def SB (K:Frag) (sc:List (Str×NameKind)) (nm:List String) (e:Expr) (ir:IE):Prop:=∀ (k:Kx),k.Ok K→k.env.scope.names=sc→k.nm=nm→∀ (ρ:List AV) (H:AHeap) (s:Shared) (Q X:EQ) (Qb:Bool→AHeap→Prop),
 k.St ρ H s→(∀ v H,Q v H→Bm.truthy v H fun b=>Qb b H)→vE k.T k.hd k.call ir ρ H Q X→wpAny (model k.c.prog k.c.w) k.A (isTrue e k.env (eval e k.env)) (k.RB ρ Qb) (k.XE ρ X) s
def Kx.RL (k:Kx) (ρ:List AV) (n:Nat) (Q:List AV→AHeap→Prop) (vs:List Value) (s':Shared):Prop:=∃ avs H',vs.length=n∧L2 VR vs avs∧k.St ρ H' s'∧Q avs H'
def SL (K:Frag) (sc:List (Str×NameKind)) (nm:List String) (es:List Expr) (xs:IEs):Prop:=∀ (k:Kx),k.Ok K→k.env.scope.names=sc→k.nm=nm→∀ (pos:Pos) (ρ:List AV) (H:AHeap) (s:Shared) (Q:List AV→AHeap→Prop) (X:EQ),
 k.St ρ H s→vEs k.T k.hd k.call xs ρ H Q X→wpAny (model k.c.prog k.c.w) k.A (spliced (backTo pos (starEach es k.env))) (k.RL ρ es.length Q) (k.XE ρ X) s
def Kx.RT (k:Kx) (ρ:List AV) (Q:Src→List AV→AHeap→Prop) (v:Value) (s':Shared):Prop:=∃ src xs H',k.St ρ H' s'∧IterOf src xs v H' s'.heap∧src.ok H'∧xs.length≤lim∧Q src xs H'
def ST (K:Frag) (sc:List (Str×NameKind)) (nm:List String) (e:Expr) (it:IT):Prop:=∀ (k:Kx),k.Ok K→k.env.scope.names=sc→k.nm=nm→∀ (ρ:List AV) (H:AHeap) (s:Shared) (Q:Src→List AV→AHeap→Prop) (X:EQ),
 k.St ρ H s→vT k.T k.hd k.call it ρ H Q X→wpAny (model k.c.prog k.c.w) k.A (eval e k.env) (k.RT ρ Q) (k.XE ρ X) s
section
variable {k:Kx} {ρ:List AV} {H:AHeap} {s:Shared} {Q X:EQ} {E:Value→Shared→Prop} {A:Around} {K:Frag} {M:Model} {sc:List (Str×NameKind)} {nm:List String}
theorem re_then {α:Type} {m:Sem Value} {f:Value→Sem α} {Q':α→Shared→Prop} (h:wpAny M A m (k.RE ρ Q) E s) (hf:∀ v av H' s',VR v av→k.St ρ H' s'→Q av H'→wpAny M A (f v) Q' E s'):wpAny M A (m >>= f) Q' E s :=
 wpAny_bind (wpAny_mono h (fun v s' ⟨av,H',hv,S',hq⟩=>hf v av H' s' hv S' hq) fun _ _ e=>e)
theorem re_held {α:Type} {vs:List Value} {m:Sem Value} {f:Value→Sem α} {Q':α→Shared→Prop} (h:wpAny M A m (k.RE ρ Q) E s) (hf:∀ v av H' s',VR v av→k.St ρ H' s'→Q av H'→wpAny M A (f v) Q' E s'):wpAny M A (holding vs m >>= f) Q' E s :=
 re_then (wpAny_holding h) hf
theorem re_on {m:Sem Value} {Q':Value→Shared→Prop} (h:wpAny M A m (k.RE ρ Q) E s) (hf:∀ v av H' s',VR v av→k.St ρ H' s'→Q av H'→Q' v s'):wpAny M A m Q' E s :=
 wpAny_mono h (fun v s' ⟨av,H',hv,S',hq⟩=>hf v av H' s' hv S' hq) fun _ _ e=>e
theorem vBin_cases {op':BOp} {x y:AV} (h:vBin op' x y H Q):(∃ a b,x=.int a∧y=.int b)∨(op'=.add∧∃ l m,x=.ref l∧y=.ref m)∨(op'=.mul∧∃ l n,x=.ref l∧y=.int n):=by
 unfold vBin at h
 split at h <;> first
  | exact .inl ⟨_,_,rfl,rfl⟩
  | exact .inr (.inl ⟨rfl,_,_,rfl,rfl⟩)
  | exact .inr (.inr ⟨rfl,_,_,rfl,rfl⟩)
  | exact h.elim
theorem p_bin {op:Operator} {op':BOp} (hop:bop op op'=true) {v w:Value} {x y:AV} (hv:VR v x) (hw:VR w y) (S:k.St ρ H s) (h:vBin op' x y H Q):wpAny (model k.c.prog k.c.w) A (binaryOp op v w) (k.RE ρ Q) E s:=by
 rcases vBin_cases h with ⟨a,b,rfl,rfl⟩ | ⟨rfl,l,m,rfl,rfl⟩ | ⟨rfl,l,n,rfl,rfl⟩
 ·cases hv;cases hw;exact p_bin_int hop S h
 ·cases hv;cases hw
  have:op=.Add:=by cases op <;> first | rfl | (exact absurd hop (by decide))
  subst this
  exact p_add_list S h
 ·cases hv;cases hw
  have:op=.Mult:=by cases op <;> first | rfl | (exact absurd hop (by decide))
  subst this
  exact p_mul_list S h
theorem s_bin {a b:Expr} {x y:IE} {op:Operator} {op':BOp} {pos:Pos} (hop:bop op op'=true) (ha:SE K sc nm a x) (hb:SE K sc nm b y):SE K sc nm (.BinOp a op b pos) (.bin op' x y):=by
 intro k O hsc hnm ρ H s Q X S h
 unfold vE at h
 rw [arm_eval_BinOp]
 refine re_then (ha k O hsc hnm _ _ _ _ _ S h) fun v av H1 s1 hv S1 h1=>?_
 refine re_held (hb k O hsc hnm _ _ _ _ _ S1 h1) fun w aw H2 s2 hw S2 h2=>?_
 exact wpAny_bind (wpAny_standAt (wpAny_operate' (p_bin hop hv hw S2 h2)))
theorem s_pow {p1 p2 pos:Pos} {a1 a2:Nat} {j e:Int} (he:e=60∨e=80∨e=99) (hj:j=10 ^ e.toNat):SE K sc nm (.BinOp (.Constant (.int 10) a1 p1) .Pow (.Constant (.int e) a2 p2) pos) (.c (.int j)):=by
 intro k O hsc hnm ρ H s Q X S h
 unfold vE at h
 rw [arm_eval_BinOp]
 refine wpAny_bind (wpAny_mkInt (wpAny_bind (wpAny_holding (wpAny_mkInt (wpAny_bind (wpAny_standAt (wpAny_operate' ?_)))))))
 have hb:¬Builtin.Int.intTooBig (((Builtin.Int.intBits 10:Nat):Int)*e)=true:=by
  rcases he with rfl | rfl | rfl <;> decide
 refine AutoIntOps.pow_4 (by rcases he with rfl | rfl | rfl <;> decide) (by rcases he with rfl | rfl | rfl <;> decide) (by decide) (by decide) hb ?_
 subst hj
 exact re_mk (.int _ _) ((S.toks _).toks _ |>.toks _) h
theorem s_neg {a:Expr} {x:IE} {pos:Pos} (ha:SE K sc nm a x):SE K sc nm (.UnaryOp .USub a pos) (.neg x):=by
 intro k O hsc hnm ρ H s Q X S h
 unfold vE at h
 exact UnaryOp_ (re_on (ha k O hsc hnm _ _ _ _ _ S h) fun v av H1 s1 hv S1 h1=>p_neg h1 hv S1)
theorem p_not {v:Value} {x:AV} (hv:VR v x) (S:k.St ρ H s) (h:Bm.truthy x H fun b=>Q (.bool (!b)) H):wpAny (model k.c.prog k.c.w) A (unaryOp .Not v) (k.RE ρ Q) E s :=
 not_of (wpAny_mono (p_truthy hv S (Q:=fun b H=>Q (.bool (!b)) H) h) (fun b s' ⟨H',S',hq⟩=>re_mk (.bool _) S' hq) fun _ _ e=>e)
theorem s_not {a:Expr} {x:IE} {pos:Pos} (ha:SE K sc nm a x):SE K sc nm (.UnaryOp .Not a pos) (.not x):=by
 intro k O hsc hnm ρ H s Q X S h
 unfold vE at h
 exact UnaryOp_ (re_on (ha k O hsc hnm _ _ _ _ _ S h) fun v av H1 s1 hv S1 h1=>p_not hv S1 h1)
theorem s_cmp {a b:Expr} {x y:IE} {op:CmpOp} {op':COp} {pos:Pos} (hop:cop op op'=true) (hm:lastMarks [op] [b]=false) (ha:SE K sc nm a x) (hb:SE K sc nm b y):SE K sc nm (.Compare a [op] [b] pos) (.cmp op' x y):=by
 intro k O hsc hnm ρ H s Q X S h
 unfold vE at h
 have hu:k.A.units+10 < cLine:=by have:=O.room.2;have:cLine=9900:=rfl;omega
 rw [arm_eval_Compare,markedEach_of_false _ _ _ hm]
 refine re_then (ha k O hsc hnm _ _ _ _ _ S h) fun v av H1 s1 hv S1 h1=>?_
 refine chain_last (re_on (hb k O hsc hnm _ _ _ _ _ S1 h1) fun w aw H2 s2 hw S2 h2=>?_)
 exact wpAny_mono (p_cmp hop hv hw hu S2 (Q:=fun b H=>Q (.bool b) H) h2) (fun r s' ⟨b,e,H',S',hq⟩=>by rw [e];exact re_mk (.bool _) S' hq) fun _ _ e=>e
def tv:AV→AHeap→Option Bool
 | .none,_=>some false
 | .bool b,_=>some b
 | .int i,_=>some (decide (i≠0))
 | .ref a,H=>(match H a with
  | some (.list xs)=>some (!xs.isEmpty)
  | _=>Option.none)
 | .undef,_=>Option.none
theorem truthy_iff {v:AV} {F:Bool→Prop}:Bm.truthy v H F↔∃ b,tv v H=some b∧F b:=by
 unfold Bm.truthy tv
 cases v with
 | ref a =>
  dsimp only
  cases hH:H a with
  | none=>exact⟨fun h=>h.elim,fun⟨b,e,_⟩=>nomatch e⟩
  | some ao=>cases ao <;> first | exact⟨fun h=>h.elim,fun⟨b,e,_⟩=>nomatch e⟩ | exact⟨fun h=>⟨_,rfl,h⟩,fun⟨b,e,h⟩=>by cases e;exact h⟩
 | undef=>exact⟨fun h=>h.elim,fun⟨b,e,_⟩=>nomatch e⟩
 | _=>exact⟨fun h=>⟨_,rfl,h⟩,fun⟨b,e,h⟩=>by cases e;exact h⟩
theorem b_cmp {a b:Expr} {x y:IE} {op:CmpOp} {op':COp} {pos:Pos} (hop:cop op op'=true) (hm:lastMarks [op] [b]=false) (ha:SE K sc nm a x) (hb:SE K sc nm b y):SB K sc nm (.Compare a [op] [b] pos) (.cmp op' x y):=by
 intro k O hsc hnm ρ H s Q X Qb S hQ h
 unfold vE at h
 have hu:k.A.units+10 < cLine:=by have:=O.room.2;have:cLine=9900:=rfl;omega
 rw [arm_isTrue_Compare,markedEach_of_false _ _ _ hm]
 refine re_then (ha k O hsc hnm _ _ _ _ _ S h) fun v av H1 s1 hv S1 h1=>?_
 refine test_last (re_on (hb k O hsc hnm _ _ _ _ _ S1 h1) fun w aw H2 s2 hw S2 h2=>?_)
 refine wpAny_mono (p_cmp hop hv hw hu S2 (Q:=fun b H=>Q (.bool b) H) h2) (fun r s' ⟨b,e,H',S',hq⟩=>?_) fun _ _ e=>e
 rw [e];exact p_truthy (.bool b) S' (hQ _ _ hq)
theorem s_cmp2 {a b d:Expr} {x y z:IE} {op1 op2:CmpOp} {o1 o2:COp} {pos:Pos} (hop1:cop op1 o1=true) (hop2:cop op2 o2=true) (hm:lastMarks [op1,op2] [b,d]=false) (ha:SE K sc nm a x) (hb:SE K sc nm b y) (hd:SE K sc nm d z) :
  SE K sc nm (.Compare a [op1,op2] [b,d] pos) (.cmp2 o1 o2 x y z):=by
 intro k O hsc hnm ρ H s Q X S h
 unfold vE at h
 have hu:k.A.units+10 < cLine:=by have:=O.room.2;have:cLine=9900:=rfl;omega
 refine Compare_chain (re_on (ha k O hsc hnm _ _ _ _ _ S h) fun v av H1 s1 hv S1 h1=>?_) hm
 refine chain_link (re_on (hb k O hsc hnm _ _ _ _ _ S1 h1) fun w aw H2 s2 hw S2 h2=>?_)
 refine wpAny_mono (p_cmp hop1 hv hw hu S2 (Q:=fun b H=>if b=true then vE k.T k.hd k.call z ρ H (fun z H=>vCmp o2 aw z H fun r=>Q (.bool r) H) X else Q (.bool false) H) h2) (fun r s' ⟨b,e,H',S',hq⟩=>?_) fun _ _ e=>e
 rw [e]
 refine wpAny_mono (p_truthy (.bool b) S' (Q:=fun c H=>c=b∧if b=true then vE k.T k.hd k.call z ρ H (fun z H=>vCmp o2 aw z H fun r=>Q (.bool r) H) X else Q (.bool false) H) ⟨rfl,hq⟩) (fun c s3 ⟨H3,S3,hc,h3⟩=>?_) fun _ _ e=>e
 subst hc
 cases c with
 | false=>rw [if_neg Bool.false_ne_true] at h3 ⊢;exact re_mk (.bool _) S3 h3
 | true =>
  rw [if_pos rfl] at h3 ⊢
  refine chain_last (re_on (hd k O hsc hnm _ _ _ _ _ S3 h3) fun u au H4 s4 hu4 S4 h4=>?_)
  exact wpAny_mono (p_cmp hop2 hw hu4 hu S4 (Q:=fun b H=>Q (.bool b) H) h4) (fun r s' ⟨b,e,H',S',hq⟩=>by rw [e];exact re_mk (.bool _) S' hq) fun _ _ e=>e
theorem b_cmp2 {a b d:Expr} {x y z:IE} {op1 op2:CmpOp} {o1 o2:COp} {pos:Pos} (hop1:cop op1 o1=true) (hop2:cop op2 o2=true) (hm:lastMarks [op1,op2] [b,d]=false) (ha:SE K sc nm a x) (hb:SE K sc nm b y) (hd:SE K sc nm d z) :
  SB K sc nm (.Compare a [op1,op2] [b,d] pos) (.cmp2 o1 o2 x y z):=by
 intro k O hsc hnm ρ H s Q X Qb S hQ h
 unfold vE at h
 have hu:k.A.units+10 < cLine:=by have:=O.room.2;have:cLine=9900:=rfl;omega
 refine isTrue_chain (re_on (ha k O hsc hnm _ _ _ _ _ S h) fun v av H1 s1 hv S1 h1=>?_) hm
 refine test_link (re_on (hb k O hsc hnm _ _ _ _ _ S1 h1) fun w aw H2 s2 hw S2 h2=>?_)
 refine wpAny_mono (p_cmp hop1 hv hw hu S2 (Q:=fun b H=>if b=true then vE k.T k.hd k.call z ρ H (fun z H=>vCmp o2 aw z H fun r=>Q (.bool r) H) X else Q (.bool false) H) h2) (fun r s' ⟨b,e,H',S',hq⟩=>?_) fun _ _ e=>e
 rw [e]
 refine wpAny_mono (p_truthy (.bool b) S' (Q:=fun c H=>c=b∧if b=true then vE k.T k.hd k.call z ρ H (fun z H=>vCmp o2 aw z H fun r=>Q (.bool r) H) X else Q (.bool false) H) ⟨rfl,hq⟩) (fun c s3 ⟨H3,S3,hc,h3⟩=>?_) fun _ _ e=>e
 subst hc
 cases c with
 | false=>rw [if_neg Bool.false_ne_true] at h3 ⊢;exact⟨_,S3,hQ _ _ h3⟩
 | true =>
  rw [if_pos rfl] at h3 ⊢
  refine test_last (re_on (hd k O hsc hnm _ _ _ _ _ S3 h3) fun u au H4 s4 hu4 S4 h4=>?_)
  refine wpAny_mono (p_cmp hop2 hw hu4 hu S4 (Q:=fun b H=>Q (.bool b) H) h4) (fun r s' ⟨b,e,H',S',hq⟩=>?_) fun _ _ e=>e
  rw [e];exact p_truthy (.bool b) S' (hQ _ _ hq)
theorem s_and {e e2:Expr} {r:List Expr} {x y:IE} {pos:Pos} (ha:SE K sc nm e x) (hb:SE K sc nm (.BoolOp .And (e2::r) pos) y):SE K sc nm (.BoolOp .And (e::e2::r) pos) (.and x y):=by
 intro k O hsc hnm ρ H s Q X S h
 unfold vE at h
 refine BoolOp_and (re_on (ha k O hsc hnm _ _ _ _ _ S h) fun v av H1 s1 hv S1 h1=>?_)
 refine wpAny_mono (p_truthy hv S1 (Q:=fun t H=>if t=true then vE k.T k.hd k.call y ρ H Q X else Q av H) h1) (fun c s2 ⟨H2,S2,h2⟩=>?_) fun _ _ e=>e
 cases c with
 | false=>rw [if_neg Bool.false_ne_true] at h2 ⊢;exact re_mk hv S2 h2
 | true=>rw [if_pos rfl] at h2 ⊢;exact hb k O hsc hnm _ _ _ _ _ S2 h2
theorem s_or {e e2:Expr} {r:List Expr} {x y:IE} {pos:Pos} (ha:SE K sc nm e x) (hb:SE K sc nm (.BoolOp .Or (e2::r) pos) y):SE K sc nm (.BoolOp .Or (e::e2::r) pos) (.or x y):=by
 intro k O hsc hnm ρ H s Q X S h
 unfold vE at h
 refine BoolOp_or (re_on (ha k O hsc hnm _ _ _ _ _ S h) fun v av H1 s1 hv S1 h1=>?_)
 refine wpAny_mono (p_truthy hv S1 (Q:=fun t H=>if t=true then Q av H else vE k.T k.hd k.call y ρ H Q X) h1) (fun c s2 ⟨H2,S2,h2⟩=>?_) fun _ _ e=>e
 cases c with
 | false=>rw [if_neg Bool.false_ne_true] at h2 ⊢;exact hb k O hsc hnm _ _ _ _ _ S2 h2
 | true=>rw [if_pos rfl] at h2 ⊢;exact re_mk hv S2 h2
theorem b_and {e:Expr} {r:List Expr} {x y:IE} {pos:Pos} (ha:SB K sc nm e x) (hb:SB K sc nm (.BoolOp .And r pos) y):SB K sc nm (.BoolOp .And (e::r) pos) (.and x y):=by
 intro k O hsc hnm ρ H s Q X Qb S hQ h
 unfold vE at h
 refine isTrue_and (wpAny_mono (ha k O hsc hnm ρ H s _ X (fun t H=>if t=true then vE k.T k.hd k.call y ρ H Q X else Qb false H) S (fun v H hv=>?_) h) (fun c s2 ⟨H2,S2,h2⟩=>?_) fun _ _ e=>e)
 ·obtain⟨b,h1,h2⟩:=truthy_iff.mp hv
  refine truthy_iff.mpr ⟨b,h1,?_⟩
  cases b with
  | true=>exact h2
  | false =>
   obtain⟨b',h3,h4⟩:=truthy_iff.mp (hQ _ _ h2)
   rw [h1] at h3;cases h3;exact h4
 ·cases c with
  | false=>rw [if_neg Bool.false_ne_true] at h2 ⊢;exact⟨_,S2,h2⟩
  | true=>rw [if_pos rfl] at h2 ⊢;exact hb k O hsc hnm _ _ _ _ _ _ S2 hQ h2
theorem b_or {e:Expr} {r:List Expr} {x y:IE} {pos:Pos} (ha:SB K sc nm e x) (hb:SB K sc nm (.BoolOp .Or r pos) y):SB K sc nm (.BoolOp .Or (e::r) pos) (.or x y):=by
 intro k O hsc hnm ρ H s Q X Qb S hQ h
 unfold vE at h
 refine isTrue_or (wpAny_mono (ha k O hsc hnm ρ H s _ X (fun t H=>if t=true then Qb true H else vE k.T k.hd k.call y ρ H Q X) S (fun v H hv=>?_) h) (fun c s2 ⟨H2,S2,h2⟩=>?_) fun _ _ e=>e)
 ·obtain⟨b,h1,h2⟩:=truthy_iff.mp hv
  refine truthy_iff.mpr ⟨b,h1,?_⟩
  cases b with
  | false=>exact h2
  | true =>
   obtain⟨b',h3,h4⟩:=truthy_iff.mp (hQ _ _ h2)
   rw [h1] at h3;cases h3;exact h4
 ·cases c with
  | false=>rw [if_neg Bool.false_ne_true] at h2 ⊢;exact hb k O hsc hnm _ _ _ _ _ _ S2 hQ h2
  | true=>rw [if_pos rfl] at h2 ⊢;exact⟨_,S2,h2⟩
theorem b_one_and {e:Expr} {x:IE} {pos:Pos} (ha:SB K sc nm e x):SB K sc nm (.BoolOp .And [e] pos) x:=by
 intro k O hsc hnm ρ H s Q X Qb S hQ h
 refine isTrue_and (wpAny_mono (ha k O hsc hnm ρ H s _ X _ S hQ h) (fun c s2 h2=>?_) fun _ _ e=>e)
 cases c with
 | false=>rw [if_neg Bool.false_ne_true];exact h2
 | true=>rw [if_pos rfl];exact isTrue_and_nil h2
theorem b_one_or {e:Expr} {x:IE} {pos:Pos} (ha:SB K sc nm e x):SB K sc nm (.BoolOp .Or [e] pos) x:=by
 intro k O hsc hnm ρ H s Q X Qb S hQ h
 refine isTrue_or (wpAny_mono (ha k O hsc hnm ρ H s _ X _ S hQ h) (fun c s2 h2=>?_) fun _ _ e=>e)
 cases c with
 | false=>rw [if_neg Bool.false_ne_true];exact isTrue_or_nil h2
 | true=>rw [if_pos rfl];exact h2
theorem b_not {a:Expr} {x:IE} {pos:Pos} (ha:SB K sc nm a x):SB K sc nm (.UnaryOp .Not a pos) (.not x):=by
 intro k O hsc hnm ρ H s Q X Qb S hQ h
 unfold vE at h
 refine isTrue_not (wpAny_mono (ha k O hsc hnm ρ H s _ X (fun b H=>Qb (!b) H) S (fun v H hv=>?_) h) (fun c s2 ⟨H2,S2,h2⟩=>⟨H2,S2,h2⟩) fun _ _ e=>e)
 obtain⟨b,h1,h2⟩:=truthy_iff.mp hv
 exact truthy_iff.mpr ⟨b,h1,hQ _ _ h2⟩
theorem s_ife {t a b:Expr} {x y z:IE} {pos:Pos} (ht:SB K sc nm t x) (ha:SE K sc nm a y) (hb:SE K sc nm b z):SE K sc nm (.IfExp t a b pos) (.ife x y z):=by
 intro k O hsc hnm ρ H s Q X S h
 unfold vE at h
 refine IfExp_ (wpAny_mono (ht k O hsc hnm ρ H s _ X (fun r H=>if r=true then vE k.T k.hd k.call y ρ H Q X else vE k.T k.hd k.call z ρ H Q X) S (fun v H hv=>hv) h) (fun c s2 ⟨H2,S2,h2⟩=>?_) fun _ _ e=>e)
 cases c with
 | false=>rw [if_neg Bool.false_ne_true] at h2 ⊢;exact hb k O hsc hnm _ _ _ _ _ S2 h2
 | true=>rw [if_pos rfl] at h2 ⊢;exact ha k O hsc hnm _ _ _ _ _ S2 h2
theorem b_ife {t a b:Expr} {x y z:IE} {pos:Pos} (ht:SB K sc nm t x) (ha:SB K sc nm a y) (hb:SB K sc nm b z):SB K sc nm (.IfExp t a b pos) (.ife x y z):=by
 intro k O hsc hnm ρ H s Q X Qb S hQ h
 unfold vE at h
 refine isTrue_IfExp (wpAny_mono (ht k O hsc hnm ρ H s _ X (fun r H=>if r=true then vE k.T k.hd k.call y ρ H Q X else vE k.T k.hd k.call z ρ H Q X) S (fun v H hv=>hv) h) (fun c s2 ⟨H2,S2,h2⟩=>?_) fun _ _ e=>e)
 cases c with
 | false=>rw [if_neg Bool.false_ne_true] at h2 ⊢;exact hb k O hsc hnm _ _ _ _ _ _ S2 hQ h2
 | true=>rw [if_pos rfl] at h2 ⊢;exact ha k O hsc hnm _ _ _ _ _ _ S2 hQ h2
theorem b_plain {e:Expr} {x:IE} (ha:SE K sc nm e x) (he:∀ env whole,isTrue e env whole=(do let v ← whole;standAt e.pos;holding [v] (PySem.truthy v))):SB K sc nm e x:=by
 intro k O hsc hnm ρ H s Q X Qb S hQ h
 exact isTrue_plain (re_on (ha k O hsc hnm _ _ _ _ _ S h) fun v av H1 s1 hv S1 h1=>p_truthy hv S1 (hQ _ _ h1)) (he _ _)
end
end Bm
namespace Bm
open PySem PySem.W PyProof.Rows PySem.SeqAt PySem.MeetsSeq
section
variable {k:Kx} {ρ:List AV} {H:AHeap} {s:Shared} {Q X:EQ} {E:Value→Shared→Prop} {A:Around} {K:Frag} {M:Model} {sc:List (Str×NameKind)} {nm:List String}
theorem s_loc {x:Str} {i:Nat} {pos:Pos} (hd:x≠"__debug__") (hc:x≠"__classdict__") (hi:idx x nm=some i) (hk:okKind (sc.lookup x)=true):SE K sc nm (.Name x pos) (.loc i):=by
 intro k O hsc hnm ρ H s Q X S h
 unfold vE at h
 exact p_loc hd hc (by rw [hnm];exact hi) (by show okKind (k.env.scope.names.lookup x)=true;rw [hsc];exact hk) S h
theorem isG_of {x:Str} (h:isG sc nm x=true):idx x nm=none∧sc.lookup x=some .globalImplicit∧x≠"__debug__":=by
 unfold isG at h
 simp only [Bool.and_eq_true,decide_eq_true_eq] at h
 exact⟨h.1.1,h.1.2,h.2⟩
theorem s_gint {x:Str} {j:Int} {pos:Pos} (hg:isG sc nm x=true) (hj:gint x gInts=some j):SE K sc nm (.Name x pos) (.c (.int j)):=by
 intro k O hsc hnm ρ H s Q X S h
 unfold vE at h
 obtain⟨_,h2,h3⟩:=isG_of hg
 obtain⟨mg,m1,m2,_⟩:=O.F.glob
 obtain⟨t,ht⟩:=m2 x j hj
 exact p_glob (by show k.env.scope.names.lookup x=_;rw [hsc];exact h2) h3 m1 ht S (re_mk (.int _ _) S h)
theorem l_nil:SL K sc nm [] .nil:=by
 intro k O hsc hnm pos ρ H s Q X S h
 unfold vEs at h
 exact wpAny_pure ⟨[],H,rfl,.nil,S,h⟩
theorem l_cons {e:Expr} {r:List Expr} {x:IE} {xs:IEs} (hs:isStar e=false) (ha:SE K sc nm e x) (hb:SL K sc nm r xs):SL K sc nm (e::r) (.cons x xs):=by
 intro k O hsc hnm pos ρ H s Q X S h
 unfold vEs at h
 rw [starEach_cons hs,backTo_cons]
 unfold spliced
 refine re_then (ha k O hsc hnm _ _ _ _ _ S h) fun v av H1 s1 hv S1 h1=>?_
 refine wpAny_bind (wpAny_pure ?_)
 refine wpAny_bind (wpAny_holding (wpAny_mono (hb k O hsc hnm pos _ _ _ _ _ S1 h1) (fun vs s2 ⟨avs,H2,hn,hvs,S2,h2⟩=>?_) fun _ _ e=>e))
 exact wpAny_pure ⟨_,H2,by show vs.length+1=r.length+1;rw [hn],.cons hv hvs,S2,h2⟩
theorem s_list {es:List Expr} {xs:IEs} {pos:Pos} (hl:es.length < 20) (h0:SL K sc nm es xs):SE K sc nm (.List es pos) (.list xs):=by
 intro k O hsc hnm ρ H s Q X S h
 unfold vE at h
 refine wpAny_List (wpAny_mono (h0 k O hsc hnm pos _ _ _ _ _ S h) (fun vs s2 ⟨avs,H2,hn,hvs,S2,h2⟩=>?_) fun _ _ e=>e)
 have hz:vs.length≤lim:=by unfold lim;omega
 exact⟨lim_line hz,St_newL S2 (arr:=vs.toArray) hvs (by rw [List.size_toArray];exact hz) s2.toks h2⟩
theorem s_tup {es:List Expr} {xs:IEs} {n:Nat} {pos:Pos} (hl:es.length < 20) (h0:SL K sc nm es xs):SE K sc nm (.Tuple es n pos) (.tup xs):=by
 intro k O hsc hnm ρ H s Q X S h
 unfold vE at h
 refine wpAny_Tuple (wpAny_mono (h0 k O hsc hnm pos _ _ _ _ _ S h) (fun vs s2 ⟨avs,H2,hn,hvs,S2,h2⟩=>?_) fun _ _ e=>e)
 have hz:vs.length≤lim:=by unfold lim;omega
 exact⟨lim_line hz,St_newT S2 (arr:=vs.toArray) hvs (by rw [List.size_toArray];exact hz) s2.toks h2⟩
theorem s_dict0 {pos:Pos}:SE K sc nm (.Dict [] [] pos) .dict0:=by
 intro k O hsc hnm ρ H s Q X S h
 unfold vE at h
 exact p_dict0 O S h
theorem XE_drop {p:Addr×Obj} (hp:∀ v,p.2.data≠.cell v) {e:Value} {s':Shared} (h:(k.withP p).XE ρ X e s'):k.XE ρ X e s':=by
 obtain⟨G,ea,n,H',m,h1,S,V,h2,h3,h4⟩:=h
 refine⟨G,ea,n,H',m,h1,S.lessP fun q hq=>.tail _ hq,V.subP fun c o v hm hd=>?_,h2,h3,h4⟩
 rcases List.mem_cons.mp hm with z | z
 ·cases z;exact absurd hd (hp v)
 ·exact z
theorem s_deck {a b:Expr} {x y:IE} {m1 m2:String} {n1 n2:Nat} {p1 p2 pos:Pos} (ha:SE K sc nm a x) (hb:SE K sc nm b y) :
  SE K sc nm (.Dict [some (.Constant (.str (Str.ofString m1)) n1 p1),some (.Constant (.str (Str.ofString m2)) n2 p2)] [a,b] pos) (.deck m1 m2 x y):=by
 intro k O hsc hnm ρ H s Q X S h
 unfold vE at h
 have hold:=St_old S
 have S0:=St_protect S { cls:=.type "dict",data:=.dict #[] } rfl s.toks
 have nc:∀ v,({ cls:=.type "dict",data:=.dict #[] }:Obj).data≠.cell v:=fun v q=>by cases q
 have hl:s.heap.NoLimit:=by
  obtain⟨G,S1,_⟩:=S
  exact O.F.nolim.keeps fun b o e=>(S1.keep b o e).2
 have hsys:=low_sys hl
 generalize hD:s.heap.objs.size=D at *
 refine wpAny_Dict_pairs (knd:=strKind k.c.prog k.c.w) (pairs:=[(eval (.Constant (.str (Str.ofString m1)) n1 p1) k.env,do let x ← eval a k.env;standAt pos;pure x),(eval (.Constant (.str (Str.ofString m2)) n2 p2) k.env,do let x ← eval b k.env;standAt pos;pure x)]) rfl (by simp) (by simp) ?_
 rw [hD]
 generalize ho0:({ cls:=.type "dict",data:=.dict #[] }:Obj)=o0 at *
 have O':=O.withP (D,o0)
 unfold evalPairs
 refine wpAny_bind (wpAny_Constant_str ?_)
 refine re_held (k:=k.withP (D,o0)) (ρ:=ρ) (Q:=fun x H=>vE k.T k.hd k.call y ρ H (fun y H=>m1≠m2∧∀ a,H a=none→Q (.ref a) (upd H a (.deck [(m1,x),(m2,y)]))) X) ?_ fun v av H1 s1 hv S1 h1=>?_
 ·refine wpAny_bind (wpAny_mono (ha (k.withP (D,o0)) O' hsc hnm ρ H _ _ X (S0.toks _) h) (fun v s1 h1=>wpAny_bind (wpAny_standAt (wpAny_pure h1))) fun _ _ e=>XE_drop (p:=(D,o0)) nc e)
 refine wpAny_bind (wpAny_holding ?_)
 unfold evalPairs
 refine wpAny_bind (wpAny_Constant_str ?_)
 refine re_held (k:=k.withP (D,o0)) (ρ:=ρ) (Q:=fun y H=>m1≠m2∧∀ a,H a=none→Q (.ref a) (upd H a (.deck [(m1,av),(m2,y)]))) ?_ fun w aw H2 s2 hw S2 h2=>?_
 ·refine wpAny_bind (wpAny_mono (hb (k.withP (D,o0)) O' hsc hnm ρ H1 _ _ X (S1.toks _) h1) (fun v s1 h1=>wpAny_bind (wpAny_standAt (wpAny_pure h1))) fun _ _ e=>XE_drop (p:=(D,o0)) nc e)
 refine wpAny_bind (wpAny_holding ?_)
 unfold evalPairs
 refine wpAny_pure (wpAny_pure (wpAny_pure ⟨[(Str.ofString m1,v),(Str.ofString m2,w)],?_,?_,fun h' hd hs=>?_⟩))
 ·exact⟨strKind_is _ _ _ _,rfl,strKind_is _ _ _ _,rfl,trivial⟩
 ·obtain⟨G2,SC2,_⟩:=S2
  obtain⟨o,es,ep,e1,e2,e3,e4⟩:=Heap.DictOf.new (knd:=strKind k.c.prog k.c.w) s.heap
  have e5:o=o0:=by rw [← ho0];rw [Heap.get?_push_size _ rfl] at e1;cases e1;rfl
  subst e5
  rcases(SC2.pv (D,o) (.head _)).2 with z | ⟨⟨⟨e,he,z⟩,_⟩,_⟩
  ·exact⟨o,es,ep,z,e2,e3,e4⟩
  ·exact absurd z (hold.2 e he)
 ·have hne:Str.ofString m1≠Str.ofString m2:=fun e=>h2.1 (ofString_inj e)
  have em:merged [] [(Str.ofString m1,v),(Str.ofString m2,w)]=[(Str.ofString m1,v),(Str.ofString m2,w)]:=by
   simp [merged,stored,hne]
  rw [em] at hd
  obtain⟨hn,S3⟩:=St_release (k:=k) (o:=o0) S2 nc hold.1 (tk:=s2.toks+2) (ao:=.deck [(m1,av),(m2,aw)]) hs (fun G=>(⟨_,hd,.cons ⟨rfl,hv⟩ (.cons ⟨rfl,hw⟩ .nil),by show 2≤lim;unfold lim;omega,hsys⟩:Ob k.c _ h' D (.deck [(m1,av),(m2,aw)]))) hold.2
  exact⟨_,_,.ref _,S3,h2.2 _ hn⟩
theorem s_attr {v:Expr} {x:IE} {m:String} {pos:Pos} (hb:bare v=false) (ha:SE K sc nm v x):SE K sc nm (.Attribute v (Str.ofString m) pos) (.attr x m):=by
 intro k O hsc hnm ρ H s Q X S h
 unfold vE at h
 rw [arm_eval_Attribute,bare_base hb]
 refine re_then (ha k O hsc hnm _ _ _ _ _ S h) fun v av H1 s1 hv S1 h1=>?_
 refine wpAny_bind (wpAny_standAt ?_)
 refine re_held (p_attr O.F hv S1 (Q:=Q) h1) fun r ar H2 s2 hr S2 h2=>?_
 exact wpAny_bind (wpAny_letTemporaryGo (wpAny_pure (re_mk hr S2 h2)))
theorem s_idx {v i:Expr} {x y:IE} {pos:Pos} (ha:SE K sc nm v x) (hb:SE K sc nm i y):SE K sc nm (.Subscript v i pos) (.idx x y):=by
 intro k O hsc hnm ρ H s Q X S h
 unfold vE at h
 refine Subscript_ (re_on (ha k O hsc hnm _ _ _ _ _ S h) fun v av H1 s1 hv S1 h1=>?_)
 refine re_on (hb k O hsc hnm _ _ _ _ _ S1 h1) fun w aw H2 s2 hw S2 h2=>?_
 exact p_idx hv hw S2 h2
theorem s_key {v:Expr} {x:IE} {m:String} {n:Nat} {p pos:Pos} (ha:SE K sc nm v x):SE K sc nm (.Subscript v (.Constant (.str (Str.ofString m)) n p) pos) (.key x m):=by
 intro k O hsc hnm ρ H s Q X S h
 unfold vE at h
 refine Subscript_ (re_on (ha k O hsc hnm _ _ _ _ _ S h) fun v av H1 s1 hv S1 h1=>?_)
 exact wpAny_Constant_str (p_key hv (S1.toks _) h1)
theorem sl_at {Q':EQ} {x:AV} {F:List AV→List AV} (h:match x with
   | .ref l=>(match H l with | some (.list xs)=>∀ a,H a=none→Q' (.ref a) (upd H a (.list (F xs))) | _=>False)
   | _=>False):∃ l xs,x=.ref l∧H l=some (.list xs)∧∀ a,H a=none→Q' (.ref a) (upd H a (.list (F xs))):=by
 cases x <;> first | exact h.elim | skip
 rename_i l
 dsimp only at h
 cases hl:H l with
 | none=>rw [hl] at h;exact h.elim
 | some ao =>
  rw [hl] at h
  cases ao <;> first | exact h.elim | skip
  rename_i xs
  exact⟨l,xs,rfl,hl,h⟩
theorem sl_ro {Q':EQ} {x:AV} {F:List AV→List AV} (h:match x with
   | .ref l=>(match H l with | some (.ro xs)=>∀ a,H a=none→Q' (.ref a) (upd H a (.list (F xs))) | _=>False)
   | _=>False):∃ l xs,x=.ref l∧H l=some (.ro xs)∧∀ a,H a=none→Q' (.ref a) (upd H a (.list (F xs))):=by
 cases x <;> first | exact h.elim | skip
 rename_i l
 dsimp only at h
 cases hl:H l with
 | none=>rw [hl] at h;exact h.elim
 | some ao =>
  rw [hl] at h
  cases ao <;> first | exact h.elim | skip
  rename_i xs
  exact⟨l,xs,rfl,hl,h⟩
theorem s_upto {v:Expr} {x:IE} {m:Nat} {kk:Nat} {p1 p2 pos:Pos} (ha:SE K sc nm v x):SE K sc nm (.Subscript v (.Slice none (some (.Constant (.int (m:Int)) kk p1)) none p2) pos) (.upto x m):=by
 intro k O hsc hnm ρ H s Q X S h
 unfold vE at h
 refine Subscript_ (re_on (ha k O hsc hnm _ _ _ _ _ S h) fun v av H1 s1 hv S1 h1=>?_)
 obtain⟨l,xs,rfl,hl,hq⟩:=sl_ro (F:=fun xs=>xs.take m) h1
 cases hv
 refine wpAny_Slice ?_
 rw [evalPart_none,evalPart_some]
 refine wpAny_pure (wpAny_mkInt (wpAny_pure ?_))
 refine p_slice (tk:=s1.toks+1) (S1.toks _) (.inr hl) .none (.int _ _) .none (by simp) (fun arr hx=>?_) hq
 rw [slicePick_upto']
 exact hx.take m
theorem s_all {v:Expr} {x:IE} {p2 pos:Pos} (ha:SE K sc nm v x):SE K sc nm (.Subscript v (.Slice none none none p2) pos) (.all x):=by
 intro k O hsc hnm ρ H s Q X S h
 unfold vE at h
 refine Subscript_ (re_on (ha k O hsc hnm _ _ _ _ _ S h) fun v av H1 s1 hv S1 h1=>?_)
 obtain⟨l,xs,rfl,hl,hq⟩:=sl_at (F:=fun xs=>xs) h1
 cases hv
 refine wpAny_Slice ?_
 rw [evalPart_none]
 refine wpAny_pure (wpAny_pure (wpAny_pure ?_))
 refine p_slice (tk:=s1.toks) S1 (.inl hl) .none .none .none (by simp) (fun arr hx=>?_) hq
 rw [slicePick_all]
 exact hx
theorem s_rev {v:Expr} {x:IE} {kk:Nat} {p0 p1 p2 pos:Pos} (ha:SE K sc nm v x):SE K sc nm (.Subscript v (.Slice none none (some (.UnaryOp .USub (.Constant (.int 1) kk p0) p1)) p2) pos) (.rev x):=by
 intro k O hsc hnm ρ H s Q X S h
 unfold vE at h
 refine Subscript_ (re_on (ha k O hsc hnm _ _ _ _ _ S h) fun v av H1 s1 hv S1 h1=>?_)
 obtain⟨l,xs,rfl,hl,hq⟩:=sl_at (F:=fun xs=>xs.reverse) h1
 cases hv
 refine wpAny_Slice ?_
 rw [evalPart_none,evalPart_some]
 refine wpAny_pure (wpAny_pure (UnaryOp_ (wpAny_mkInt (P.neg_int ?_))))
 refine p_slice (tk:=_) ((S1.toks _).toks _) (.inl hl) .none .none (.int _ _) (by decide) (fun arr hx=>?_) hq
 rw [krv_pick]
 exact hx.reverse
theorem eval_CallName {f:Str} {fp pos:Pos} {args:List Expr} {env:Env}:eval (.Call (.Name f fp) args [] pos) env=(do callWith pos (← eval (.Name f fp) env) [] (backTo pos (starEach args env)) []):=rfl
theorem glob_ok {x:Str} (hg:isG sc nm x=true) (hsc:k.env.scope.names=sc):k.env.kindOf x=some .globalImplicit∧x≠"__debug__":=by
 obtain⟨_,h2,h3⟩:=isG_of hg
 exact⟨by show k.env.scope.names.lookup x=_;rw [hsc];exact h2,h3⟩
theorem s_call {f:Str} {fp pos:Pos} {args:List Expr} {a:Nat} {es:IEs} (hg:isG sc nm f=true) (hf:gnat f gFns=some a) (hs:args.all (fun e=>!isStar e)=true) (h0:SL K sc nm args es):SE K sc nm (.Call (.Name f fp) args [] pos) (.call a es):=by
 intro k O hsc hnm ρ H s Q X S h
 unfold vE at h
 rw [eval_CallName]
 obtain⟨g1,g2⟩:=glob_ok (k:=k) hg hsc
 obtain⟨mg,m1,_,m3,_⟩:=O.F.glob
 refine wpAny_bind (p_glob g1 g2 m1 (m3 f a hf) S ?_)
 refine with_K (O.F.keepF f a hf) hs (wpAny_mono (h0 k O hsc hnm pos _ _ _ _ _ S h) (fun vs s2 ⟨avs,H2,hn,hvs,S2,h2⟩=>?_) fun _ _ e=>e)
 refine⟨?_,p_callf O hvs S2 h2⟩
 obtain⟨G2,SC2,_⟩:=S2
 exact keepK O.F SC2
theorem s_new {f:Str} {fp pos:Pos} {args:List Expr} {a:Nat} {es:IEs} (hg:isG sc nm f=true) (hf:gnat f gCls=some a) (hs:args.all (fun e=>!isStar e)=true) (h0:SL K sc nm args es):SE K sc nm (.Call (.Name f fp) args [] pos) (.new a es):=by
 intro k O hsc hnm ρ H s Q X S h
 unfold vE at h
 rw [eval_CallName]
 obtain⟨g1,g2⟩:=glob_ok (k:=k) hg hsc
 obtain⟨mg,m1,_,_,m3,_⟩:=O.F.glob
 refine wpAny_bind (p_glob g1 g2 m1 (m3 f a hf) S ?_)
 cases hi:k.T.ini a with
 | none =>
  rw [hi] at h
  refine with_K (O.F.keepC f a hf) hs (wpAny_mono (h0 k O hsc hnm pos _ _ _ _ _ S h) (fun vs s2 ⟨avs,H2,hn,hvs,S2,h2⟩=>h2.elim) fun _ _ e=>e)
 | some fi =>
  rw [hi] at h
  refine with_K (O.F.ini a fi hi).1 hs (wpAny_mono (h0 k O hsc hnm pos _ _ _ _ _ S h) (fun vs s2 ⟨avs,H2,hn,hvs,S2,h2⟩=>?_) fun _ _ e=>e)
  refine⟨?_,p_new O hi hvs S2 h2⟩
  obtain⟨G2,SC2,_⟩:=S2
  exact keepK O.F SC2
theorem listM_cases {n:String} (h:listM n=true):n = "append"∨n = "pop"∨n = "remove":=by
 unfold listM at h
 simp only [Bool.or_eq_true,decide_eq_true_eq] at h
 rcases h with (h | h) | h
 ·exact .inl h
 ·exact .inr (.inl h)
 ·exact .inr (.inr h)
theorem s_meth {o:Expr} {m:String} {ap pos:Pos} {args:List Expr} {x:IE} {es:IEs} (hp:ap.endLine=pos.line) (hb:bare o=false) (hl:args.length < 20) (hs:args.all (fun e=>!isStar e)=true) (ha:SE K sc nm o x) (h0:SL K sc nm args es) :
  SE K sc nm (.Call (.Attribute o (Str.ofString m) ap) args [] pos) (.meth x m es):=by
 intro k O hsc hnm ρ H s Q X S h
 unfold vE at h
 rw [eval_meth hb hs hl hp]
 refine re_then (ha k O hsc hnm _ _ _ _ _ S h) fun v av H1 s1 hv S1 h1=>?_
 refine wpAny_bind (wpAny_standAt (wpAny_bind (wpAny_holding ?_)))
 obtain⟨G,SC,V⟩:=id S1
 unfold vMeth at h1
 cases hv <;> first | exact h1.elim | skip
 rename_i a
 dsimp only at h1
 cases hH:H1 a with
 | none=>rw [hH] at h1;exact h1.elim
 | some ao =>
  rw [hH] at h1
  cases ao <;> first | exact h1.elim | skip
  ·
   rename_i xs
   dsimp only at h1
   obtain⟨-,arr,n,ho,_⟩:=SC.hv a _ hH
   have hT:s1.TypeIs (.ref a) "list":=⟨_,ho,rfl⟩
   have go:∀ (hgm:wpAny (model k.c.prog k.c.w) k.A (getMethod (.ref a) (Str.ofString m) (do return (← importBound o k.env).getD true)) (fun r s'=>r=(.builtin ("list."++m),[.ref a])∧s'=s1) (k.XE ρ X) s1),_:=fun hgm =>
    wpAny_mono (E:=k.XE ρ X) (E':=k.XE ρ X) (Q':=fun fx s'=>wpAny (model k.c.prog k.c.w) k.A (do let p ← (pure pos:Sem Pos);callWith p fx.1 fx.2 (backTo pos (starEach args k.env)) []) (k.RE ρ Q) (k.XE ρ X) s') hgm (fun fx s' ⟨e1,e2⟩=>by
     subst e1;subst e2
     refine wpAny_bind (wpAny_pure ?_)
     refine with_B hs (wpAny_mono (h0 k O hsc hnm pos _ _ _ _ _ S1 h1.2) (fun vs s2 ⟨avs,H2,hn,hvs,S2,h2⟩=>?_) fun _ _ e=>e)
     exact p_listM hvs S2 h2) fun _ _ e=>e
   rcases listM_cases h1.1 with rfl | rfl | rfl
   ·exact go (getMethod_builtin hT F.plainAttrs_list F.slot_list_append F.type_list_append (fun b e=>by cases e;exact⟨_,ho,rfl⟩) ⟨rfl,rfl⟩)
   ·exact go (getMethod_builtin hT F.plainAttrs_list F.slot_list_pop F.type_list_pop (fun b e=>by cases e;exact⟨_,ho,rfl⟩) ⟨rfl,rfl⟩)
   ·exact go (getMethod_builtin hT F.plainAttrs_list F.slot_list_remove F.type_list_remove (fun b e=>by cases e;exact⟨_,ho,rfl⟩) ⟨rfl,rfl⟩)
  ·
   rename_i C fs
   dsimp only at h1
   obtain⟨hsh,h1⟩:=h1
   cases hm:k.T.mth C m with
   | none=>rw [hm] at h1;exact h1.elim
   | some f =>
    rw [hm] at h1
    dsimp only at h1
    obtain⟨i1,i2,i3,i4⟩:=O.F.mth C m f hm
    obtain⟨-,dx,es',n,ho,hdx,hod,hL⟩:=SC.hv a _ hH
    have I:InstAt s1.heap a (instObj C dx) C (some (dictOf es' n)):=⟨ho,rfl,rfl,hod⟩
    have hg:=getL_of hL m
    rw [hsh] at hg
    have hs':shadowIn (some (dictOf es' n)) (Str.ofString m)=some false:=by
     show(getL (Str.ofString m) es').map (·.isSome)=some false
     rw [hg];rfl
    refine method_fn (keepK O.F SC) I (plainGet_of i2).1 (plainGet_of i2).2 i3 i4 hs' ?_
    refine wpAny_bind (wpAny_pure ?_)
    refine with_K i1 hs (wpAny_mono (h0 k O hsc hnm pos _ _ _ _ _ S1 h1) (fun vs s2 ⟨avs,H2,hn,hvs,S2,h2⟩=>?_) fun _ _ e=>e)
    refine⟨?_,p_callf O (.cons (.ref a) hvs) S2 h2⟩
    obtain⟨G2,SC2,_⟩:=S2
    exact keepK O.F SC2
  ·
   rename_i d
   dsimp only at h1
   obtain⟨rfl,h1⟩:=h1
   obtain⟨-,kvs,hd,_⟩:=SC.hv a _ hH
   have hdn:∃ o,s1.heap.get? a=some o∧o.dict=none:=by
    obtain⟨o,es',ep,ho,hex,_⟩:=hd
    exact⟨o,ho,hex.2.1⟩
   refine getMethod_builtin hd.mapOf.typeIs F.plainAttrs_dict F.slot_dict_get F.type_dict_get (fun b e=>by cases e;exact hdn) ?_
   refine wpAny_bind (wpAny_pure ?_)
   refine with_B hs (wpAny_mono (h0 k O hsc hnm pos _ _ _ _ _ S1 h1) (fun vs s2 ⟨avs,H2,hn,hvs,S2,h2⟩=>?_) fun _ _ e=>e)
   exact p_dictM hvs S2 h2
end
end Bm
namespace Bm
open PySem PySem.W PyProof.Rows PySem.SeqAt PySem.MeetsSeq
section
variable {k:Kx} {ρ:List AV} {H:AHeap} {s:Shared} {Q X:EQ} {E:Value→Shared→Prop} {A:Around} {K:Frag} {M:Model} {sc:List (Str×NameKind)} {nm:List String}
theorem l_one {a:Expr} {x:IE} (hs:isStar a=false) (ha:SE K sc nm a x):SL K sc nm [a] (.cons x .nil):=l_cons hs ha l_nil
theorem l_two {a b:Expr} {x y:IE} (hs:isStar a=false) (hs2:isStar b=false) (ha:SE K sc nm a x) (hb:SE K sc nm b y):SL K sc nm [a,b] (.cons x (.cons y .nil)):=l_cons hs ha (l_one hs2 hb)
theorem stars1 {a:Expr} (hs:isStar a=false):[a].all (fun e=>!isStar e)=true:=by simp [hs]
theorem stars2 {a b:Expr} (hs:isStar a=false) (hs2:isStar b=false):[a,b].all (fun e=>!isStar e)=true:=by simp [hs,hs2]
theorem call_B1 {f:Str} {id:String} {fp pos:Pos} {a:Expr} {x:IE} {Q1:EQ} {Q':Value→Shared→Prop} (O:k.Ok K) (hsc:k.env.scope.names=sc) (hnm:k.nm=nm) (hg:isG sc nm f=true) (hf:f∈(["len","max","min","abs","list","range"]:List Str))
  (hb:∃ mb,k.c.base.Ns builtinsNs mb∧mb f=some (.builtin id)) (hs:isStar a=false) (ha:SE K sc nm a x) (S:k.St ρ H s) (h:vE k.T k.hd k.call x ρ H Q1 X)
  (hc:∀ v av H2 s2,VR v av→k.St ρ H2 s2→Q1 av H2→wpAny (model k.c.prog k.c.w) k.A (call (.builtin id) [v]) Q' (k.XE ρ X) s2):wpAny (model k.c.prog k.c.w) k.A (eval (.Call (.Name f fp) [a] [] pos) k.env) Q' (k.XE ρ X) s:=by
 rw [eval_CallName]
 obtain⟨g1,g2⟩:=glob_ok (k:=k) hg hsc
 obtain⟨mg,m1,_,_,_,m5,_⟩:=O.F.glob
 obtain⟨mb,b1,b2⟩:=hb
 refine wpAny_bind (p_built g1 g2 m1 (m5 f hf) b1 b2 S ?_)
 have hl:vEs k.T k.hd k.call (.cons x .nil) ρ H (fun vs H=>match vs with | [v]=>Q1 v H | _=>False) X:=by
  unfold vEs
  exact h
 refine with_B (stars1 hs) (wpAny_mono (l_one hs ha k O hsc hnm pos _ _ _ _ _ S hl) (fun vs s2 ⟨avs,H2,hn,hvs,S2,h2⟩=>?_) fun _ _ e=>e)
 cases hvs with
 | nil=>cases hn
 | cons r t=>cases t with
  | nil=>exact hc _ _ _ _ r S2 h2
  | cons=>cases hn
theorem call_T1 {f:Str} {id:String} {fp pos:Pos} {a:Expr} {x:IE} {Q1:EQ} {Q':Value→Shared→Prop} (O:k.Ok K) (hsc:k.env.scope.names=sc) (hnm:k.nm=nm) (hg:isG sc nm f=true) (hf:f∈(["len","max","min","abs","list","range"]:List Str))
  (hb:∃ mb,k.c.base.Ns builtinsNs mb∧mb f=some (.type id)) (hs:isStar a=false) (ha:SE K sc nm a x) (S:k.St ρ H s) (h:vE k.T k.hd k.call x ρ H Q1 X)
  (hc:∀ v av H2 s2,VR v av→k.St ρ H2 s2→Q1 av H2→wpAny (model k.c.prog k.c.w) k.A (call (.type id) [v]) Q' (k.XE ρ X) s2):wpAny (model k.c.prog k.c.w) k.A (eval (.Call (.Name f fp) [a] [] pos) k.env) Q' (k.XE ρ X) s:=by
 rw [eval_CallName]
 obtain⟨g1,g2⟩:=glob_ok (k:=k) hg hsc
 obtain⟨mg,m1,_,_,_,m5,_⟩:=O.F.glob
 obtain⟨mb,b1,b2⟩:=hb
 refine wpAny_bind (p_built g1 g2 m1 (m5 f hf) b1 b2 S ?_)
 have hl:vEs k.T k.hd k.call (.cons x .nil) ρ H (fun vs H=>match vs with | [v]=>Q1 v H | _=>False) X:=by
  unfold vEs
  exact h
 refine with_T (stars1 hs) (wpAny_mono (l_one hs ha k O hsc hnm pos _ _ _ _ _ S hl) (fun vs s2 ⟨avs,H2,hn,hvs,S2,h2⟩=>?_) fun _ _ e=>e)
 cases hvs with
 | nil=>cases hn
 | cons r t=>cases t with
  | nil=>exact hc _ _ _ _ r S2 h2
  | cons=>cases hn
theorem call_B2 {f:Str} {id:String} {fp pos:Pos} {a b:Expr} {x y:IE} {Q1:AV→AV→AHeap→Prop} {Q':Value→Shared→Prop} (O:k.Ok K) (hsc:k.env.scope.names=sc) (hnm:k.nm=nm) (hg:isG sc nm f=true) (hf:f∈(["len","max","min","abs","list","range"]:List Str))
  (hb:∃ mb,k.c.base.Ns builtinsNs mb∧mb f=some (.builtin id)) (hs:isStar a=false) (hs2:isStar b=false) (ha:SE K sc nm a x) (hb':SE K sc nm b y) (S:k.St ρ H s) (h:vE k.T k.hd k.call x ρ H (fun v H=>vE k.T k.hd k.call y ρ H (fun w H=>Q1 v w H) X) X)
  (hc:∀ v w av aw H2 s2,VR v av→VR w aw→k.St ρ H2 s2→Q1 av aw H2→wpAny (model k.c.prog k.c.w) k.A (call (.builtin id) [v,w]) Q' (k.XE ρ X) s2):wpAny (model k.c.prog k.c.w) k.A (eval (.Call (.Name f fp) [a,b] [] pos) k.env) Q' (k.XE ρ X) s:=by
 rw [eval_CallName]
 obtain⟨g1,g2⟩:=glob_ok (k:=k) hg hsc
 obtain⟨mg,m1,_,_,_,m5,_⟩:=O.F.glob
 obtain⟨mb,b1,b2⟩:=hb
 refine wpAny_bind (p_built g1 g2 m1 (m5 f hf) b1 b2 S ?_)
 have hl:vEs k.T k.hd k.call (.cons x (.cons y .nil)) ρ H (fun vs H=>match vs with | [v,w]=>Q1 v w H | _=>False) X:=by
  unfold vEs vEs
  exact h
 refine with_B (stars2 hs hs2) (wpAny_mono (l_two hs hs2 ha hb' k O hsc hnm pos _ _ _ _ _ S hl) (fun vs s2 ⟨avs,H2,hn,hvs,S2,h2⟩=>?_) fun _ _ e=>e)
 cases hvs with
 | nil=>cases hn
 | cons r t=>cases t with
  | nil=>cases hn
  | cons r2 t=>cases t with
   | nil=>exact hc _ _ _ _ _ _ r r2 S2 h2
   | cons=>cases hn
theorem call_T2 {f:Str} {id:String} {fp pos:Pos} {a b:Expr} {x y:IE} {Q1:AV→AV→AHeap→Prop} {Q':Value→Shared→Prop} (O:k.Ok K) (hsc:k.env.scope.names=sc) (hnm:k.nm=nm) (hg:isG sc nm f=true) (hf:f∈(["len","max","min","abs","list","range"]:List Str))
  (hb:∃ mb,k.c.base.Ns builtinsNs mb∧mb f=some (.type id)) (hs:isStar a=false) (hs2:isStar b=false) (ha:SE K sc nm a x) (hb':SE K sc nm b y) (S:k.St ρ H s) (h:vE k.T k.hd k.call x ρ H (fun v H=>vE k.T k.hd k.call y ρ H (fun w H=>Q1 v w H) X) X)
  (hc:∀ v w av aw H2 s2,VR v av→VR w aw→k.St ρ H2 s2→Q1 av aw H2→wpAny (model k.c.prog k.c.w) k.A (call (.type id) [v,w]) Q' (k.XE ρ X) s2):wpAny (model k.c.prog k.c.w) k.A (eval (.Call (.Name f fp) [a,b] [] pos) k.env) Q' (k.XE ρ X) s:=by
 rw [eval_CallName]
 obtain⟨g1,g2⟩:=glob_ok (k:=k) hg hsc
 obtain⟨mg,m1,_,_,_,m5,_⟩:=O.F.glob
 obtain⟨mb,b1,b2⟩:=hb
 refine wpAny_bind (p_built g1 g2 m1 (m5 f hf) b1 b2 S ?_)
 have hl:vEs k.T k.hd k.call (.cons x (.cons y .nil)) ρ H (fun vs H=>match vs with | [v,w]=>Q1 v w H | _=>False) X:=by
  unfold vEs vEs
  exact h
 refine with_T (stars2 hs hs2) (wpAny_mono (l_two hs hs2 ha hb' k O hsc hnm pos _ _ _ _ _ S hl) (fun vs s2 ⟨avs,H2,hn,hvs,S2,h2⟩=>?_) fun _ _ e=>e)
 cases hvs with
 | nil=>cases hn
 | cons r t=>cases t with
  | nil=>cases hn
  | cons r2 t=>cases t with
   | nil=>exact hc _ _ _ _ _ _ r r2 S2 h2
   | cons=>cases hn
theorem s_len {a:Expr} {x:IE} {fp pos:Pos} (hg:isG sc nm "len" = true) (hs:isStar a=false) (ha:SE K sc nm a x):SE K sc nm (.Call (.Name "len" fp) [a] [] pos) (.len x):=by
 intro k O hsc hnm ρ H s Q X S h
 unfold vE at h
 obtain⟨mb,b1,b2,b3,b4,b5,b6,b7,_⟩:=id O.F.built
 exact call_B1 O hsc hnm hg (by decide) ⟨mb,b1,b2⟩ hs ha S h fun v av H2 s2 hv S2 h2=>p_len h2 hv S2
theorem s_abs {a:Expr} {x:IE} {fp pos:Pos} (hg:isG sc nm "abs" = true) (hs:isStar a=false) (ha:SE K sc nm a x):SE K sc nm (.Call (.Name "abs" fp) [a] [] pos) (.abs x):=by
 intro k O hsc hnm ρ H s Q X S h
 unfold vE at h
 obtain⟨mb,b1,b2,b3,b4,b5,b6,b7,_⟩:=id O.F.built
 exact call_B1 O hsc hnm hg (by decide) ⟨mb,b1,b5⟩ hs ha S h fun v av H2 s2 hv S2 h2=>p_abs h2 hv S2
theorem s_maxl {a:Expr} {x:IE} {fp pos:Pos} (hg:isG sc nm "max" = true) (hs:isStar a=false) (ha:SE K sc nm a x):SE K sc nm (.Call (.Name "max" fp) [a] [] pos) (.maxl x):=by
 intro k O hsc hnm ρ H s Q X S h
 unfold vE at h
 obtain⟨mb,b1,b2,b3,b4,b5,b6,b7,_⟩:=id O.F.built
 exact call_B1 O hsc hnm hg (by decide) ⟨mb,b1,b3⟩ hs ha S h fun v av H2 s2 hv S2 h2=>p_maxl h2.2 hv (O.hand h2.1) S2
theorem s_max2 {a b:Expr} {x y:IE} {fp pos:Pos} (hg:isG sc nm "max" = true) (hs:isStar a=false) (hs2:isStar b=false) (ha:SE K sc nm a x) (hb:SE K sc nm b y):SE K sc nm (.Call (.Name "max" fp) [a,b] [] pos) (.max2 x y):=by
 intro k O hsc hnm ρ H s Q X S h
 unfold vE at h
 obtain⟨mb,b1,b2,b3,b4,b5,b6,b7,_⟩:=id O.F.built
 exact call_B2 O hsc hnm hg (by decide) ⟨mb,b1,b3⟩ hs hs2 ha hb S h fun v w av aw H2 s2 hv hw S2 h2=>p_max2 h2.2 hv hw (O.hand h2.1) S2
theorem s_min2 {a b:Expr} {x y:IE} {fp pos:Pos} (hg:isG sc nm "min" = true) (hs:isStar a=false) (hs2:isStar b=false) (ha:SE K sc nm a x) (hb:SE K sc nm b y):SE K sc nm (.Call (.Name "min" fp) [a,b] [] pos) (.min2 x y):=by
 intro k O hsc hnm ρ H s Q X S h
 unfold vE at h
 obtain⟨mb,b1,b2,b3,b4,b5,b6,b7,_⟩:=id O.F.built
 exact call_B2 O hsc hnm hg (by decide) ⟨mb,b1,b4⟩ hs hs2 ha hb S h fun v w av aw H2 s2 hv hw S2 h2=>p_min2 h2.2 hv hw (O.hand h2.1) S2
theorem s_copy {a:Expr} {x:IE} {fp pos:Pos} (hg:isG sc nm "list" = true) (hs:isStar a=false) (ha:SE K sc nm a x):SE K sc nm (.Call (.Name "list" fp) [a] [] pos) (.copy x):=by
 intro k O hsc hnm ρ H s Q X S h
 unfold vE at h
 obtain⟨mb,b1,b2,b3,b4,b5,b6,b7,_⟩:=id O.F.built
 exact call_T1 O hsc hnm hg (by decide) ⟨mb,b1,b6⟩ hs ha S h fun v av H2 s2 hv S2 h2=>p_copy h2.2 hv S2
theorem ints_length (lo hi:Int):(Bm.iRng lo hi).length=(hi - lo).toNat:=by unfold Bm.iRng;rw [List.length_map,List.length_range]
def Kx.RG (k:Kx) (ρ:List AV) (Q:AV→AV→AHeap→Prop) (v:Value) (s':Shared):Prop:=∃ r lo hi t u w H',v=.ref r∧IsRange s'.heap r lo hi 1 t u w∧k.St ρ H' s'∧Q (.int lo) (.int hi) H'
def SR (K:Frag) (sc:List (Str×NameKind)) (nm:List String) (e:Expr) (x y:IE):Prop:=∀ (k:Kx),k.Ok K→k.env.scope.names=sc→k.nm=nm→∀ (ρ:List AV) (H:AHeap) (s:Shared) (Q:AV→AV→AHeap→Prop) (X:EQ),
 k.St ρ H s→(∀ v w H,Q v w H→∃ lo hi,v=.int lo∧w=.int hi)→vE k.T k.hd k.call x ρ H (fun v H=>vE k.T k.hd k.call y ρ H (fun w H=>Q v w H) X) X→wpAny (model k.c.prog k.c.w) k.A (eval e k.env) (k.RG ρ Q) (k.XE ρ X) s
theorem s_range2 {a b:Expr} {x y:IE} {fp pos:Pos} (hg:isG sc nm "range" = true) (hs:isStar a=false) (hs2:isStar b=false) (ha:SE K sc nm a x) (hb:SE K sc nm b y):SR K sc nm (.Call (.Name "range" fp) [a,b] [] pos) x y:=by
 intro k O hsc hnm ρ H s Q X S hQ h
 obtain⟨mb,b1,b2,b3,b4,b5,b6,b7,_⟩:=id O.F.built
 refine call_T2 O hsc hnm hg (by decide) ⟨mb,b1,b7⟩ hs hs2 ha hb S h fun v w av aw H2 s2 hv hw S2 h2=>?_
 obtain⟨lo,hi,rfl,rfl⟩:=hQ _ _ _ h2
 cases hv;cases hw
 exact call_range_2 ⟨_,_,_,_,_,_,H2,rfl,IsRange.new ..,St_garb S2 _ _,h2⟩
theorem s_range1 {b:Expr} {y:IE} {fp pos:Pos} (hg:isG sc nm "range" = true) (hs2:isStar b=false) (hb:SE K sc nm b y):SR K sc nm (.Call (.Name "range" fp) [b] [] pos) (.c (.int 0)) y:=by
 intro k O hsc hnm ρ H s Q X S hQ h
 obtain⟨mb,b1,b2,b3,b4,b5,b6,b7,_⟩:=id O.F.built
 unfold vE at h
 refine call_T1 O hsc hnm hg (by decide) ⟨mb,b1,b7⟩ hs2 hb S h fun w aw H2 s2 hw S2 h2=>?_
 obtain⟨lo,hi,e,rfl⟩:=hQ _ _ _ h2
 cases e
 cases hw
 exact call_range_1 ⟨_,_,_,_,_,_,H2,rfl,IsRange.new ..,St_garb S2 _ _,h2⟩
theorem vRange_at {v w:AV} {F:Src→List AV→Prop} (h:vRange v w F):∃ lo hi,v=.int lo∧w=.int hi:=by
 unfold vRange at h
 split at h
 ·exact⟨_,_,rfl,rfl⟩
 ·exact h.elim
theorem t_over {e:Expr} {x:IE} (ha:SE K sc nm e x):ST K sc nm e (.over x):=by
 intro k O hsc hnm ρ H s Q X S h
 unfold vT at h
 refine re_on (ha k O hsc hnm _ _ _ _ _ S h) fun v av H1 s1 hv S1 h1=>?_
 obtain⟨G,SC,V⟩:=id S1
 unfold vOver at h1
 cases hv <;> first | exact h1.elim | skip
 rename_i l
 dsimp only at h1
 cases hl:H1 l with
 | none=>rw [hl] at h1;exact h1.elim
 | some ao =>
  rw [hl] at h1
  cases ao <;> first | exact h1.elim | skip
  ·rename_i xs
   obtain⟨-,arr,n,ho,hx,hz⟩:=SC.hv l _ hl
   exact⟨.lst l xs,xs,H1,S1,⟨rfl,rfl,hl⟩,hl,by rw [← hx.length,Array.length_toList];exact hz,h1⟩
  ·rename_i xs
   obtain⟨-,arr,n,ho,hx,hz⟩:=SC.hv l _ hl
   exact⟨.tup l xs,xs,H1,S1,⟨rfl,rfl,hl⟩,hl,by rw [← hx.length,Array.length_toList];exact hz,h1⟩
theorem t_range {e:Expr} {x y:IE} (ha:SR K sc nm e x y):ST K sc nm e (.range x y):=by
 intro k O hsc hnm ρ H s Q X S h
 unfold vT at h
 refine wpAny_mono (ha k O hsc hnm ρ H s (fun v w H=>vRange v w fun s xs=>Q s xs H) X S (fun v w H hq=>vRange_at hq) h) (fun v s' ⟨r,lo,hi,t,u,w,H',e,hr,S',hq⟩=>?_) fun _ _ e=>e
 subst e
 obtain⟨⟨h1,h2,h3,h4,h5,h6⟩,hq⟩:=hq
 exact⟨.rng,_,H',S',⟨r,lo,hi,t,u,w,rfl,hr,⟨h3,h2,h4,h5⟩,rfl⟩,trivial,by rw [ints_length];unfold lim at h6 ⊢;omega,hq⟩
theorem s_listR {a:Expr} {x y:IE} {fp pos:Pos} (hg:isG sc nm "list" = true) (hs:isStar a=false) (ha:SR K sc nm a x y):SE K sc nm (.Call (.Name "list" fp) [a] [] pos) (.listR x y):=by
 intro k O hsc hnm ρ H s Q X S h
 unfold vE at h
 obtain⟨mb,b1,b2,b3,b4,b5,b6,b7,_⟩:=id O.F.built
 rw [eval_CallName]
 obtain⟨g1,g2⟩:=glob_ok (k:=k) hg hsc
 obtain⟨mg,m1,_,_,_,m5,_⟩:=O.F.glob
 refine wpAny_bind (p_built g1 g2 m1 (m5 "list" (by decide)) b1 b6 S ?_)
 refine with_T (stars1 hs) ?_
 rw [starEach_cons hs,backTo_cons]
 unfold spliced
 refine wpAny_bind (wpAny_mono (ha k O hsc hnm ρ H s (fun v w H=>k.hd=false∧vRange v w fun _ xs=>∀ a,H a=none→Q (.ref a) (upd H a (.list xs))) X S (fun v w H hq=>vRange_at hq.2) h) (fun v s' ⟨r,lo,hi,t,u,w,H',e,hr,S',hq⟩=>?_) fun _ _ e=>e)
 subst e
 refine wpAny_bind (wpAny_pure (wpAny_bind (wpAny_holding (wpAny_pure (wpAny_pure ?_)))))
 obtain⟨hhd,⟨h1,h2,h3,h4,h5,h6⟩,hq⟩:=hq
 exact p_listR (O.hand hhd) S' hr ⟨h3,h2,h4,h5⟩ h6 hq
end
end Bm
namespace Bm
open PySem PySem.W PyProof.Rows PySem.SeqAt PySem.MeetsSeq
section
variable {k:Kx} {ρ:List AV} {H:AHeap} {s:Shared} {Q X:EQ} {E:Value→Shared→Prop} {A:Around} {K:Frag} {M:Model} {sc:List (Str×NameKind)} {nm:List String}
theorem compL_If {src:Src} {elt:AV→AHeap→EQ→Prop}:∀ (xs acc:List AV) (H:AHeap) (K:List AV→AHeap→Prop),compIfL src (fun _ H K=>K true H) elt xs acc H K=compL src elt xs acc H K
 | [],_,_,_=>rfl
 | x::xs,acc,H,K=>by
  unfold compIfL compL
  show(if true=true then _ else _)=_
  rw [if_pos rfl]
  congr 1
  funext w H'
  rw [compL_If xs]
theorem notSet {e:Expr} (h:isSet e=false) (env:Env) (x:Value):foldedSetIterable e env x=pure x:=by
 cases e <;> first | rfl | (cases h)
theorem Ok_comp (O:k.Ok K) (scope:Scope) (t:Str) (C:Addr) (cs:List (Str×Addr)) (P:List (Addr×Obj)):(k.inComp scope t C cs P).Ok K:=⟨O.F,O.room,O.frames,O.hand,O.calls⟩
theorem XE_false {e:Value} {s':Shared} (h:k.XE ρ (fun _ _=>False) e s'):False:=let ⟨_,_,_,_,_,_,_,_,_,_,f⟩:=h;f
theorem comp_use {scope:Scope} {t:Str} {tp:Pos} {elt it:Expr} {pos pos2:Pos} {e':IE} {i':IT} (hset:isSet it=false) (hit:ST K sc nm it i') (he:SE K (cscope sc scope.names) (t.toString::nm) elt e')
  (O:k.Ok K) (hsc:k.env.scope.names=sc) (hnm:k.nm=nm) (CO:CompOk k.env k.nm scope t) (use:Option (Value→Sem Unit)) {Q':Value→Shared→Prop} {K':List AV→AHeap→Prop} (S:k.St ρ H s)
  (h:vT k.T k.hd k.call i' ρ H (fun src xs H=>k.hd=false∧compL src (fun v H K=>vE k.T k.hd k.call e' (v::ρ) H K (fun _ _=>False)) xs [] H K') X)
  (hfin:match use with
   | none=>∀ D H1 ws s',K' ws H1→H1 D=none→k.St ρ (upd H1 D (.list ws)) s'→Q' (.ref D) s'
   | some u=>∀ D H1 ws s' C oC,K' ws H1→H1 D=none→(k.withP (C,oC)).St ρ (upd H1 D (.list ws)) s'→wpAny (model k.c.prog k.c.w) k.A (u (.ref D)) (fun _ s''=>∃ ρ',(k.withP (C,oC)).St ρ' (upd H1 D (.list ws)) s''∧∀ s3,k.St ρ' (upd H1 D (.list ws)) s3→Q' .none s3) (k.XE ρ X) s') :
  wpAny (model k.c.prog k.c.w) k.A (comprehension (.ListComp elt [⟨.Name t tp,it,[],0⟩] scope pos) scope k.env pos2 (newList []) false (eval it k.env) use) Q' (k.XE ρ X) s:=by
 subst hsc;subst hnm
 refine p_comp S CO use (g:=⟨.Name t tp,it,[],0⟩) (tgt:=elt) rfl (notSet hset k.env) (cond:=fun _ H K=>K true H) (elt':=fun v H K=>vE k.T k.hd k.call e' (v::ρ) H K (fun _ _=>False)) (K':=K')
  (wpAny_mono (hit k O rfl rfl ρ H s _ X S h) (fun v s1 ⟨src,xs,H1,S1,h1,h2,h3,h4⟩=>⟨src,xs,H1,S1,h1,h2,h3,O.hand h4.1,by rw [compL_If];exact h4.2⟩) fun _ _ e=>e) ?_ ?_ hfin
 ·intro C cs P' v H s Qb St _ hq
  exact wpAny_tests_nil ⟨H,St,hq⟩
 ·intro C cs P' v H s Q St hn hq
  exact wpAny_mono (he (k.inComp scope t C cs P') (Ok_comp O ..) hn rfl (v::ρ) H s Q _ St hq) (fun _ _ h=>h) fun _ _ e=>XE_false e
theorem compIf_use {scope:Scope} {t:Str} {tp:Pos} {elt it q:Expr} {pos pos2:Pos} {e' q':IE} {i':IT} (hset:isSet it=false) (hit:ST K sc nm it i') (he:SE K (cscope sc scope.names) (t.toString::nm) elt e') (hq:SB K (cscope sc scope.names) (t.toString::nm) q q')
  (O:k.Ok K) (hsc:k.env.scope.names=sc) (hnm:k.nm=nm) (CO:CompOk k.env k.nm scope t) (use:Option (Value→Sem Unit)) {Q':Value→Shared→Prop} {K':List AV→AHeap→Prop} (S:k.St ρ H s)
  (h:vT k.T k.hd k.call i' ρ H (fun src xs H=>k.hd=false∧compIfL src (fun v H K=>vE k.T k.hd k.call q' (v::ρ) H (fun x H=>Bm.truthy x H fun b=>K b H) (fun _ _=>False)) (fun v H K=>vE k.T k.hd k.call e' (v::ρ) H K (fun _ _=>False)) xs [] H K') X)
  (hfin:match use with
   | none=>∀ D H1 ws s',K' ws H1→H1 D=none→k.St ρ (upd H1 D (.list ws)) s'→Q' (.ref D) s'
   | some u=>∀ D H1 ws s' C oC,K' ws H1→H1 D=none→(k.withP (C,oC)).St ρ (upd H1 D (.list ws)) s'→wpAny (model k.c.prog k.c.w) k.A (u (.ref D)) (fun _ s''=>∃ ρ',(k.withP (C,oC)).St ρ' (upd H1 D (.list ws)) s''∧∀ s3,k.St ρ' (upd H1 D (.list ws)) s3→Q' .none s3) (k.XE ρ X) s') :
  wpAny (model k.c.prog k.c.w) k.A (comprehension (.ListComp elt [⟨.Name t tp,it,[q],0⟩] scope pos) scope k.env pos2 (newList []) false (eval it k.env) use) Q' (k.XE ρ X) s:=by
 subst hsc;subst hnm
 refine p_comp S CO use (g:=⟨.Name t tp,it,[q],0⟩) (tgt:=elt) rfl (notSet hset k.env) (elt':=fun v H K=>vE k.T k.hd k.call e' (v::ρ) H K (fun _ _=>False)) (K':=K')
  (wpAny_mono (hit k O rfl rfl ρ H s _ X S h) (fun v s1 ⟨src,xs,H1,S1,h1,h2,h3,h4⟩=>⟨src,xs,H1,S1,h1,h2,h3,O.hand h4.1,h4.2⟩) fun _ _ e=>e) ?_ ?_ hfin
 ·intro C cs P' v H s Qb St hn hv
  refine wpAny_tests_one (wpAny_mono (hq (k.inComp scope t C cs P') (Ok_comp O ..) hn rfl (v::ρ) H s _ _ Qb St (fun v H h=>h) hv) (fun _ _ h=>h) fun _ _ e=>XE_false e)
 ·intro C cs P' v H s Q St hn hq
  exact wpAny_mono (he (k.inComp scope t C cs P') (Ok_comp O ..) hn rfl (v::ρ) H s Q _ St hq) (fun _ _ h=>h) fun _ _ e=>XE_false e
theorem s_comp {scope:Scope} {t:Str} {tp:Pos} {elt it:Expr} {pos:Pos} {e':IE} {i':IT} (hset:isSet it=false) (hit:ST K sc nm it i') (he:SE K (cscope sc scope.names) (t.toString::nm) elt e')
  (h1:scope.kind=.function) (h2:(cscope sc scope.names).lookup t=some .local∨(cscope sc scope.names).lookup t=some .cell) (h3:cscopeOk sc nm t scope.names=true) (h4:Str.ofString t.toString=t) :
  SE K sc nm (.ListComp elt [⟨.Name t tp,it,[],0⟩] scope pos) (.comp e' i'):=by
 intro k O hsc hnm ρ H s Q X S h
 unfold vE at h
 have CO:CompOk k.env k.nm scope t:=by subst hsc;subst hnm;exact⟨h1,h2,h3,h4⟩
 exact comp_use hset hit he O hsc hnm CO none S h fun D H1 ws s' hK hD S'=>re_mk (.ref D) S' (hK D hD)
theorem s_compIf {scope:Scope} {t:Str} {tp:Pos} {elt it q:Expr} {pos:Pos} {e' q':IE} {i':IT} (hset:isSet it=false) (hit:ST K sc nm it i') (he:SE K (cscope sc scope.names) (t.toString::nm) elt e') (hq:SB K (cscope sc scope.names) (t.toString::nm) q q')
  (h1:scope.kind=.function) (h2:(cscope sc scope.names).lookup t=some .local∨(cscope sc scope.names).lookup t=some .cell) (h3:cscopeOk sc nm t scope.names=true) (h4:Str.ofString t.toString=t) :
  SE K sc nm (.ListComp elt [⟨.Name t tp,it,[q],0⟩] scope pos) (.compIf e' i' q'):=by
 intro k O hsc hnm ρ H s Q X S h
 unfold vE at h
 have CO:CompOk k.env k.nm scope t:=by subst hsc;subst hnm;exact⟨h1,h2,h3,h4⟩
 exact compIf_use hset hit he hq O hsc hnm CO none S h fun D H1 ws s' hK hD S'=>re_mk (.ref D) S' (hK D hD)
structure SoundAt (K:Frag) (n:Nat):Prop where
 e:∀ {sc nm e ir},chkE n sc nm e ir=true→SE K sc nm e ir∧SB K sc nm e ir
 c:∀ {sc t nm e ir},chkC n sc t nm e ir=true→SE K sc (t.toString::nm) e ir∧SB K sc (t.toString::nm) e ir∧Str.ofString t.toString=t
 ba:∀ {sc nm es ir pos},chkB true n sc nm es ir=true→SE K sc nm (.BoolOp .And es pos) ir∧SB K sc nm (.BoolOp .And es pos) ir
 bo:∀ {sc nm es ir pos},chkB false n sc nm es ir=true→SE K sc nm (.BoolOp .Or es pos) ir∧SB K sc nm (.BoolOp .Or es pos) ir
 l:∀ {sc nm es xs},chkEs n sc nm es xs=true→SL K sc nm es xs
 t:∀ {sc nm e it},chkT n sc nm e it=true→ST K sc nm e it
 r:∀ {sc nm e x y},chkT n sc nm e (.range x y)=true→SR K sc nm e x y
theorem step_l {n:Nat} (ih:SoundAt K n) {sc nm es xs} (h:chkEs (n+1) sc nm es xs=true):SL K sc nm es xs:=by
 unfold chkEs at h
 split at h
 ·exact l_nil
 ·simp only [Bool.and_eq_true,Bool.not_eq_true'] at h
  exact l_cons h.1.1 (ih.e h.1.2).1 (ih.l h.2)
 ·cases h
theorem step_c {n:Nat} (ih:SoundAt K n) {sc t nm e ir} (h:chkC (n+1) sc t nm e ir=true):SE K sc (t.toString::nm) e ir∧SB K sc (t.toString::nm) e ir∧Str.ofString t.toString=t:=by
 unfold chkC at h
 simp only [Bool.and_eq_true,decide_eq_true_eq] at h
 exact⟨(ih.e h.1).1,(ih.e h.1).2,h.2⟩
theorem step_ba {n:Nat} (ih:SoundAt K n) {sc nm es ir pos} (h:chkB true (n+1) sc nm es ir=true):SE K sc nm (.BoolOp .And es pos) ir∧SB K sc nm (.BoolOp .And es pos) ir:=by
 unfold chkB at h
 split at h
 ·exact⟨fun k O hsc hnm ρ H s Q X S hv=>BoolOp_one ((ih.e h).1 k O hsc hnm ρ H s Q X S hv),b_one_and (ih.e h).2⟩
 ·rename_i e r hne
  split at h
  ·simp only [Bool.and_eq_true] at h
   cases r with
   | nil=>exact absurd rfl hne
   | cons e2 r=>exact⟨s_and (ih.e h.1).1 (ih.ba h.2).1,b_and (ih.e h.1).2 (ih.ba h.2).2⟩
  ·rename_i hq;cases hq
  ·cases h
 ·cases h
theorem step_bo {n:Nat} (ih:SoundAt K n) {sc nm es ir pos} (h:chkB false (n+1) sc nm es ir=true):SE K sc nm (.BoolOp .Or es pos) ir∧SB K sc nm (.BoolOp .Or es pos) ir:=by
 unfold chkB at h
 split at h
 ·exact⟨fun k O hsc hnm ρ H s Q X S hv=>BoolOp_one ((ih.e h).1 k O hsc hnm ρ H s Q X S hv),b_one_or (ih.e h).2⟩
 ·rename_i e r hne
  split at h
  ·rename_i hq;cases hq
  ·simp only [Bool.and_eq_true] at h
   cases r with
   | nil=>exact absurd rfl hne
   | cons e2 r=>exact⟨s_or (ih.e h.1).1 (ih.bo h.2).1,b_or (ih.e h.1).2 (ih.bo h.2).2⟩
  ·cases h
 ·cases h
theorem step_t {n:Nat} (ih:SoundAt K n) {sc nm e it} (h:chkT (n+1) sc nm e it=true):ST K sc nm e it∧∀ x y,it=.range x y→SR K sc nm e x y:=by
 unfold chkT at h
 split at h
 ·simp only [Bool.and_eq_true,decide_eq_true_eq,Bool.not_eq_true'] at h
  obtain⟨⟨⟨h1,rfl⟩,h2⟩,h3⟩:=h
  exact⟨t_range (s_range1 h1 h2 (ih.e h3).1),fun x y e=>by cases e;exact s_range1 h1 h2 (ih.e h3).1⟩
 ·simp only [Bool.and_eq_true,decide_eq_true_eq,Bool.not_eq_true'] at h
  obtain⟨⟨⟨⟨⟨h1,rfl⟩,h2⟩,h3⟩,h4⟩,h5⟩:=h
  exact⟨t_range (s_range2 h1 h2 h3 (ih.e h4).1 (ih.e h5).1),fun x y e=>by cases e;exact s_range2 h1 h2 h3 (ih.e h4).1 (ih.e h5).1⟩
 ·exact⟨t_over (ih.e h).1,fun x y e=>nomatch e⟩
 ·cases h
theorem s_none {k1:Nat} {pos:Pos}:SE K sc nm (.Constant .none k1 pos) (.c .none):=by
 intro k O hsc hnm ρ H s Q X S h
 unfold vE at h
 exact p_none S h
theorem s_bool {b:Bool} {k1:Nat} {pos:Pos}:SE K sc nm (.Constant (.bool b) k1 pos) (.c (.bool b)):=by
 intro k O hsc hnm ρ H s Q X S h
 unfold vE at h
 exact p_bool S h
theorem s_int {i:Int} {k1:Nat} {pos:Pos}:SE K sc nm (.Constant (.int i) k1 pos) (.c (.int i)):=by
 intro k O hsc hnm ρ H s Q X S h
 unfold vE at h
 exact p_int (b:=0) S h
set_option maxHeartbeats 4000000 in
theorem step_e {n:Nat} (ih:SoundAt K n) {sc nm e ir} (h:chkE (n+1) sc nm e ir=true):SE K sc nm e ir∧SB K sc nm e ir:=by
 have P:∀ {e:Expr} {ir:IE},SE K sc nm e ir→(∀ env whole,isTrue e env whole=(do let v ← whole;standAt e.pos;holding [v] (PySem.truthy v)))→SE K sc nm e ir∧SB K sc nm e ir:=fun a b=>⟨a,b_plain a b⟩
 unfold chkE at h
 split at h <;> try simp only [Bool.and_eq_true,decide_eq_true_eq,Bool.not_eq_true',beq_iff_eq] at h
 ·exact P s_none fun _ _=>rfl
 ·subst h;exact P s_bool fun _ _=>rfl
 ·subst h;exact P s_int fun _ _=>rfl
 ·exact P (s_loc h.1.1.1 h.1.1.2 h.1.2 h.2) fun _ _=>rfl
 ·exact P (s_gint h.1 h.2) fun _ _=>rfl
 ·exact P (s_pow h.1 h.2) fun _ _=>rfl
 ·exact P (s_bin h.1.1 (ih.e h.1.2).1 (ih.e h.2).1) fun _ _=>rfl
 ·exact P (s_neg (ih.e h).1) fun _ _=>rfl
 ·exact⟨s_not (ih.e h).1,b_not (ih.e h).2⟩
 ·exact⟨s_cmp h.1.1.1 h.1.1.2 (ih.e h.1.2).1 (ih.e h.2).1,b_cmp h.1.1.1 h.1.1.2 (ih.e h.1.2).1 (ih.e h.2).1⟩
 ·obtain⟨⟨⟨⟨⟨h1,h2⟩,h3⟩,h4⟩,h5⟩,h6⟩:=h
  exact⟨s_cmp2 h1 h2 h3 (ih.e h4).1 (ih.e h5).1 (ih.e h6).1,b_cmp2 h1 h2 h3 (ih.e h4).1 (ih.e h5).1 (ih.e h6).1⟩
 ·exact ih.ba h
 ·exact ih.bo h
 ·exact⟨s_ife (ih.e h.1.1).2 (ih.e h.1.2).1 (ih.e h.2).1,b_ife (ih.e h.1.1).2 (ih.e h.1.2).2 (ih.e h.2).2⟩
 ·exact P (s_list h.1 (ih.l h.2)) fun _ _=>rfl
 ·exact P (s_tup h.1 (ih.l h.2)) fun _ _=>rfl
 ·exact P s_dict0 fun _ _=>rfl
 ·obtain⟨⟨⟨rfl,rfl⟩,h3⟩,h4⟩:=h
  exact P (s_deck (ih.e h3).1 (ih.e h4).1) fun _ _=>rfl
 ·obtain⟨⟨rfl,h2⟩,h3⟩:=h
  exact P (s_attr h2 (ih.e h3).1) fun _ _=>rfl
 ·obtain⟨rfl,h2⟩:=h
  exact P (s_upto (ih.e h2).1) fun _ _=>rfl
 ·exact P (s_all (ih.e h).1) fun _ _=>rfl
 ·exact P (s_rev (ih.e h).1) fun _ _=>rfl
 ·obtain⟨rfl,h2⟩:=h
  exact P (s_key (ih.e h2).1) fun _ _=>rfl
 ·cases h
 ·exact P (s_idx (ih.e h.1).1 (ih.e h.2).1) fun _ _=>rfl
 ·obtain⟨⟨⟨⟨⟨h1,rfl⟩,h3⟩,h4⟩,h5⟩,h6⟩:=h
  exact P (s_meth h1 h3 h4 (plainArgs_of h6) (ih.e h5).1 (ih.l h6)) fun _ _=>rfl
 ·obtain⟨⟨⟨h1,h2⟩,h3⟩,h4⟩:=h
  exact P (s_call h1 h2 (plainArgs_of h4) (ih.l h4)) fun _ _=>rfl
 ·obtain⟨⟨⟨h1,h2⟩,h3⟩,h4⟩:=h
  exact P (s_new h1 h2 (plainArgs_of h4) (ih.l h4)) fun _ _=>rfl
 ·obtain⟨⟨⟨h1,rfl⟩,h3⟩,h4⟩:=h
  exact P (s_len h1 h3 (ih.e h4).1) fun _ _=>rfl
 ·obtain⟨⟨⟨h1,rfl⟩,h3⟩,h4⟩:=h
  exact P (s_maxl h1 h3 (ih.e h4).1) fun _ _=>rfl
 ·obtain⟨⟨⟨h1,rfl⟩,h3⟩,h4⟩:=h
  exact P (s_abs h1 h3 (ih.e h4).1) fun _ _=>rfl
 ·obtain⟨⟨⟨⟨⟨h1,rfl⟩,h3⟩,h4⟩,h5⟩,h6⟩:=h
  exact P (s_max2 h1 h3 h4 (ih.e h5).1 (ih.e h6).1) fun _ _=>rfl
 ·obtain⟨⟨⟨⟨⟨h1,rfl⟩,h3⟩,h4⟩,h5⟩,h6⟩:=h
  exact P (s_min2 h1 h3 h4 (ih.e h5).1 (ih.e h6).1) fun _ _=>rfl
 ·obtain⟨⟨⟨h1,rfl⟩,h3⟩,h4⟩:=h
  exact P (s_copy h1 h3 (ih.e h4).1) fun _ _=>rfl
 ·obtain⟨⟨⟨h1,rfl⟩,h3⟩,h4⟩:=h
  exact P (s_listR h1 h3 (ih.r h4)) fun _ _=>rfl
 ·obtain⟨⟨⟨⟨⟨⟨h1,h2⟩,h3⟩,h4⟩,h5⟩,h6⟩,h7⟩:=h
  obtain⟨c1,c2,c3⟩:=ih.c h7
  exact P (s_comp h4 (ih.t h5) c1 h1 h2 h3 c3) fun _ _=>rfl
 ·obtain⟨⟨⟨⟨⟨⟨h1,h2⟩,h3⟩,h4⟩,h5⟩,h7⟩,h8⟩:=h
  obtain⟨c1,c2,c3⟩:=ih.c h7
  obtain⟨d1,d2,d3⟩:=ih.c h8
  exact P (s_compIf h4 (ih.t h5) c1 d2 h1 h2 h3 c3) fun _ _=>rfl
 ·cases h
theorem sound (K:Frag):∀ n,SoundAt K n
 | 0=>⟨fun h=>by simp [chkE] at h,fun h=>by simp [chkC] at h,fun h=>by simp [chkB] at h,fun h=>by simp [chkB] at h,fun h=>by simp [chkEs] at h,fun h=>by simp [chkT] at h,fun h=>by simp [chkT] at h⟩
 | n+1=>by
  have ih:=sound K n
  exact⟨step_e ih,step_c ih,step_ba ih,step_bo ih,step_l ih,fun h=>(step_t ih h).1,fun h=>(step_t ih h).2 _ _ rfl⟩
end
end Bm
namespace Bm
open PySem PySem.W PyProof.Rows PySem.SeqAt PySem.MeetsSeq
inductive FlR:Flow→Fl→Prop
 | next:FlR .next .next
 | brk:FlR .brk .brk
 | cont:FlR .cont .cont
 | ret {v av}:VR v av→FlR (.ret v) (.ret av)
structure OkS (K:Frag) (T:Tab) (calls:Bool→CallSem) (k:Kx):Prop where
 ok:k.Ok K
 t:k.T=T
 call:k.call=calls k.hd
 both:∀ b,CallOk k.c (calls b) k.n b
 ws:k.ws=k.nm
 frm:∃ outer L,k.fr=k.env::outer∧k.env.frame=some L
namespace Kx
def RF (k:Kx) (Q:SQ) (f:Flow) (s':Shared):Prop:=∃ fl ρ' H',Bm.FlR f fl∧k.St ρ' H' s'∧Q fl ρ' H'
def XS (k:Kx) (X:SX) (e:Value) (s':Shared):Prop:=∃ G ea n ρ' H' m,e=.ref ea∧StC k.c G k.fr k.P H' s'∧Vr G k.P k.env k.nm k.ws ρ' s'.heap∧Fly G s'.heap ea n m∧(∀ L,m=.held L→k.env.frame=some L)∧X n ρ' H'
end Kx
def SS (K:Frag) (T:Tab) (calls:Bool→CallSem) (sc:List (Str×NameKind)) (nm:List String) (st:Stmt) (ir:IS):Prop:=∀ (k:Kx),OkS K T calls k→k.env.scope.names=sc→k.nm=nm→∀ (ρ:List AV) (H:AHeap) (s:Shared) (Q:SQ) (X:SX),
 k.St ρ H s→vS T calls ir k.hd ρ H Q X→wpAny (model k.c.prog k.c.w) k.A (exec st k.env) (k.RF Q) (k.XS X) s
def SSs (K:Frag) (T:Tab) (calls:Bool→CallSem) (sc:List (Str×NameKind)) (nm:List String) (ss:List Stmt) (ir:ISs):Prop:=∀ (k:Kx),OkS K T calls k→k.env.scope.names=sc→k.nm=nm→∀ (ρ:List AV) (H:AHeap) (s:Shared) (Q:SQ) (X:SX),
 k.St ρ H s→vSs T calls ir k.hd ρ H Q X→wpAny (model k.c.prog k.c.w) k.A (execs ss k.env) (k.RF Q) (k.XS X) s
section
variable {k:Kx} {ρ:List AV} {H:AHeap} {s:Shared} {Q:SQ} {X:SX} {E:Value→Shared→Prop} {A:Around} {K:Frag} {M:Model} {sc:List (Str×NameKind)} {nm:List String} {T:Tab} {calls:Bool→CallSem}
theorem XE_S {e:Value} {s':Shared} (h:k.XE ρ (fun n H=>X n ρ H) e s'):k.XS X e s':=by
 obtain⟨G,ea,n,H',m,h1,h2,h3,h4,h5,h6⟩:=h
 exact⟨G,ea,n,ρ,H',m,h1,h2,h3,h4,h5,h6⟩
theorem rf_mk {f:Flow} {fl:Fl} (hf:FlR f fl) (S:k.St ρ H s) (h:Q fl ρ H):k.RF Q f s:=⟨fl,ρ,H,hf,S,h⟩
theorem st_e {α:Type} {e:Expr} {ir:IE} {f:Value→Sem α} {Q':α→Shared→Prop} {Qe:EQ} (O:OkS K T calls k) (hsc:k.env.scope.names=sc) (hnm:k.nm=nm) (he:SE K sc nm e ir) (S:k.St ρ H s) (h:vE T k.hd (calls k.hd) ir ρ H Qe (fun n H=>X n ρ H))
  (hf:∀ v av H' s',VR v av→k.St ρ H' s'→Qe av H'→wpAny (model k.c.prog k.c.w) k.A (f v) Q' (k.XS X) s'):wpAny (model k.c.prog k.c.w) k.A (eval e k.env >>= f) Q' (k.XS X) s:=by
 rw [← O.t,← O.call] at h
 refine wpAny_bind (wpAny_mono (he k O.ok hsc hnm ρ H s Qe _ S h) (fun v s' ⟨av,H',hv,S',hq⟩=>hf v av H' s' hv S' hq) fun _ _ e=>XE_S e)
theorem st_h {α:Type} {vs:List Value} {e:Expr} {ir:IE} {f:Value→Sem α} {Q':α→Shared→Prop} {Qe:EQ} (O:OkS K T calls k) (hsc:k.env.scope.names=sc) (hnm:k.nm=nm) (he:SE K sc nm e ir) (S:k.St ρ H s) (h:vE T k.hd (calls k.hd) ir ρ H Qe (fun n H=>X n ρ H))
  (hf:∀ v av H' s',VR v av→k.St ρ H' s'→Qe av H'→wpAny (model k.c.prog k.c.w) k.A (f v) Q' (k.XS X) s'):wpAny (model k.c.prog k.c.w) k.A (holding vs (eval e k.env) >>= f) Q' (k.XS X) s:=by
 rw [← O.t,← O.call] at h
 refine wpAny_bind (wpAny_holding (wpAny_mono (he k O.ok hsc hnm ρ H s Qe _ S h) (fun v s' ⟨av,H',hv,S',hq⟩=>hf v av H' s' hv S' hq) fun _ _ e=>XE_S e))
theorem no_swap {v:Expr} {t:Option Expr} {n:Nat} {env:Env} (h:isComp v=false):swapsWith v t n env=pure false:=by
 cases v <;> first | rfl | (cases h)
theorem not_inter (S:k.St ρ H s):interactive k.env=false:=by
 obtain⟨G,_,V⟩:=S
 unfold interactive
 rw [V.fn];rfl
theorem ss_expr {v:Expr} {e:IE} {pos:Pos} (hc:isComp v=false) (he:SE K sc nm v e):SS K T calls sc nm (.Expr v pos) (.expr e):=by
 intro k O hsc hnm ρ H s Q X S h
 unfold vS at h
 rw [arm_exec_Expr,no_swap hc,not_inter S]
 refine wpAny_bind (wpAny_standAt ?_)
 rw [if_neg Bool.false_ne_true]
 refine wpAny_bind (wpAny_pure ?_)
 rw [if_neg Bool.false_ne_true]
 exact st_e O hsc hnm he S h fun v av H' s' hv S' hq=>wpAny_dropValue (rf_mk .next S' hq)
theorem ss_ret {v:Expr} {e:IE} {pos:Pos} (he:SE K sc nm v e):SS K T calls sc nm (.Return (some v) pos) (.ret e):=by
 intro k O hsc hnm ρ H s Q X S h
 unfold vS at h
 rw [arm_exec_Return]
 refine wpAny_bind (wpAny_standAt ?_)
 exact st_e O hsc hnm he S h fun v av H' s' hv S' hq=>wpAny_pure (rf_mk (.ret hv) S' hq)
theorem ss_retN {pos:Pos}:SS K T calls sc nm (.Return none pos) .retN:=by
 intro k O hsc hnm ρ H s Q X S h
 unfold vS at h
 rw [arm_exec_Return]
 exact wpAny_bind (wpAny_standAt (wpAny_pure (rf_mk (.ret .none) S h)))
theorem ss_pass {pos:Pos}:SS K T calls sc nm (.Pass pos) .pass:=by
 intro k O hsc hnm ρ H s Q X S h
 unfold vS at h
 rw [arm_exec_Pass]
 exact wpAny_bind (wpAny_standAt (wpAny_pure (rf_mk .next S h)))
theorem ss_brk {pos:Pos}:SS K T calls sc nm (.Break pos) .brk:=by
 intro k O hsc hnm ρ H s Q X S h
 unfold vS at h
 rw [arm_exec_Break]
 exact wpAny_bind (wpAny_standAt (wpAny_pure (rf_mk .brk S h)))
theorem ss_cont {pos:Pos}:SS K T calls sc nm (.Continue pos) .cont:=by
 intro k O hsc hnm ρ H s Q X S h
 unfold vS at h
 rw [arm_exec_Continue]
 exact wpAny_bind (wpAny_standAt (wpAny_pure (rf_mk .cont S h)))
theorem ss_bad {st:Stmt}:SS K T calls sc nm st .bad:=by
 intro k O hsc hnm ρ H s Q X S h
 unfold vS at h
 exact h.elim
theorem mem_ws (O:OkS K T calls k) {x:Str} {i:Nat} (hi:idx x k.nm=some i):∃ n∈k.ws,Str.ofString n=x:=by
 obtain⟨n,h1,h2⟩:=idx_at hi
 exact⟨n,by rw [O.ws];exact List.mem_of_getElem? h1,h2⟩
theorem no_swapN {v:Expr} {x:Str} {p:Pos} {env:Env}:swappedStores [.Name x p] v env=pure none:=by cases v <;> rfl
theorem no_swapA {v o:Expr} {x:Str} {p:Pos} {env:Env}:swappedStores [.Attribute o x p] v env=pure none:=by cases v <;> rfl
theorem no_swapS {v o i:Expr} {p:Pos} {env:Env}:swappedStores [.Subscript o i p] v env=pure none:=by cases v <;> rfl
theorem no_swapT {v:Expr} {ts:List Expr} {n:Nat} {p:Pos} {env:Env} (h:isTup v=false):swappedStores [.Tuple ts n p] v env=pure none:=by cases v <;> first | rfl | (cases h)
theorem ss_asg {v:Expr} {e:IE} {x:Str} {i:Nat} {p pos:Pos} (hc:isComp v=false) (hi:idx x nm=some i) (he:SE K sc nm v e):SS K T calls sc nm (.Assign [.Name x p] v pos) (.asg i e):=by
 intro k O hsc hnm ρ H s Q X S h
 unfold vS at h
 rw [arm_exec_Assign]
 refine wpAny_bind (wpAny_standAt ?_)
 show wpAny _ _ (swapsWith v (some (.Name x p)) pos.line k.env >>= _) _ _ s
 rw [no_swap hc]
 refine wpAny_bind (wpAny_pure ?_)
 rw [if_neg Bool.false_ne_true]
 refine st_e O hsc hnm he S h fun v' av H' s' hv S' hq=>?_
 rw [no_swapN]
 refine wpAny_bind (wpAny_pure (wpAny_bind ?_))
 subst hnm
 exact p_assign hi (mem_ws O hi) hv S' fun s2 S2=>wpAny_pure (rf_mk .next S2 hq)
theorem vSetA_mono {x v:AV} {n:String} {F F':AHeap→Prop} (h:vSetA T x n v H F) (hm:∀ H',F H'→F' H'):vSetA T x n v H F':=by
 unfold vSetA at h ⊢
 cases x <;> first | exact h.elim | skip
 rename_i a
 dsimp only at h ⊢
 cases hl:H a with
 | none=>rw [hl] at h;exact h.elim
 | some ao =>
  rw [hl] at h
  cases ao <;> first | exact h.elim | exact⟨h.1,h.2.1,hm _ h.2.2⟩
theorem vSetI_mono {x y v:AV} {F F':AHeap→Prop} (h:vSetI x y v H F) (hm:∀ H',F H'→F' H'):vSetI x y v H F':=by
 unfold vSetI at h ⊢
 cases x <;> first | exact h.elim | skip
 cases y <;> first | exact h.elim | skip
 rename_i a i
 dsimp only at h ⊢
 cases hl:H a with
 | none=>rw [hl] at h;exact h.elim
 | some ao =>
  rw [hl] at h
  cases ao <;> first | exact h.elim | exact⟨h.1,hm _ h.2⟩ | exact⟨h.1,h.2.1,hm _ h.2.2⟩
theorem vSetK_mono {x v:AV} {n:String} {F F':AHeap→Prop} (h:vSetK x n v H F) (hm:∀ H',F H'→F' H'):vSetK x n v H F':=by
 unfold vSetK at h ⊢
 cases x <;> first | exact h.elim | skip
 rename_i a
 dsimp only at h ⊢
 cases hl:H a with
 | none=>rw [hl] at h;exact h.elim
 | some ao =>
  rw [hl] at h
  cases ao <;> first | exact h.elim | skip
  rename_i fs
  dsimp only at h ⊢
  cases hg:fget fs n with
  | none=>rw [hg] at h;exact h.elim
  | some w=>rw [hg] at h;exact hm _ h
theorem ss_setA {v o:Expr} {e o':IE} {m:String} {p pos:Pos} (hc:isComp v=false) (ho:SE K sc nm o o') (he:SE K sc nm v e):SS K T calls sc nm (.Assign [.Attribute o (Str.ofString m) p] v pos) (.setA o' m e):=by
 intro k O hsc hnm ρ H s Q X S h
 unfold vS at h
 rw [arm_exec_Assign]
 refine wpAny_bind (wpAny_standAt ?_)
 show wpAny _ _ (swapsWith v (some (.Attribute o (Str.ofString m) p)) pos.line k.env >>= _) _ _ s
 rw [no_swap hc]
 refine wpAny_bind (wpAny_pure ?_)
 rw [if_neg Bool.false_ne_true]
 refine st_e O hsc hnm he S h fun v' av H' s' hv S' hq=>?_
 rw [no_swapA]
 refine wpAny_bind (wpAny_pure (wpAny_bind ?_))
 show wpAny _ _ (assign (.Attribute o (Str.ofString m) p) k.env v') _ _ s'
 rw [arm_assign_Attribute]
 refine st_h O hsc hnm ho S' hq fun ov ao H2 s2 hov S2 hq2=>?_
 refine wpAny_bind (wpAny_standAt (wpAny_bind (wpAny_holding ?_)))
 rw [← O.t] at hq2
 exact p_setA O.ok.F hov hv S2 (vSetA_mono hq2 fun H3 h3 s3 S3=>wpAny_release' (wpAny_pure (rf_mk .next S3 h3)))
theorem ss_setI {v o i:Expr} {e o' i':IE} {p pos:Pos} (hc:isComp v=false) (hs:(match i with | .Slice ..=>false | _=>true)=true) (ho:SE K sc nm o o') (hi:SE K sc nm i i') (he:SE K sc nm v e):SS K T calls sc nm (.Assign [.Subscript o i p] v pos) (.setI o' i' e):=by
 intro k O hsc hnm ρ H s Q X S h
 unfold vS at h
 rw [arm_exec_Assign]
 refine wpAny_bind (wpAny_standAt ?_)
 show wpAny _ _ (swapsWith v (some (.Subscript o i p)) pos.line k.env >>= _) _ _ s
 rw [no_swap hc]
 refine wpAny_bind (wpAny_pure ?_)
 rw [if_neg Bool.false_ne_true]
 refine st_e O hsc hnm he S h fun v' av H' s' hv S' hq=>?_
 rw [no_swapS]
 refine wpAny_bind (wpAny_pure (wpAny_bind ?_))
 show wpAny _ _ (assign (.Subscript o i p) k.env v') _ _ s'
 rw [arm_assign_Subscript]
 refine st_h O hsc hnm ho S' hq fun ov ao H2 s2 hov S2 hq2=>?_
 refine st_h O hsc hnm hi S2 hq2 fun iv ai H3 s3 hiv S3 hq3=>?_
 refine wpAny_bind (wpAny_standAt (wpAny_bind (wpAny_holding ?_)))
 exact p_setI hov hiv hv S3 (vSetI_mono hq3 fun H4 h4 s4 S4=>wpAny_release' (wpAny_pure (rf_mk .next S4 h4)))
theorem p_inplace {op:Operator} {op':BOp} (hop:aop op op'=true) {a:Int} {t:Tok} {w:Value} {y:AV} {Qe:EQ} (hw:VR w y) (S:k.St ρ H s) (h:vBin op' (.int a) y H Qe):wpAny (model k.c.prog k.c.w) A (inplaceOp op (.int a t) w) (fun v s'=>∃ av H',VR v av∧k.St ρ H' s'∧Qe av H') E s:=by
 rcases vBin_cases h with ⟨a',b,e,rfl⟩ | ⟨rfl,l,m,e,_⟩ | ⟨rfl,l,n,e,_⟩ <;> cases e
 cases hw
 cases op <;> cases op' <;> first | (exact absurd hop (by decide)) | skip
 ·exact PyProof.Rows.iadd_int (re_int _ S h)
 ·exact PyProof.Rows.isub_int (re_int _ S h)
theorem p_load {x:Str} {i:Nat} {Q':Value→Shared→Prop} (hc:x≠"__classdict__") (hi:idx x k.nm=some i) (hok:okKind (k.env.kindOf x)=true) (S:k.St ρ H s) (hu:lget ρ i≠.undef) (h:∀ v,VR v (lget ρ i)→Q' v s) :
  wpAny (model k.c.prog k.c.w) A (loadName k.env x) Q' E s:=by
 obtain⟨G,S1,V⟩:=id S
 obtain⟨v,hr,hv⟩:=V.reads x i hi hok hu
 have hcell:∀ ca,((G ca=.var∧s.heap.IsCell ca (some v))∨∃ o,(ca,o)∈k.P∧o.data=.cell (some v))→s.heap.IsCell ca (some v):=fun ca q=>by
  rcases q with ⟨_,q⟩ | ⟨o,q1,q2⟩
  ·exact q
  ·rcases(S1.pv _ q1).2 with z | ⟨⟨_,es,n,z⟩,_⟩
   ·exact⟨o,z,q2⟩
   ·rw [q2] at z;cases z
 rcases hr with ⟨h1,m,h2,h3⟩ | ⟨ca,h1 | h1,h2,h3⟩
 ·exact wpAny_loadName_local V.fn h1 h2 h3 (h v hv)
 ·exact wpAny_loadName_cell V.fn h1 h2 (hcell ca h3) (h v hv)
 ·exact wpAny_loadName_free V.fn h1 h2 (hcell ca h3) (h v hv) (by simpa using hc)
theorem ss_augL {v:Expr} {e:IE} {x:Str} {i:Nat} {op:Operator} {op':BOp} {p pos:Pos} (hc:x≠"__classdict__") (hi:idx x nm=some i) (hk:okKind (sc.lookup x)=true) (hop:aop op op'=true) (he:SE K sc nm v e) :
  SS K T calls sc nm (.AugAssign (.Name x p) op v pos) (.augL i op' e):=by
 intro k O hsc hnm ρ H s Q X S h
 unfold vS at h
 rw [arm_exec_AugAssign]
 refine wpAny_bind (wpAny_standAt (wpAny_bind ?_))
 cases hl:lget ρ i with
 | int a =>
  rw [hl] at h
  subst hnm
  refine p_load hc hi (by show okKind (k.env.scope.names.lookup x)=true;rw [hsc];exact hk) S (by rw [hl];exact fun q=>nomatch q) fun w hw=>?_
  rw [hl] at hw
  cases hw
  refine st_h O hsc rfl he S h fun v' av H' s' hv S' hq=>?_
  refine wpAny_bind (wpAny_standAt (wpAny_bind (wpAny_operate' (wpAny_mono (p_inplace hop hv S' hq) (fun r s2 ⟨ar,H2,hr,S2,h2⟩=>?_) fun _ _ e=>e))))
  refine wpAny_bind (wpAny_standAt (wpAny_bind ?_))
  exact p_store hi (mem_ws O hi) hr S2 fun s3 S3=>wpAny_pure (rf_mk .next S3 h2)
 | _=>rw [hl] at h;exact h.elim
theorem vAttr_mono {x:AV} {n:String} {F F':AV→Prop} (h:vAttr T x n H F) (hm:∀ v,F v→F' v):vAttr T x n H F':=by
 unfold vAttr at h ⊢
 cases x <;> first | exact h.elim | skip
 rename_i a
 dsimp only at h ⊢
 cases hl:H a with
 | none=>rw [hl] at h;exact h.elim
 | some ao =>
  rw [hl] at h
  cases ao <;> first | exact h.elim | skip
  ·rename_i C fs
   dsimp only at h ⊢
   refine⟨h.1,?_⟩
   have h2:=h.2
   cases hg:fget fs n with
   | none=>rw [hg] at h2;exact h2.elim
   | some v=>rw [hg] at h2;exact⟨h2.1,hm _ h2.2⟩
  ·exact⟨h.1,hm _ h.2⟩
theorem vKey_mono {x:AV} {n:String} {F F':AV→Prop} (h:vKey x n H F) (hm:∀ v,F v→F' v):vKey x n H F':=by
 unfold vKey at h ⊢
 cases x <;> first | exact h.elim | skip
 rename_i a
 dsimp only at h ⊢
 cases hl:H a with
 | none=>rw [hl] at h;exact h.elim
 | some ao =>
  rw [hl] at h
  cases ao <;> first | exact h.elim | skip
  rename_i fs
  dsimp only at h ⊢
  cases hg:fget fs n with
  | none=>rw [hg] at h;exact h.elim
  | some v=>rw [hg] at h;exact hm _ h
theorem ss_augA {v o:Expr} {e o':IE} {m:String} {op:Operator} {op':BOp} {p pos:Pos} (hop:aop op op'=true) (ho:SE K sc nm o o') (he:SE K sc nm v e) :
  SS K T calls sc nm (.AugAssign (.Attribute o (Str.ofString m) p) op v pos) (.augA o' m op' e):=by
 intro k O hsc hnm ρ H s Q X S h
 have eT:=O.t
 subst eT
 unfold vS at h
 rw [arm_exec_AugAssign_2]
 refine wpAny_bind (wpAny_standAt ?_)
 refine st_e O hsc hnm ho S h fun ov ao H1 s1 hov S1 h1=>?_
 refine wpAny_bind (wpAny_holding (wpAny_bind (wpAny_standAt (wpAny_bind ?_))))
 have h1':=vAttr_mono h1 (F':=fun w=>∃ a,w=.int a∧vE k.T k.hd (calls k.hd) e ρ H1 (fun y H=>vBin op' (.int a) y H fun r H=>vSetA k.T ao m r H fun H=>Q .next ρ H) (fun n H=>X n ρ H)) (fun w hw=>by
  cases w <;> first | exact hw.elim | skip
  exact⟨_,rfl,hw⟩)
 refine wpAny_mono (p_attr O.ok.F (expr:=true) hov S1 (Q:=fun w H=>H=H1∧∃ a,w=.int a∧vE k.T k.hd (calls k.hd) e ρ H1 (fun y H=>vBin op' (.int a) y H fun r H=>vSetA k.T ao m r H fun H=>Q .next ρ H) (fun n H=>X n ρ H)) (vAttr_mono h1' fun w hw=>⟨rfl,hw⟩)) (fun w s2 ⟨aw,H2,hw,S2,e2,a,e3,h2⟩=>?_) fun _ _ e=>e
 subst e2;subst e3
 cases hw
 refine st_h O hsc hnm he S2 h2 fun v' av H3 s3 hv S3 h3=>?_
 refine wpAny_bind (wpAny_standAt (wpAny_operate' (wpAny_mono (p_inplace hop hv S3 h3) (fun r s4 ⟨ar,H4,hr,S4,h4⟩=>?_) fun _ _ e=>e)))
 refine wpAny_bind (wpAny_standAt (wpAny_bind (wpAny_holding ?_)))
 exact p_setA O.ok.F hov hr S4 (vSetA_mono h4 fun H5 h5 s5 S5=>wpAny_bind (wpAny_release' (wpAny_pure (rf_mk .next S5 h5))))
theorem ss_augK {v o:Expr} {e o':IE} {m:String} {op:Operator} {op':BOp} {kk:Nat} {p p2 pos:Pos} (hop:aop op op'=true) (ho:SE K sc nm o o') (he:SE K sc nm v e) :
  SS K T calls sc nm (.AugAssign (.Subscript o (.Constant (.str (Str.ofString m)) kk p2) p) op v pos) (.augK o' m op' e):=by
 intro k O hsc hnm ρ H s Q X S h
 unfold vS at h
 rw [arm_exec_AugAssign_3]
 refine wpAny_bind (wpAny_standAt ?_)
 refine st_e O hsc hnm ho S h fun ov ao H1 s1 hov S1 h1=>?_
 refine wpAny_bind (wpAny_holding (wpAny_Constant_str ?_))
 refine wpAny_bind (wpAny_holding (wpAny_bind (wpAny_standAt (wpAny_bind ?_))))
 have h1':=vKey_mono h1 (F':=fun w=>∃ a,w=.int a∧vE T k.hd (calls k.hd) e ρ H1 (fun y H=>vBin op' (.int a) y H fun r H=>vSetK ao m r H fun H=>Q .next ρ H) (fun n H=>X n ρ H)) (fun w hw=>by
  cases w <;> first | exact hw.elim | skip
  exact⟨_,rfl,hw⟩)
 refine wpAny_mono (p_getK hov (S1.toks _) (Q:=fun w H=>H=H1∧∃ a,w=.int a∧vE T k.hd (calls k.hd) e ρ H1 (fun y H=>vBin op' (.int a) y H fun r H=>vSetK ao m r H fun H=>Q .next ρ H) (fun n H=>X n ρ H)) (vKey_mono h1' fun w hw=>⟨rfl,hw⟩)) (fun w s2 ⟨aw,H2,hw,S2,e2,a,e3,h2⟩=>?_) fun _ _ e=>e
 subst e2;subst e3
 cases hw
 refine st_h O hsc hnm he S2 h2 fun v' av H3 s3 hv S3 h3=>?_
 refine wpAny_bind (wpAny_standAt (wpAny_operate' (wpAny_mono (p_inplace hop hv S3 h3) (fun r s4 ⟨ar,H4,hr,S4,h4⟩=>?_) fun _ _ e=>e)))
 refine wpAny_bind (wpAny_standAt ?_)
 refine wpAny_bind (wpAny_holding ?_)
 exact p_setK hov hr S4 (vSetK_mono h4 fun H5 h5 s5 S5=>wpAny_bind (wpAny_release' (wpAny_pure (rf_mk .next S5 h5))))
theorem unp_stores (O:OkS K T calls k):∀ (ts:List Expr) (is:List Nat) (vs:List Value) (avs:List AV) (ρ ρ':List AV) (s:Shared) {Q':Unit→Shared→Prop},names2 k.nm ts is=true→L2 VR vs avs→unpL is avs ρ=some ρ'→k.St ρ H s→(∀ s',k.St ρ' H s'→Q' () s') →
  wpAny (model k.c.prog k.c.w) A (assignInOrder ((assignEach ts k.env).map (·.2)) vs) Q' E s
 | [],is,vs,avs,ρ,ρ',s,Q',hn,hv,hu,S,h=>by
  cases is with
  | nil =>
   cases hv with
   | nil=>cases hu;exact assignInOrder_nil (h s S)
   | cons=>cases hu
  | cons=>cases hn
 | t::ts,is,vs,avs,ρ,ρ',s,Q',hn,hv,hu,S,h=>by
  cases is with
  | nil=>cases t <;> cases hn
  | cons i is =>
   cases t <;> first | (cases hn;done) | skip
   rename_i x p
   unfold names2 at hn
   rw [Bool.and_eq_true,decide_eq_true_eq] at hn
   cases hv with
   | nil=>cases hu
   | cons r t =>
    show wpAny _ _ (assignInOrder (assign (.Name x p) k.env::(assignEach ts k.env).map (·.2)) _) _ _ s
    refine assignInOrder_cons (p_assign hn.1 (mem_ws O hn.1) r S fun s2 S2=>?_)
    exact unp_stores O ts is _ _ _ ρ' s2 hn.2 t hu S2 h
theorem names2_plain:∀ {nm:List String} {ts:List Expr} {is:List Nat} {env:Env},names2 nm ts is=true→(assignEach ts env).length=is.length∧(assignEach ts env).findIdx? (·.1)=none
 | _,[],is,_,h=>by cases is with
  | nil=>exact⟨rfl,rfl⟩
  | cons=>cases h
 | nm,t::ts,is,env,h=>by
  cases is with
  | nil=>cases t <;> cases h
  | cons i is =>
   cases t <;> first | (cases h;done) | skip
   rename_i x p
   unfold names2 at h
   rw [Bool.and_eq_true] at h
   obtain⟨h1,h2⟩:=names2_plain (env:=env) h.2
   show(((false,assign (.Name x p) env)::assignEach ts env).length=_)∧(((false,assign (.Name x p) env)::assignEach ts env).findIdx? (·.1))=none
   refine⟨by rw [List.length_cons,List.length_cons,h1],?_⟩
   rw [List.findIdx?_cons,h2];rfl
theorem unpL_length:∀ {is:List Nat} {vs ρ ρ':List AV},unpL is vs ρ=some ρ'→is.length=vs.length
 | [],[],_,_,_=>rfl
 | [],_::_,_,_,h=>by cases h
 | _::_,[],_,_,h=>by cases h
 | _::is,_::vs,_,_,h=>by rw [List.length_cons,List.length_cons,unpL_length (is:=is) (vs:=vs) h]
theorem ss_unp {v:Expr} {e:IE} {ts:List Expr} {is:List Nat} {n:Nat} {p pos:Pos} (hc:isComp v=false) (ht:isTup v=false) (hn:names2 nm ts is=true) (he:SE K sc nm v e):SS K T calls sc nm (.Assign [.Tuple ts n p] v pos) (.unp is e):=by
 intro k O hsc hnm ρ H s Q X S h
 unfold vS at h
 rw [arm_exec_Assign]
 refine wpAny_bind (wpAny_standAt ?_)
 show wpAny _ _ (swapsWith v (some (.Tuple ts n p)) pos.line k.env >>= _) _ _ s
 rw [no_swap hc]
 refine wpAny_bind (wpAny_pure ?_)
 rw [if_neg Bool.false_ne_true]
 refine st_e O hsc hnm he S h fun v' av H' s' hv S' hq=>?_
 rw [no_swapT ht]
 refine wpAny_bind (wpAny_pure (wpAny_bind ?_))
 show wpAny _ _ (assign (.Tuple ts n p) k.env v') _ _ s'
 obtain⟨hhd,hq⟩:=hq
 cases hv <;> first | exact hq.elim | skip
 rename_i l
 dsimp only at hq
 cases hl:H' l with
 | none=>rw [hl] at hq;exact hq.elim
 | some ao =>
  rw [hl] at hq
  cases ao <;> first | exact hq.elim | skip
  rename_i xs
  dsimp only at hq
  cases hu:unpL is xs ρ with
  | none=>rw [hu] at hq;exact hq.elim
  | some ρ' =>
   rw [hu] at hq
   obtain⟨G,SC,V⟩:=id S'
   obtain⟨-,arr,nn,ho,hx,hz⟩:=SC.hv l _ hl
   subst hnm
   obtain⟨n1,n2⟩:=names2_plain (env:=k.env) hn
   have hlen:(assignEach ts k.env).length=arr.size:=by rw [n1,unpL_length hu,← hx.length,Array.length_toList]
   refine assign_Tuple_tuple (O.ok.hand hhd) ⟨_,ho,rfl,nn,rfl⟩ hlen n2 fun h' hk=>?_
   refine unp_stores O ts is _ _ ρ ρ' _ hn hx hu (St_grow S' (tk:=s'.toks) fun b o e=>hk b o (Nat.ne_of_lt (Heap.lt_size e)) e) fun s2 S2=>wpAny_pure (rf_mk .next S2 hq)
theorem ss_ite {t:Expr} {t':IE} {a b:List Stmt} {a' b':ISs} {pos:Pos} (ht:SB K sc nm t t') (ha:SSs K T calls sc nm a a') (hb:SSs K T calls sc nm b b'):SS K T calls sc nm (.If t a b pos) (.ite t' a' b'):=by
 intro k O hsc hnm ρ H s Q X S h
 unfold vS at h
 rw [arm_exec_If]
 rw [← O.t,← O.call] at h
 refine wpAny_bind (wpAny_standAt (wpAny_bind (wpAny_mono (ht k O.ok hsc hnm ρ H s _ _ (fun r H=>if r=true then vSs k.T calls a' k.hd ρ H Q X else vSs k.T calls b' k.hd ρ H Q X) S (fun v H h=>h) h) (fun c s2 ⟨H2,S2,h2⟩=>?_) fun _ _ e=>XE_S e)))
 cases c with
 | true=>rw [if_pos rfl,O.t] at h2;rw [if_pos rfl];exact ha k O hsc hnm _ _ _ _ _ S2 h2
 | false=>rw [if_neg Bool.false_ne_true,O.t] at h2;rw [if_neg Bool.false_ne_true];exact hb k O hsc hnm _ _ _ _ _ S2 h2
theorem sss_nil:SSs K T calls sc nm [] .nil:=by
 intro k O hsc hnm ρ H s Q X S h
 unfold vSs at h
 exact wpAny_pure (rf_mk .next S h)
theorem sss_cons {st:Stmt} {r:List Stmt} {i:IS} {ir:ISs} (ha:SS K T calls sc nm st i) (hb:SSs K T calls sc nm r ir):SSs K T calls sc nm (st::r) (.cons i ir):=by
 intro k O hsc hnm ρ H s Q X S h
 unfold vSs at h
 show wpAny _ _ (do match ← exec st k.env with | .next=>execs r k.env | f=>pure f) _ _ s
 refine wpAny_bind (wpAny_mono (ha k O hsc hnm ρ H s _ X S h) (fun f s2 ⟨fl,ρ2,H2,hf,S2,h2⟩=>?_) fun _ _ e=>e)
 cases hf with
 | next=>exact hb k O hsc hnm _ _ _ _ _ S2 h2
 | brk=>exact wpAny_pure (rf_mk .brk S2 h2)
 | cont=>exact wpAny_pure (rf_mk .cont S2 h2)
 | ret hv=>exact wpAny_pure (rf_mk (.ret hv) S2 h2)
end
end Bm
namespace Bm
open PySem PySem.W PyProof.Rows PySem.SeqAt PySem.MeetsSeq
def SU (K:Frag) (sc:List (Str×NameKind)) (nm:List String) (e:Expr) (ir:IE):Prop:=∀ (k:Kx),k.Ok K→k.env.scope.names=sc→k.nm=nm→∀ (ρ:List AV) (H:AHeap) (s:Shared) (Q X:EQ),
 k.St ρ H s→vE k.T k.hd k.call ir ρ H Q X→∀ (u:Value→Sem Unit) (Q':Shared→Prop),
  (∀ v av H2 s' p,VR v av→Q av H2→(k.withP p).St ρ H2 s'→wpAny (model k.c.prog k.c.w) k.A (u v) (fun _ s''=>∃ ρ',(k.withP p).St ρ' H2 s''∧∀ s3,k.St ρ' H2 s3→Q' s3) (k.XE ρ X) s') →
  wpAny (model k.c.prog k.c.w) k.A (evalThenUse e k.env u) (fun _ s'=>Q' s') (k.XE ρ X) s
section
variable {k:Kx} {ρ:List AV} {H:AHeap} {s:Shared} {Q:SQ} {X:SX} {E:Value→Shared→Prop} {A:Around} {K:Frag} {M:Model} {sc:List (Str×NameKind)} {nm:List String} {T:Tab} {calls:Bool→CallSem}
theorem s_compU {scope:Scope} {t:Str} {tp:Pos} {elt it:Expr} {pos:Pos} {e':IE} {i':IT} (hset:isSet it=false) (hit:ST K sc nm it i') (he:SE K (cscope sc scope.names) (t.toString::nm) elt e')
  (h1:scope.kind=.function) (h2:(cscope sc scope.names).lookup t=some .local∨(cscope sc scope.names).lookup t=some .cell) (h3:cscopeOk sc nm t scope.names=true) (h4:Str.ofString t.toString=t) :
  SU K sc nm (.ListComp elt [⟨.Name t tp,it,[],0⟩] scope pos) (.comp e' i'):=by
 intro k O hsc hnm ρ H s Q X S h u Q' hu
 unfold vE at h
 have CO:CompOk k.env k.nm scope t:=by subst hsc;subst hnm;exact⟨h1,h2,h3,h4⟩
 show wpAny _ _ (do let _ ← comprehension (.ListComp elt [⟨.Name t tp,it,[],0⟩] scope pos) scope k.env _ (newList []) false (eval it k.env) (some u)) _ _ s
 refine wpAny_bind (wpAny_mono (comp_use hset hit he O hsc hnm CO (some u) (Q':=fun _ s'=>Q' s') S h fun D H1 ws s' C oC hK hD S'=>hu (.ref D) _ _ s' (C,oC) (.ref D) (hK D hD) S') (fun _ _ h=>wpAny_pure h) fun _ _ e=>e)
theorem s_compIfU {scope:Scope} {t:Str} {tp:Pos} {elt it q:Expr} {pos:Pos} {e' q':IE} {i':IT} (hset:isSet it=false) (hit:ST K sc nm it i') (he:SE K (cscope sc scope.names) (t.toString::nm) elt e') (hq:SB K (cscope sc scope.names) (t.toString::nm) q q')
  (h1:scope.kind=.function) (h2:(cscope sc scope.names).lookup t=some .local∨(cscope sc scope.names).lookup t=some .cell) (h3:cscopeOk sc nm t scope.names=true) (h4:Str.ofString t.toString=t) :
  SU K sc nm (.ListComp elt [⟨.Name t tp,it,[q],0⟩] scope pos) (.compIf e' i' q'):=by
 intro k O hsc hnm ρ H s Q X S h u Q' hu
 unfold vE at h
 have CO:CompOk k.env k.nm scope t:=by subst hsc;subst hnm;exact⟨h1,h2,h3,h4⟩
 show wpAny _ _ (do let _ ← comprehension (.ListComp elt [⟨.Name t tp,it,[q],0⟩] scope pos) scope k.env _ (newList []) false (eval it k.env) (some u)) _ _ s
 refine wpAny_bind (wpAny_mono (compIf_use hset hit he hq O hsc hnm CO (some u) (Q':=fun _ s'=>Q' s') S h fun D H1 ws s' C oC hK hD S'=>hu (.ref D) _ _ s' (C,oC) (.ref D) (hK D hD) S') (fun _ _ h=>wpAny_pure h) fun _ _ e=>e)
theorem sound_u (K:Frag) {n:Nat} {sc nm e ir} (h:chkE n sc nm e ir=true) (hc:isComp e=true):SU K sc nm e ir:=by
 cases n with
 | zero=>simp [chkE] at h
 | succ n =>
  have ih:=sound K n
  unfold chkE at h
  split at h <;> first | (cases hc;done) | (cases h;done) | skip
  all_goals try simp only [Bool.and_eq_true,decide_eq_true_eq,Bool.not_eq_true',beq_iff_eq] at h
  ·obtain⟨⟨⟨⟨⟨⟨h1,h2⟩,h3⟩,h4⟩,h5⟩,h6⟩,h7⟩:=h
   obtain⟨c1,c2,c3⟩:=ih.c h7
   exact s_compU h4 (ih.t h5) c1 h1 h2 h3 c3
  ·obtain⟨⟨⟨⟨⟨⟨h1,h2⟩,h3⟩,h4⟩,h5⟩,h7⟩,h8⟩:=h
   obtain⟨c1,c2,c3⟩:=ih.c h7
   obtain⟨d1,d2,d3⟩:=ih.c h8
   exact s_compIfU h4 (ih.t h5) c1 d2 h1 h2 h3 c3
theorem comp_swap {v:Expr} {x:Str} {p:Pos} {n:Nat} {env:Env} (h:isComp v=true):∃ b,swapsWith v (some (.Name x p)) n env=pure b:=by
 cases v <;> first | exact⟨_,rfl⟩ | (cases h)
theorem ss_asgC {v:Expr} {e:IE} {x:Str} {i:Nat} {p pos:Pos} (hi:idx x nm=some i) (he:SE K sc nm v e) (hu:isComp v=true→SU K sc nm v e):SS K T calls sc nm (.Assign [.Name x p] v pos) (.asg i e):=by
 cases hc:isComp v with
 | false=>exact ss_asg hc hi he
 | true =>
  intro k O hsc hnm ρ H s Q X S h
  have eT:=O.t
  subst eT
  unfold vS at h
  rw [arm_exec_Assign]
  refine wpAny_bind (wpAny_standAt ?_)
  show wpAny _ _ (swapsWith v (some (.Name x p)) pos.line k.env >>= _) _ _ s
  obtain⟨b,hb⟩:=comp_swap (x:=x) (p:=p) (n:=pos.line) (env:=k.env) hc
  rw [hb]
  refine wpAny_bind (wpAny_pure ?_)
  cases b with
  | false =>
   rw [if_neg Bool.false_ne_true]
   refine st_e O hsc hnm he S h fun v' av H' s' hv S' hq=>?_
   rw [no_swapN]
   refine wpAny_bind (wpAny_pure (wpAny_bind ?_))
   subst hnm
   exact p_assign hi (mem_ws O hi) hv S' fun s2 S2=>wpAny_pure (rf_mk .next S2 hq)
  | true =>
   rw [if_pos rfl]
   rw [← O.call] at h
   refine wpAny_bind (wpAny_mono (hu hc k O.ok hsc hnm ρ H s _ _ S h _ (fun s'=>k.RF Q .next s') fun v' av H2 s' p' hv hq S'=>?_) (fun _ s' hq=>wpAny_pure hq) fun _ _ e=>XE_S e)
   show wpAny _ _ (assign (.Name x p) k.env v') _ _ s'
   subst hnm
   exact p_assign (k:=k.withP p') hi (mem_ws O hi) hv S' fun s2 S2=>⟨_,S2,fun s3 S3=>rf_mk .next S3 hq⟩
end
end Bm
namespace Bm
open PySem PySem.W PyProof.Rows PySem.SeqAt PySem.MeetsSeq
def Mv (fr:List Env) (ex:Nat→Prop) (h h':Heap):Prop:=∀ b o,¬ ex b→h.get? b=some o→h'.get? b=some o∨((∃ x∈fr,x.frame=some b)∧∃ sl,h'.get? b=some { o with slots:=sl })
section
variable {k:Kx} {ρ:List AV} {H:AHeap} {s:Shared} {Q:SQ} {X:SX} {E:Value→Shared→Prop} {A:Around} {K:Frag} {M:Model} {sc:List (Str×NameKind)} {nm:List String} {T:Tab} {calls:Bool→CallSem}
theorem StC.mv {c:Cx} {G G':Nat→Kd} {fr:List Env} {P:List (Addr×Obj)} {ex:Nat→Prop} {h':Heap} {tk:Nat} (S:StC c G fr P H s) (hm:Mv fr ex s.heap h') (hx:∀ b,ex b→G b=.exc∨G b=.free) (hG:∀ b,G b≠.free→G' b=G b)
  (hN:∀ b,G' b≠.free→(G b=.free∨ex b)→∃ o,h'.get? b=some o):StC c G' fr P H { s with heap:=h',toks:=tk }:=by
 have nex:∀ b,(G b≠.exc)→(G b≠.free)→¬ ex b:=fun b h1 h2 q=>(hx b q).elim h1 h2
 have frG:∀ x∈fr,∀ b,x.frame=some b→G b=.prot∨G b=.var:=fun x hx b e=>by
  obtain⟨_,L,o,h2,h3,_⟩:=S.frs x hx
  rw [e] at h2;cases h2;exact h3
 have same:∀ b o,G b≠.exc→G b≠.free→G b≠.prot→G b≠.var→s.heap.get? b=some o→h'.get? b=some o:=fun b o h1 h2 h3 h4 e=>by
  rcases hm b o (nex b h1 h2) e with q | ⟨⟨x,hx,q⟩,_⟩
  ·exact q
  ·rcases frG x hx b q with z | z
   ·exact absurd z h3
   ·exact absurd z h4
 refine⟨fun b o e=>?_,fun a ha=>?_,fun a ao e=>?_,fun p hp=>?_,fun x hx'=>?_,S.gens,S.drawn,S.os⟩
 ·have q:=S.keep b o e
  have n:∀ z,z≠.base→G b≠z:=fun z hz w=>hz (by rw [← w,q.1])
  exact⟨(hG b (n _ (fun q=>nomatch q))).trans q.1,same b o (n _ (fun q=>nomatch q)) (n _ (fun q=>nomatch q)) (n _ (fun q=>nomatch q)) (n _ (fun q=>nomatch q)) q.2⟩
 ·by_cases q:G a=.free∨ex a
  ·exact hN a ha q
  ·have n:G a≠.free:=fun z=>q (.inl z)
   obtain⟨o,ho⟩:=S.ex a n
   rcases hm a o (fun z=>q (.inr z)) ho with z | ⟨_,sl,z⟩
   ·exact⟨_,z⟩
   ·exact⟨_,z⟩
 ·have q:=S.hv a ao e
  have n:∀ z,z≠.obj→z≠.base→G a≠z:=fun z hz hz2 w=>kd_ne hz hz2 (q.1.symm.trans w)
  refine⟨(hG a (n _ (fun q=>nomatch q) (fun q=>nomatch q))).trans q.1,q.2.keep (fun b o hb ho=>?_) fun b hb=>(hG b (by rw [hb];exact fun q=>nomatch q)).trans hb⟩
  rcases hb with rfl | hb
  ·exact same b o (n _ (fun q=>nomatch q) (fun q=>nomatch q)) (n _ (fun q=>nomatch q) (fun q=>nomatch q)) (n _ (fun q=>nomatch q) (fun q=>nomatch q)) (n _ (fun q=>nomatch q) (fun q=>nomatch q)) ho
  ·exact same b o (by rw [hb];exact fun q=>nomatch q) (by rw [hb];exact fun q=>nomatch q) (by rw [hb];exact fun q=>nomatch q) (by rw [hb];exact fun q=>nomatch q) ho
 ·have q:=S.pv p hp
  have n:∀ z,z≠.prot→G p.1≠z:=fun z hz w=>hz (by rw [← w,q.1])
  refine⟨(hG _ (n _ (fun q=>nomatch q))).trans q.1,?_⟩
  have nx:=nex p.1 (n _ (fun q=>nomatch q)) (n _ (fun q=>nomatch q))
  rcases q.2 with z | ⟨⟨z1,z2⟩,sl,z⟩
  ·rcases hm p.1 p.2 nx z with w | ⟨⟨x,hx',w1⟩,sl,w2⟩
   ·exact .inl w
   ·obtain⟨_,L,o,f2,_,f4,f5⟩:=S.frs x hx'
    rw [w1] at f2;cases f2
    rw [z] at f4;cases f4
    exact .inr ⟨⟨⟨x,hx',w1⟩,f5⟩,sl,w2⟩
  ·rcases hm p.1 _ nx z with w | ⟨_,sl',w2⟩
   ·exact .inr ⟨⟨z1,z2⟩,sl,w⟩
   ·exact .inr ⟨⟨z1,z2⟩,sl',w2⟩
 ·obtain⟨h1,L,o,h2,h3,h4,h5⟩:=S.frs x hx'
  have hf:G L≠.exc∧G L≠.free:=by rcases h3 with z | z <;> rw [z] <;> exact⟨(fun q=>nomatch q),(fun q=>nomatch q)⟩
  have hg:G' L=.prot∨G' L=.var:=by rw [hG L hf.2];exact h3
  rcases hm L o (nex L hf.1 hf.2) h4 with w | ⟨_,sl,w⟩
  ·exact⟨h1,L,o,h2,hg,w,h5⟩
  ·exact⟨h1,L,_,h2,hg,w,h5⟩
theorem Vr.mv {G G':Nat→Kd} {fr:List Env} {P:List (Addr×Obj)} {env:Env} {nm ws:List String} {h h':Heap} {ex:Nat→Prop} (V:Vr G P env nm ws ρ h) (hm:Mv fr ex h h') (hx:∀ b,ex b→G b=.exc∨G b=.free) (hG:∀ b,G b≠.free→G' b=G b) (hG':∀ b,G' b=.var→G b=.var) :
  Vr G' P env nm ws ρ h':=by
 have nex:∀ b,G b=.var→¬ ex b:=fun b e q=>by rcases hx b q with z | z <;> rw [e] at z <;> cases z
 have g:∀ a,G a=.var→G' a=.var:=fun a e=>(hG a (by rw [e];exact fun q=>nomatch q)).trans e
 have ns':∀ m,h.Ns env.locals m→h'.Ns env.locals m:=fun m ⟨o,es,ep,ho,hd,r⟩=>by
  rcases hm _ o (nex _ V.loc) ho with w | ⟨_,sl,w⟩
  ·exact⟨o,es,ep,w,hd,r⟩
  ·exact⟨_,es,ep,w,hd,r⟩
 have cell':∀ ca v,G ca=.var→h.IsCell ca v→h'.IsCell ca v:=fun ca v q ⟨o,ho,hd⟩=>by
  rcases hm _ o (nex _ q) ho with w | ⟨_,sl,w⟩
  ·exact⟨o,w,hd⟩
  ·exact⟨_,w,hd⟩
 refine⟨V.fn,V.gl,V.bi,g _ V.loc,V.ns.imp ns',fun x i e hk n=>?_,fun x hx=>?_,fun x ca e q=>?_,V.inj,V.len,fun x ca e=>(V.inP x ca e).imp (g _) id,V.has⟩
 ·obtain⟨v,hr,hv⟩:=V.reads x i e hk n
  refine⟨v,?_,hv⟩
  rcases hr with ⟨h1,m,h2,h3⟩ | ⟨ca,h1,h2,⟨h3,h4⟩ | h3⟩
  ·exact .inl ⟨h1,m,ns' m h2,h3⟩
  ·exact .inr ⟨ca,h1,h2,.inl ⟨g _ h3,cell' _ _ h3 h4⟩⟩
  ·exact .inr ⟨ca,h1,h2,.inr h3⟩
 ·rcases V.stores x hx with h1 | ⟨h1,ca,h2,h3⟩
  ·exact .inl h1
  ·exact .inr ⟨h1,ca,h2,g _ h3⟩
 ·obtain⟨v₀,hv⟩:=V.cells x ca e (hG' _ q)
  exact⟨v₀,cell' _ _ (hG' _ q) hv⟩
theorem StC.funFrames {c:Cx} {G:Nat→Kd} {P:List (Addr×Obj)}:∀ {fr:List Env},StC c G fr P H s→s.heap.FunFrames c.base fr
 | [],_=>trivial
 | x::r,S=>by
  obtain⟨h1,L,o,h2,h3,h4,es,n,h5⟩:=S.frs x (.head _)
  refine⟨h1,⟨L,o,h2,?_,h4,fun vs q=>by rw [h5] at q;cases q⟩,StC.funFrames (fr:=r) (P:=[]) ⟨S.keep,S.ex,S.hv,(fun p hp=>nomatch hp),fun e he=>S.frs e (.tail _ he),S.gens,S.drawn,S.os⟩⟩
  cases hb:c.base.get? L with
  | none=>rfl
  | some o'=>have:=(S.keep L o' hb).1;rcases h3 with z | z <;> rw [this] at z <;> cases z
theorem mv_frame {fr:List Env} {ex:Nat→Prop} {h h' h'':Heap} (m1:Mv fr ex h h') (m2:Mv fr ex h' h''):Mv fr ex h h'':=fun b o hx e=>by
 rcases m1 b o hx e with w | ⟨f,sl,w⟩
 ·exact m2 b o hx w
 ·rcases m2 b _ hx w with z | ⟨_,sl',z⟩
  ·exact .inr ⟨f,sl,z⟩
  ·exact .inr ⟨f,sl',z⟩
theorem p_entry {c:Cx} {G:Nat→Kd} {P:List (Addr×Obj)} {env:Env} {outer:List Env} {L ea:Nat} {oe:Obj} {vs:Array Value} {head:Value} {hadNext:Bool} {Q':Unit→Shared→Prop}
  (S:StC c G (env::outer) P H s) (hfr:A.frames=some (env::outer)) (hf:env.frame=some L) (ge:G ea=.exc) (he:s.heap.get? ea=some oe) (hd:oe.data=.fields vs) (hsz:1 < vs.size)
  (h:∀ h' T oT ts,Mv (env::outer) (fun b=>b=ea∨b=T) s.heap h'→s.heap.get? T=none→T≠ea→s.heap.objs.size≤T→h'.get? ea=some (Obj.mapFields (·.setIfInBounds 1 (Value.ref T)) oe)→h'.get? T=some oT→oT.data=.fields ts→ts[3]? = some (rawInt L)→Q' () { s with heap:=h' }) :
  wpAny M A (do let a ← frameOf env;let pl ← entryPlaceOf L hadNext;let b ← EntryCells.newEntry head a .none (rawInt L) .none pl;setField (.ref ea) 1 b) Q' E s:=by
 have hl:=S.funFrames
 have frs:∀ b∈(env::outer).filterMap (·.frame),∃ x∈env::outer,x.frame=some b:=fun b hb=>by
  obtain⟨x,hx,e⟩:=List.mem_filterMap.mp hb;exact⟨x,hx,e⟩
 have hene:ea∉(env::outer).filterMap (·.frame):=fun hm=>by
  obtain⟨_,o,ho,hnf⟩:=hl.mem hm
  rw [he] at ho;injection ho with ho;subst ho;exact hnf vs hd
 refine wpAny_bind (wpAny_frameOf_fun hfr hl hf fun h₁ hs₁=>?_)
 refine wpAny_bind (wpAny_entryPlaceOf fun pl hpl=>?_)
 unfold EntryCells.newEntry newFields
 refine wpAny_bind (wpAny_newObj_type ?_ (hpl.sizeOk5 _ _ _ _ _))
 have he₁:h₁.get? ea=some oe:=(hs₁.2.1 ea hene).trans he
 have he₂:=Heap.get?_push_of_some (h:=h₁) { cls:=.type "traceback",dict:=none,data:=.fields ([head,.ref L,.none,rawInt L,.none]++(if pl.isEmpty then List.replicate 6 Value.none else pl)).toArray } he₁
 have hTe:h₁.objs.size≠ea:=Nat.ne_of_gt (Heap.lt_size he₁)
 have hd₃:=Obj.data_mapFields hd (·.setIfInBounds 1 (Value.ref h₁.objs.size))
 have he₃:=Heap.get?_update_self (Obj.mapFields (·.setIfInBounds 1 (Value.ref h₁.objs.size))) he₂ (Obj.isFreed_of_fields hd₃)
 have hT₃:=(Heap.get?_update_other (h₁.push { cls:=.type "traceback",dict:=none,data:=.fields ([head,.ref L,.none,rawInt L,.none]++(if pl.isEmpty then List.replicate 6 Value.none else pl)).toArray })
  (Obj.mapFields (·.setIfInBounds 1 (Value.ref h₁.objs.size))) (Ne.symm hTe)).trans (Heap.get?_push_size h₁ rfl)
 refine wpAny_setField he₂ hd hsz (h _ h₁.objs.size _ _ ?_ ?_ hTe ?_ he₃ hT₃ rfl ?_)
 ·intro b o hx hb
  have hbe:b≠ea:=fun q=>hx (.inl q)
  have up:∀ o',h₁.get? b=some o'→((h₁.push { cls:=.type "traceback",dict:=none,data:=.fields ([head,.ref L,.none,rawInt L,.none]++(if pl.isEmpty then List.replicate 6 Value.none else pl)).toArray }).update ea (Obj.mapFields (·.setIfInBounds 1 (Value.ref h₁.objs.size)))).get? b=some o':=fun o' e=>by
   rw [Heap.get?_update_other _ _ (Ne.symm hbe)]
   exact Heap.get?_push_of_some _ e
  by_cases q:b∈(env::outer).filterMap (·.frame)
  ·obtain⟨sl,e⟩:=hs₁.2.2 b o hb
   exact .inr ⟨frs b q,sl,up _ e⟩
  ·exact .inl (up o ((hs₁.2.1 b q).trans hb))
 ·exact Heap.get?_none_of_le (by rw [hs₁.1];exact Nat.le_refl _)
 ·rw [hs₁.1];exact Nat.le_refl _
 ·first | (simp;done) | (rcases hpl with rfl | ⟨_,_,_,_,_,_,_,rfl⟩ <;> simp)
theorem dict_mapFields (o:Obj) (f):(Obj.mapFields f o).dict=o.dict:=by
 obtain⟨c,d,dt,sl⟩:=o;cases dt <;> rfl
theorem mv_same {c:Cx} {G:Nat→Kd} {fr:List Env} {P:List (Addr×Obj)} {ex:Nat→Prop} {h':Heap} (S:StC c G fr P H s) (hm:Mv fr ex s.heap h') {b:Nat} {o:Obj} (hx:¬ ex b) (h1:G b≠.prot) (h2:G b≠.var) (e:s.heap.get? b=some o):h'.get? b=some o:=by
 rcases hm b o hx e with w | ⟨⟨x,hx',q⟩,_⟩
 ·exact w
 ·obtain⟨_,L,o',f2,f3,_⟩:=S.frs x hx'
  rw [q] at f2;cases f2
  rcases f3 with z | z
  ·exact absurd z h1
  ·exact absurd z h2
def Kx.Aw (k:Kx) (ρ:List AV) (H:AHeap) (ea:Nat) (n:AV) (m:TbM) (s:Shared):Prop:=∃ G,StC k.c G k.fr k.P H s∧Vr G k.P k.env k.nm k.ws ρ s.heap∧Fly G s.heap ea n m
theorem aw_T {ea T:Nat} {n:AV} {m:TbM} {G:Nat→Kd} (S:StC k.c G k.fr k.P H s) (V:Vr G k.P k.env k.nm k.ws ρ s.heap) (F:Fly G s.heap ea n m) {oe oT:Obj} {vs ts:Array Value} {fl:Value} {m':TbM}
  (he:s.heap.get? ea=some oe) (hd:oe.data=.fields vs) (h1:vs[1]? = some (.ref T)) (gT:G T=.exc) (hTe:T≠ea) (hT:s.heap.get? T=some oT) (hdT:oT.data=.fields ts) (hsz:3 < ts.size)
  (hm:∀ (oT':Obj) (ts':Array Value),oT'.data=.fields ts'→ts'[3]? = some fl→∀ h',h'.get? T=some oT'→h'.get? ea=some oe→Tb G h' ea vs m') :
  k.Aw ρ H ea n m' { s with heap:=s.heap.update T (Obj.mapFields (·.setIfInBounds 3 fl)) }:=by
 have other:∀ b,b≠T→(s.heap.update T (Obj.mapFields (·.setIfInBounds 3 fl))).get? b=s.heap.get? b:=fun b hb=>Heap.get?_update_other _ _ (Ne.symm hb)
 have hd':=Obj.data_mapFields hdT (·.setIfInBounds 3 fl)
 have self:=Heap.get?_update_self (Obj.mapFields (·.setIfInBounds 3 fl)) hT (Obj.isFreed_of_fields hd')
 have mv:Mv k.fr (fun b=>b=T) s.heap (s.heap.update T (Obj.mapFields (·.setIfInBounds 3 fl))):=fun b o hb e=>.inl ((other b hb).trans e)
 obtain⟨f1,f2,oe',vs',dx,md,f3,f4,f5,f6,f7,_,f9,⟨od,es,ep,f10,fr⟩,f11⟩:=F
 rw [he] at f3;cases f3
 rw [hd] at f6;cases f6
 refine⟨G,S.mv mv (fun b e=>.inl (by rw [e];exact gT)) (fun _ _=>rfl) (fun b hb h=>?_),V.mv mv (fun b e=>.inl (by rw [e];exact gT)) (fun _ _=>rfl) (fun _ e=>e),f1,f2,oe,vs,dx,md,(other ea (Ne.symm hTe)).trans he,f4,f5,hd,f7,hm _ _ hd' (by simp [hsz]) _ self ((other ea (Ne.symm hTe)).trans he),f9,⟨od,es,ep,?_,fr⟩,f11⟩
 ·rcases h with h | h
  ·exact absurd h hb
  ·subst h;exact⟨_,self⟩
 ·refine(other dx fun q=>?_).trans f10
  rw [q,gT] at f9;cases f9
theorem aw_entry {ea L:Nat} {n:AV} {m:TbM} {outer:List Env} {G:Nat→Kd} (frm:k.fr=k.env::outer) (hf:k.env.frame=some L) (hfr:A.frames=some k.fr) (S:StC k.c G k.fr k.P H s) (V:Vr G k.P k.env k.nm k.ws ρ s.heap) (F:Fly G s.heap ea n m) {head:Value} {hadNext:Bool} {Q':Unit→Shared→Prop}
  (h:∀ s',k.Aw ρ H ea n (.held L) s'→Q' () s') :
  wpAny M A (do let a ← frameOf k.env;let pl ← entryPlaceOf L hadNext;let b ← EntryCells.newEntry head a .none (rawInt L) .none pl;setField (.ref ea) 1 b) Q' E s:=by
 obtain⟨f1,f2,oe,vs,dx,md,f3,f4,f5,f6,f7,_,f9,⟨od,es,ep,f10,fr⟩,f11⟩:=F
 have S':StC k.c G (k.env::outer) k.P H s:=frm ▸ S
 refine p_entry S' (frm ▸ hfr) hf f1 f3 f6 f7 fun h' T oT ts mv hTn hTe hTs he' hT hdT h3=>h _ ?_
 have gT:G T=.free:=by
  cases hq:G T with
  | free=>rfl
  | _=>exact absurd (S.lt T (by rw [hq];exact fun e=>nomatch e)) (Nat.not_lt.mpr hTs)
 have mv':Mv k.fr (fun b=>b=ea∨b=T) s.heap h':=frm ▸ mv
 have hx:∀ b,(b=ea∨b=T)→G b=.exc∨G b=.free:=fun b e=>e.elim (fun e=>.inl (by rw [e];exact f1)) fun e=>.inr (by rw [e];exact gT)
 have hG:∀ b,G b≠.free→gset G T .exc b=G b:=fun b hb=>gset_ne fun e=>hb (by rw [e,gT])
 have hd':=Obj.data_mapFields f6 (·.setIfInBounds 1 (Value.ref T))
 refine⟨gset G T .exc,S.mv mv' hx hG (fun b hb hq=>?_),V.mv mv' hx hG (fun b e=>?_),(hG ea (by rw [f1];exact fun q=>nomatch q)).trans f1,f2,_,_,dx,md,he',?_,?_,hd',?_,?_,?_,⟨od,es,ep,?_,fr⟩,f11⟩
 ·rcases hq with h | h | h
  ·by_cases q:b=T
   ·rw [q];exact⟨_,hT⟩
   ·rw [gset_ne q] at hb;exact absurd h hb
  ·rw [h];exact⟨_,he'⟩
  ·rw [h];exact⟨_,hT⟩
 ·by_cases q:b=T
  ·rw [q,gset_eq] at e;cases e
  ·rwa [gset_ne q] at e
 ·rw [Obj.cls_mapFields];exact f4
 ·rw [dict_mapFields];exact f5
 ·simpa using f7
 ·exact⟨T,oT,ts,by simp [f7],gset_eq,hTe,hT,hdT,h3⟩
 ·rw [hG dx (by rw [f9];exact fun q=>nomatch q)];exact f9
 ·refine mv_same S mv' (fun q=>?_) (by rw [f9];exact fun q=>nomatch q) (by rw [f9];exact fun q=>nomatch q) f10
  rcases q with q | q
  ·rw [q,f1] at f9;cases f9
  ·rw [q,gT] at f9;cases f9
theorem p_note {ea L:Nat} {n:AV} {m:TbM} {outer:List Env} (frm:k.fr=k.env::outer) (hf:k.env.frame=some L) (hfr:A.frames=some k.fr) (W:k.Aw ρ H ea n m s) (hm:∀ L',m=.held L'→k.env.frame=some L') {Q':Unit→Shared→Prop}
  (h:∀ s',k.Aw ρ H ea n (.held L) s'→Q' () s'):wpAny M A (noteFrame (.ref ea) k.env) Q' E s:=by
 obtain⟨G,S,V,F⟩:=W
 have F':=F
 obtain⟨f1,f2,oe,vs,dx,md,f3,f4,f5,f6,f7,f8,f9,f10,f11⟩:=F
 unfold noteFrame
 simp only [hf]
 cases m with
 | made =>
  refine wpAny_bind (wpAny_field f3 f6 f8 ?_)
  rw [if_neg (by decide)]
  exact aw_entry frm hf hfr S V F' h
 | fly =>
  obtain⟨T,oT,ts,t1,t2,t3,t4,t5,t6⟩:=f8
  refine wpAny_bind (wpAny_field f3 f6 t1 ?_)
  rw [if_pos (show(Value.ref T != Value.none)=true from by simp)]
  refine wpAny_bind (wpAny_field t4 t5 t6 ?_)
  rw [if_neg (show ¬ ((Value.none == rawInt L)=true) from by simp [rawInt])]
  have hsz:=(Array.getElem?_eq_some_iff.mp t6).1
  refine wpAny_bind (wpAny_setField t4 t5 hsz ?_)
  obtain⟨G2,S2,V2,F2⟩:=aw_T (m':=.fly) (fl:=.none) S V F' f3 f6 t1 t2 t3 t4 t5 hsz (fun oT' ts' e1 e2 h' e3 _=>⟨T,oT',ts',t1,t2,t3,e3,e1,e2⟩)
  exact aw_entry frm hf hfr S2 V2 F2 h
 | held L' =>
  obtain⟨T,oT,ts,t1,t2,t3,t4,t5,t6⟩:=f8
  have e:=hm L' rfl
  rw [hf] at e;cases e
  refine wpAny_bind (wpAny_field f3 f6 t1 ?_)
  rw [if_pos (show(Value.ref T != Value.none)=true from by simp)]
  refine wpAny_bind (wpAny_field t4 t5 t6 ?_)
  rw [if_pos (show(rawInt L == rawInt L)=true from by simp)]
  exact wpAny_pure (h s ⟨G,S,V,F'⟩)
theorem p_flight0 {ea L:Nat} {n:AV} (W:k.Aw ρ H ea n (.held L) s) {Q':Unit→Shared→Prop} (h:∀ s',k.Aw ρ H ea n .fly s'→Q' () s'):wpAny M A (setFlight (.ref ea) none) Q' E s:=by
 obtain⟨G,S,V,F⟩:=W
 have F':=F
 obtain⟨f1,f2,oe,vs,dx,md,f3,f4,f5,f6,f7,⟨T,oT,ts,t1,t2,t3,t4,t5,t6⟩,f9,f10,f11⟩:=F
 have hsz:=(Array.getElem?_eq_some_iff.mp t6).1
 unfold setFlight
 refine wpAny_bind (wpAny_field f3 f6 t1 ?_)
 rw [if_pos (show(Value.ref T != Value.none)=true from by simp)]
 exact wpAny_setField t4 t5 hsz (h _ (aw_T S V F' f3 f6 t1 t2 t3 t4 t5 hsz fun oT' ts' e1 e2 h' e3 _=>⟨T,oT',ts',t1,t2,t3,e3,e1,e2⟩))
theorem p_flight0' {ea:Nat} {n:AV} (W:k.Aw ρ H ea n .fly s) {Q':Unit→Shared→Prop} (h:∀ s',k.Aw ρ H ea n .fly s'→Q' () s'):wpAny M A (setFlight (.ref ea) none) Q' E s:=by
 obtain⟨G,S,V,F⟩:=W
 have F':=F
 obtain⟨f1,f2,oe,vs,dx,md,f3,f4,f5,f6,f7,⟨T,oT,ts,t1,t2,t3,t4,t5,t6⟩,f9,f10,f11⟩:=F
 have hsz:=(Array.getElem?_eq_some_iff.mp t6).1
 unfold setFlight
 refine wpAny_bind (wpAny_field f3 f6 t1 ?_)
 rw [if_pos (show(Value.ref T != Value.none)=true from by simp)]
 exact wpAny_setField t4 t5 hsz (h _ (aw_T S V F' f3 f6 t1 t2 t3 t4 t5 hsz fun oT' ts' e1 e2 h' e3 _=>⟨T,oT',ts',t1,t2,t3,e3,e1,e2⟩))
theorem p_cameBack {ea L:Nat} {n:AV} {m:TbM} (hf:k.env.frame=some L) (hm:m≠.made) (W:k.Aw ρ H ea n m s) {E':Value→Shared→Prop} (h:∀ s',k.Aw ρ H ea n (.held L) s'→E' (.ref ea) s'):cameBackBy M A k.env E' (.ref ea) s:=by
 obtain⟨G,S,V,F⟩:=W
 have F':=F
 obtain⟨f1,f2,oe,vs,dx,md,f3,f4,f5,f6,f7,f8,f9,f10,f11⟩:=F
 have tb:∃ T oT ts x,vs[1]? = some (.ref T)∧G T=.exc∧T≠ea∧s.heap.get? T=some oT∧oT.data=.fields ts∧ts[3]? = some x:=by
  cases m with
  | made=>exact absurd rfl hm
  | fly=>obtain⟨T,oT,ts,t1,t2,t3,t4,t5,t6⟩:=f8;exact⟨T,oT,ts,_,t1,t2,t3,t4,t5,t6⟩
  | held L'=>obtain⟨T,oT,ts,t1,t2,t3,t4,t5,t6⟩:=f8;exact⟨T,oT,ts,_,t1,t2,t3,t4,t5,t6⟩
 obtain⟨T,oT,ts,x,t1,t2,t3,t4,t5,t6⟩:=tb
 have hsz:=(Array.getElem?_eq_some_iff.mp t6).1
 unfold cameBackBy
 refine wpAny_bind (wpAny_field f3 f6 t1 ?_)
 rw [if_neg (show ¬ ((Value.ref T == Value.none)=true) from by simp)]
 unfold setFlight
 refine wpAny_bind (wpAny_field f3 f6 t1 ?_)
 rw [if_pos (show(Value.ref T != Value.none)=true from by simp),hf]
 exact wpAny_setField t4 t5 hsz (h _ (aw_T S V F' f3 f6 t1 t2 t3 t4 t5 hsz fun oT' ts' e1 e2 h' e3 _=>⟨T,oT',ts',t1,t2,t3,e3,e1,e2⟩))
end
end Bm
namespace Bm
open PySem PySem.W PyProof.Rows PySem.SeqAt PySem.MeetsSeq
section
variable {k:Kx} {ρ:List AV} {H:AHeap} {s:Shared} {Q:SQ} {X:SX} {E:Value→Shared→Prop} {A:Around} {K:Frag} {M:Model} {sc:List (Str×NameKind)} {nm:List String} {T:Tab} {calls:Bool→CallSem}
theorem xs_aw {e:Value} (h:k.XS X e s):∃ ea n ρ' H' m,e=.ref ea∧k.Aw ρ' H' ea n m s∧(∀ L,m=.held L→k.env.frame=some L)∧X n ρ' H':=by
 obtain⟨G,ea,n,ρ',H',m,h1,h2,h3,h4,h5,h6⟩:=h
 exact⟨ea,n,ρ',H',m,h1,⟨G,h2,h3,h4⟩,h5,h6⟩
theorem aw_xs {ea:Nat} {n:AV} {m:TbM} (W:k.Aw ρ H ea n m s) (hm:∀ L,m=.held L→k.env.frame=some L) (h:X n ρ H):k.XS X (.ref ea) s:=by
 obtain⟨G,h2,h3,h4⟩:=W
 exact⟨G,ea,n,ρ,H,m,rfl,h2,h3,h4,hm,h⟩
theorem loop_err (O:OkS K T calls k) {e:Value} (h:k.XS X e s):notedBy M k.A k.env (fun e s'=>cameBackBy M k.A k.env (k.XS X) e s') e s:=by
 obtain⟨outer,L,frm,hf⟩:=O.frm
 obtain⟨ea,n,ρ',H',m,rfl,W,hm,hx⟩:=xs_aw h
 unfold notedBy
 exact p_note frm hf (by rw [O.ok.frames]) W hm fun s' W'=>p_cameBack (m:=.held L) hf (fun q=>nomatch q) W' fun s2 W2=>aw_xs W2 (fun L' e=>by cases e;exact hf) hx
theorem ss_while {t:Expr} {t':IE} {b:List Stmt} {b':ISs} {pos:Pos} (ht:SB K sc nm t t') (hb:SSs K T calls sc nm b b'):SS K T calls sc nm (.While t b [] pos) (.whil t' b'):=by
 intro k O hsc hnm ρ H s Q X S h
 have eT:=O.t
 subst eT
 unfold vS at h
 obtain⟨n,h⟩:=h
 refine wpAny_While (codeAny_whileLoop (fun n s=>∃ ρ H,k.St ρ H s∧whileL (fun ρ H K=>vE k.T k.hd (calls k.hd) t' ρ H (fun v H=>Bm.truthy v H fun r=>K r H) (fun n H=>X n ρ H)) (fun ρ H K=>vSs k.T calls b' k.hd ρ H K X) n ρ H Q) ?_ n ⟨ρ,H,S,h⟩)
 clear S h
 rintro n s ⟨ρ,H,S,h⟩
 cases n with
 | zero=>exact h.elim
 | succ n =>
  unfold whileL at h
  rw [← O.call] at h
  refine wpAny_mono (ht k O.ok hsc hnm ρ H s _ _ (fun b H₁=>if b=true then vSs k.T calls b' k.hd ρ H₁ (fun fl ρ' H'=>match fl with
   | .next | .cont=>whileL (fun ρ H K=>vE k.T k.hd k.call t' ρ H (fun v H=>Bm.truthy v H fun r=>K r H) (fun n H=>X n ρ H)) (fun ρ H K=>vSs k.T calls b' k.hd ρ H K X) n ρ' H' Q
   | .brk=>Q .next ρ' H'
   | .ret v=>Q (.ret v) ρ' H') X else Q .next ρ H₁) S (fun v H h=>h) h) (fun c s2 ⟨H2,S2,h2⟩=>?_) fun e s' he=>loop_err O (XE_S he)
  cases c with
  | false =>
   rw [if_neg Bool.false_ne_true] at h2
   show wpAny _ _ (execs [] k.env) _ _ s2
   exact wpAny_pure (rf_mk .next S2 h2)
  | true =>
   rw [if_pos rfl] at h2
   show wpAny _ _ (execs b k.env) _ _ s2
   refine wpAny_mono (hb k O hsc hnm ρ H2 s2 _ X S2 h2) (fun f s3 ⟨fl,ρ3,H3,hf,S3,h3⟩=>?_) fun e s' he=>loop_err O he
   rw [O.call] at h3
   cases hf with
   | next=>exact⟨n,Nat.lt_succ_self n,ρ3,H3,S3,h3⟩
   | cont=>exact⟨n,Nat.lt_succ_self n,ρ3,H3,S3,h3⟩
   | brk=>exact rf_mk .next S3 h3
   | ret hv=>exact rf_mk (.ret hv) S3 h3
theorem OkS.onP (O:OkS K T calls k) (p:Addr×Obj):OkS K T calls (k.withP p):=⟨O.ok.withP p,O.t,O.call,O.both,O.ws,O.frm⟩
theorem XS_drop {p:Addr×Obj} (hp:∀ v,p.2.data≠.cell v) {e:Value} {s':Shared} (h:(k.withP p).XS X e s'):k.XS X e s':=by
 obtain⟨G,ea,n,ρ',H',m,h1,S,V,h2,h3,h4⟩:=h
 refine⟨G,ea,n,ρ',H',m,h1,S.lessP fun q hq=>.tail _ hq,V.subP fun c o v hm hd=>?_,h2,h3,h4⟩
 rcases List.mem_cons.mp hm with z | z
 ·cases z;exact absurd hd (hp v)
 ·exact z
theorem St_drop1 {d:Nat} {o:Obj} (own:Own k d) (ho:∀ v,o.data≠.cell v) (S:(k.withP (d,o)).St ρ H s):k.St ρ H s:=St_dropP own ho S (h':=s.heap) (tk:=s.toks) fun _ _ _ e=>e
theorem ss_for {x:Str} {px:Pos} {i:Nat} {it:Expr} {it':IT} {b:List Stmt} {b':ISs} {pos:Pos} (hi:idx x nm=some i) (hset:isSet it=false) (ht:ST K sc nm it it') (hb:SSs K T calls sc nm b b'):SS K T calls sc nm (.For (.Name x px) it b [] pos) (.for_ i it' b'):=by
 intro k O hsc hnm ρ H s Q X S h
 have eT:=O.t
 subst eT
 unfold vS at h
 rw [← O.call] at h
 rw [arm_exec_For]
 refine wpAny_bind (wpAny_standAt (wpAny_bind (wpAny_mono (ht k O.ok hsc hnm ρ H s _ _ S h) (fun v s1 ⟨src,xs,H1,S1,hit,hok,hlen,hhd,h1⟩=>?_) fun _ _ e=>XE_S e)))
 refine wpAny_bind (wpAny_of_eq (notSet hset k.env v) (wpAny_bind (wpAny_standAt (wpAny_bind (wpAny_holding ?_)))))
 refine p_iter S1 hit fun o s2 itr S2=>?_
 have own:=Own.at S1
 generalize s1.heap.objs.size=I at own S2 ⊢
 have hh:=O.ok.hand hhd
 refine wpAny_runOwn (codeAny_forLoop (fun n s=>∃ (o:Obj) (xs:List AV) (ρ:List AV) (H:AHeap),n=xs.length+1∧ItR src o xs∧src.ok H∧(k.withP (I,o)).St ρ H s∧forL src i (fun ρ H K=>vSs k.T calls b' k.hd ρ H K X) xs ρ H Q) ?_ (xs.length+1) ⟨o,xs,ρ,H1,rfl,itr,hok,S2,h1⟩)
 clear S2 h1 itr hok hlen hit S1 S h
 rintro n s ⟨o,xs,ρ,H,rfl,itr,hok,S,h⟩
 refine p_next hh own itr hok S (fun e s' S'=>?_) (fun y ys e v o' s' hv itr' S'=>?_)
 ·subst e
  show wpAny _ _ (execs [] k.env) _ _ s'
  exact wpAny_pure (rf_mk .next S' h)
 ·subst e
  unfold forL at h
  have nc:∀ v,((I,o'):Addr×Obj).2.data≠.cell v:=fun v q=>by obtain⟨fvs,hf⟩:=itr'.fields;rw [hf] at q;cases q
  have hi':idx x (k.withP (I,o')).nm=some i:=by show idx x k.nm=some i;rw [hnm];exact hi
  refine p_assign (k:=k.withP (I,o')) hi' (mem_ws (O.onP (I,o')) hi') hv S' fun s3 S3=>?_
  refine wpAny_mono (hb (k.withP (I,o')) (O.onP (I,o')) hsc hnm _ H s3 _ X S3 h) (fun f s4 ⟨fl,ρ4,H4,hf,S4,h4⟩=>?_) fun e s' he=>loop_err O (XS_drop (p:=(I,o')) nc he)
  cases hf with
  | next=>exact⟨ys.length+1,Nat.lt_succ_self _,o',ys,ρ4,H4,rfl,itr',h4.1,S4,h4.2⟩
  | cont=>exact⟨ys.length+1,Nat.lt_succ_self _,o',ys,ρ4,H4,rfl,itr',h4.1,S4,h4.2⟩
  | brk=>exact rf_mk .next (St_drop1 own nc S4) h4
  | ret hv'=>exact rf_mk (.ret hv') (St_drop1 own nc S4) h4
end
end Bm
namespace Bm
open PySem PySem.W PyProof.Rows PySem.SeqAt PySem.MeetsSeq
def fnIn (K:Frag) (f:Nat) (fn:Fn):Bool:=match K.lookup f with
 | some ⟨_,_,.func fd,_⟩=>(match fd.body with
  | .stmts body=>fd.closure.isEmpty&&decide (fd.globals=mainGlobals)&&decide (fd.builtins=builtinsNs)&&(match fd.defaults with | .none=>true | _=>false)&&plainP fd.params&&codeIn K fd.code fd.qualname&&chkF fd.params body fd.scope fn &&
    fd.scope.names.all (fun x=>decide (x.2≠.free))
  | _=>false)
 | _=>false
theorem nodup_of:∀ {l:List String},nodup l=true→l.Nodup
 | [],_=>.nil
 | n::r,h=>by
  unfold nodup at h
  rw [Bool.and_eq_true,decide_eq_true_eq] at h
  exact List.nodup_cons.mpr ⟨h.1,nodup_of h.2⟩
section
variable {k:Kx} {ρ:List AV} {H:AHeap} {s:Shared} {E:Value→Shared→Prop} {A:Around} {K:Frag} {M:Model} {sc:List (Str×NameKind)} {nm:List String} {T:Tab} {calls:Bool→CallSem}
theorem lookup_zip:∀ {ps:List Str} {vs:List Value} {x:Str},ps.length=vs.length→x∈ps→((ps.zip vs).lookup x).isSome=true
 | p::ps,v::vs,x,hl,hx=>by
  rw [List.zip_cons_cons,List.lookup_cons]
  cases hq:x == p with
  | true=>rfl
  | false =>
   rcases List.mem_cons.mp hx with e | hx
   ·rw [e] at hq;simp at hq
   ·exact lookup_zip (by simpa using hl) hx
theorem zip_again:∀ {ps:List Str} {vs:List Value},ps.Nodup→ps.length=vs.length→(ps.filterMap fun n=>((ps.zip vs).lookup n).map (n,·))=ps.zip vs:=by
 intro ps vs hn hl
 have key:∀ (qs:List Str) (us:List Value) (pre:List (Str×Value)),qs.length=us.length→qs.Nodup→(∀ q∈qs,pre.lookup q=none)→(qs.filterMap fun n=>((pre++qs.zip us).lookup n).map (n,·))=qs.zip us:=by
  intro qs
  induction qs with
  | nil=>intro us pre _ _ _;cases us <;> rfl
  | cons q qs ih =>
   intro us pre hl hn hp
   cases us with
   | nil=>cases hl
   | cons u us =>
    have hn':=List.nodup_cons.mp hn
    rw [List.filterMap_cons,List.zip_cons_cons,List.lookup_append,hp q (.head _)]
    simp only [Option.none_or,List.lookup_cons,beq_self_eq_true,Option.map_some]
    congr 1
    have:=ih us (pre++[(q,u)]) (by simpa using hl) hn'.2 (fun q' hq'=>by
     rw [List.lookup_append,hp q' (.tail _ hq')]
     have:(q' == q)=false:=by
      have:q'≠q:=fun e=>hn'.1 (e ▸ hq')
      simpa using this
     rw [List.lookup_cons,this];rfl)
    rw [show pre++(q,u)::qs.zip us=(pre++[(q,u)])++qs.zip us by simp]
    exact this
 have:=key ps vs [] hl hn (fun _ _=>rfl)
 simpa using this
theorem forIn_fix {α β:Type} {l:List α} {f:α→β→Sem (ForInStep β)} (c:β) (h:∀ x∈l,f x c=pure (.yield c)):forIn l c f=pure c:=by
 induction l with
 | nil=>rfl
 | cons x l ih =>
  rw [List.forIn_cons,h x List.mem_cons_self,pure_bind]
  exact ih fun y hy=>h y (List.mem_cons_of_mem _ hy)
theorem bind_exact {fd:FuncData} {vs:List Value} {Q:List (Str×Value)→Shared→Prop} (hp:plainP fd.params=true) (hd:fd.defaults=.none∨∃ D o xs n,fd.defaults=.ref D∧s.heap.get? D=some o∧o.data=.seq xs n) (hl:vs.length=(fd.params.args.map (·.arg)).length) (hn:(fd.params.args.map (·.arg)).Nodup)
  (h:Q ((fd.params.args.map (·.arg)).zip vs) s):wpAny M A (bindArgs fd ⟨vs,[]⟩) Q E s:=by
 unfold plainP at hp
 simp only [Bool.and_eq_true,List.isEmpty_iff,Option.isNone_iff_eq_none] at hp
 obtain⟨⟨⟨h1,h2⟩,h3⟩,h4⟩:=hp
 unfold bindArgs
 dsimp only
 rw [h1,h2,h3,h4]
 simp only [List.map_nil,List.nil_append,List.forIn_nil,pure_bind]
 generalize hps:List.map (fun x=>x.arg) fd.params.args=ps at *
 have h5:decide (vs.length > ps.length)=false:=decide_eq_false (by omega)
 have hm:∀ l:List Str,(∀ x∈l,x∈ps)→l.filter (fun n=>((ps.zip vs).lookup n).isNone)=[]:=fun l hl'=>by
  rw [List.filter_eq_nil_iff]
  intro x hx
  have:=lookup_zip hl.symm (hl' x hx)
  simpa using this
 have rest:∀ r:Option (Array Value),wpAny M A (seqItems? fd.defaults) (fun r' s'=>r'=r∧s'=s) E s→_:=fun r hr=>hr
 have hseq:∃ r,wpAny M A (seqItems? fd.defaults) (fun r' s'=>r'=r∧s'=s) E s:=by
  rcases hd with hd | ⟨D,o,xs,n,hd,ho,hx⟩
  ·rw [hd];exact⟨none,wpAny_pure ⟨rfl,rfl⟩⟩
  ·rw [hd]
   refine⟨some xs,?_⟩
   unfold seqItems?
   refine wpAny_bind (wpAny_load ho ?_)
   rw [hx]
   exact wpAny_pure ⟨rfl,rfl⟩
 obtain⟨r,hr⟩:=hseq
 refine wpAny_bind (wpAny_mono hr (fun r' s' ⟨e1,e2⟩=>?_) fun _ _ e=>e)
 subst e1;subst e2
 rw [h5]
 simp only [Bool.false_and,Bool.false_eq_true,if_false]
 rw [hm (List.take _ ps) (fun x hx=>List.mem_of_mem_take hx)]
 simp only [List.isEmpty_nil,Bool.not_true,Bool.false_eq_true,if_false,List.append_nil]
 rw [forIn_fix (ps.zip vs) (fun x hx=>?_)]
 ·simp only [pure_bind]
  rw [zip_again hn hl.symm]
  exact wpAny_pure h
 ·obtain⟨n,d⟩:=x
  have hmem:n∈ps:=List.mem_of_mem_drop (List.of_mem_zip hx).1
  have:=lookup_zip hl.symm hmem
  have hnn:((ps.zip vs).lookup n).isNone=false:=by
   cases hq:(ps.zip vs).lookup n with
   | none=>rw [hq] at this;cases this
   | some v=>rfl
  simp only [hnn,Bool.false_eq_true,if_false]
theorem bindL_get {kindOf:Str→Option NameKind}:∀ {binds:List (Str×Value)} {m:Str→Option Value} {x:Str},(binds.map (·.1)).Nodup→kindOf x=some .local→(∀ v,(x,v)∈binds→bindL kindOf binds m x=some v)∧((∀ v,(x,v)∉binds)→bindL kindOf binds m x=m x)
 | [],m,x,_,_=>⟨(fun v h=>nomatch h),fun _=>rfl⟩
 | (n,w)::r,m,x,hn,hk=>by
  rw [List.map_cons,List.nodup_cons] at hn
  unfold bindL
  obtain⟨i1,i2⟩:=bindL_get (binds:=r) (m:=if kindOf n=some .local then fun y=>if y=n then some w else m y else m) (x:=x) hn.2 hk
  refine⟨fun v hv=>?_,fun hv=>?_⟩
  ·rcases List.mem_cons.mp hv with e | hv
   ·cases e
    rw [i2 (fun v' hv'=>hn.1 (List.mem_map.mpr ⟨_,hv',rfl⟩)),if_pos hk,if_pos rfl]
   ·exact i1 v hv
  ·rw [i2 (fun v' hv'=>hv v' (.tail _ hv'))]
   have:x≠n:=fun e=>hv w (by rw [e];exact .head _)
   split
   ·exact if_neg this
   ·rfl
theorem bindC_get {kindOf:Str→Option NameKind}:∀ {binds:List (Str×Value)} {m:Str→Option Value} {x:Str},(binds.map (·.1)).Nodup→kindOf x≠some .local→(∀ v,(x,v)∈binds→bindC kindOf binds m x=some v)∧((∀ v,(x,v)∉binds)→bindC kindOf binds m x=m x)
 | [],m,x,_,_=>⟨(fun v h=>nomatch h),fun _=>rfl⟩
 | (n,w)::r,m,x,hn,hk=>by
  rw [List.map_cons,List.nodup_cons] at hn
  unfold bindC
  obtain⟨i1,i2⟩:=bindC_get (binds:=r) (m:=if kindOf n=some .local then m else fun y=>if y=n then some w else m y) (x:=x) hn.2 hk
  refine⟨fun v hv=>?_,fun hv=>?_⟩
  ·rcases List.mem_cons.mp hv with e | hv
   ·cases e
    rw [i2 (fun v' hv'=>hn.1 (List.mem_map.mpr ⟨_,hv',rfl⟩)),if_neg hk,if_pos rfl]
   ·exact i1 v hv
  ·rw [i2 (fun v' hv'=>hv v' (.tail _ hv'))]
   have:x≠n:=fun e=>hv w (by rw [e];exact .head _)
   split
   ·rfl
   ·exact if_neg this
theorem lget_append:∀ {l m:List AV} {i:Nat},i < l.length→lget (l++m) i=lget l i
 | _::_,_,0,_=>rfl
 | _::l,m,i+1,h=>lget_append (l:=l) (Nat.lt_of_succ_lt_succ h)
theorem lget_undefs:∀ {l:List AV} {n i:Nat},l.length≤i→lget (l++List.replicate n .undef) i=.undef
 | [],0,_,_=>rfl
 | [],n+1,0,_=>rfl
 | [],n+1,i+1,_=>lget_undefs (l:=[]) (n:=n) (Nat.zero_le i)
 | _::l,n,i+1,h=>lget_undefs (l:=l) (Nat.le_of_succ_le_succ h)
theorem zip_at:∀ {ps:List String} {vs:List Value} {avs:List AV} {x:Str} {i:Nat},L2 VR vs avs→idx x ps=some i→i < avs.length→∃ v,(x,v)∈(ps.map Str.ofString).zip vs∧VR v (lget avs i)
 | [],_,_,x,i,_,h,_=>by cases h
 | p::ps,[],_,x,i,.nil,h,hi=>absurd hi (Nat.not_lt_zero _)
 | p::ps,v::vs,w::ws,x,i,.cons r t,h,hi=>by
  have e:idx x (p::ps)=if Str.ofString p=x then some 0 else(idx x ps).map (· + 1):=rfl
  rw [e] at h
  by_cases q:Str.ofString p=x
  ·rw [if_pos q] at h;cases h
   exact⟨v,by rw [← q];exact .head _,r⟩
  ·rw [if_neg q] at h
   cases hj:idx x ps with
   | none=>rw [hj] at h;cases h
   | some j =>
    rw [hj] at h;cases h
    obtain⟨u,u1,u2⟩:=zip_at t hj (Nat.lt_of_succ_lt_succ hi)
    exact⟨u,.tail _ u1,u2⟩
theorem idx_take:∀ {names:List String} {n i:Nat} {x:Str},idx x names=some i→i < n→idx x (names.take n)=some i
 | p::ps,0,i,x,h,hi=>absurd hi (Nat.not_lt_zero _)
 | p::ps,n+1,i,x,h,hi=>by
  have e:idx x (p::ps)=if Str.ofString p=x then some 0 else(idx x ps).map (· + 1):=rfl
  have e':idx x ((p::ps).take (n+1))=if Str.ofString p=x then some 0 else(idx x (ps.take n)).map (· + 1):=rfl
  rw [e] at h;rw [e']
  by_cases q:Str.ofString p=x
  ·rw [if_pos q] at h ⊢;exact h
  ·rw [if_neg q] at h ⊢
   cases hj:idx x ps with
   | none=>rw [hj] at h;cases h
   | some j =>
    rw [hj] at h;cases h
    rw [idx_take hj (Nat.lt_of_succ_lt_succ hi)];rfl
theorem nodup_str:∀ {l:List String},l.Nodup→(l.map Str.ofString).Nodup
 | [],_=>.nil
 | n::r,h=>by
  rw [List.nodup_cons] at h
  rw [List.map_cons,List.nodup_cons]
  refine⟨fun hm=>?_,nodup_str h.2⟩
  obtain⟨m,h1,h2⟩:=List.mem_map.mp hm
  exact h.1 (ofString_inj h2 ▸ h1)
theorem zip_fst:∀ {l:List Str} {vs:List Value},l.length=vs.length→(l.zip vs).map (·.1)=l
 | [],[],_=>rfl
 | _::_,[],h=>nomatch h
 | [],_::_,h=>nomatch h
 | a::l,v::vs,h=>by rw [List.zip_cons_cons,List.map_cons,zip_fst (by simpa using h)]
structure FnAt (K:Frag) (f:Nat) (fn:Fn) (fd:FuncData) (body:List Stmt):Prop where
 at_:∃ c d sl,K.lookup f=some ⟨c,d,.func fd,sl⟩
 body_:fd.body=.stmts body
 clos:fd.closure=[]
 glob:fd.globals=mainGlobals
 blt:fd.builtins=builtinsNs
 dflt:fd.defaults=.none
 par:plainP fd.params=true
 code:codeIn K fd.code fd.qualname=true
 chk:chkSs 60 fd.scope.names fn.names body fn.body=true
 nd:fn.names.Nodup
 args:fd.params.args.map (·.arg)=(fn.names.take fn.np).map Str.ofString
 np:fn.np≤fn.names.length
 kinds:∀ x∈fn.names,fd.scope.names.lookup (Str.ofString x)=some .local∨fd.scope.names.lookup (Str.ofString x)=some .cell
 kind:fd.scope.kind=.function
 gen:fd.scope.isGenerator=false
 cor:fd.scope.isCoroutine=false
 free:∀ x∈fd.scope.names,x.2≠.free
theorem fnAt_of {f:Nat} {fn:Fn} (h:fnIn K f fn=true):∃ fd body,FnAt K f fn fd body:=by
 unfold fnIn at h
 split at h
 ·rename_i c d fd sl hk
  split at h
  ·rename_i body hb
   simp only [Bool.and_eq_true,decide_eq_true_eq,List.isEmpty_iff] at h
   obtain⟨⟨⟨⟨⟨⟨⟨h1,h2⟩,h3⟩,h4⟩,h5⟩,h6⟩,h7⟩,h8⟩:=h
   unfold chkF at h7
   simp only [Bool.and_eq_true,decide_eq_true_eq,Bool.not_eq_true',List.all_eq_true] at h7
   obtain⟨⟨⟨⟨⟨⟨⟨c1,c2⟩,c3⟩,c4⟩,c5⟩,c6⟩,c7⟩,c8⟩:=h7
   have hd:fd.defaults=.none:=by
    split at h4
    ·assumption
    ·cases h4
   exact⟨fd,body,⟨_,_,_,hk⟩,hb,h1,h2,h3,hd,h5,h6,c1,nodup_of c2,c3,c4,c5,c6,c7,c8,fun x hx=>by
    have:=List.all_eq_true.mp h8 x hx
    simpa using this⟩
  ·cases h
 ·cases h
end
end Bm
namespace Bm
open PySem PySem.W PyProof.Rows PySem.SeqAt PySem.MeetsSeq
section
variable {k:Kx} {ρ:List AV} {H:AHeap} {s:Shared} {E:Value→Shared→Prop} {A:Around} {K:Frag} {M:Model} {sc:List (Str×NameKind)} {nm:List String} {T:Tab} {calls:Bool→CallSem}
theorem call_env {c:Cx} {G:Nat→Kd} {fr:List Env} {P:List (Addr×Obj)} (nv:∀ a,G a≠.var) (S:StC c G fr P H s) {f:Nat} {fn:Fn} {fd:FuncData} {body:List Stmt} (C:FnAt K f fn fd body) {vs:List Value} {args:List AV} (hv:L2 VR vs args) (hl:args.length=fn.np) {env:Env} {s':Shared}
  (he:env=newEnv fd.scope s.heap.objs.size fd.globals (cellsFrom (s.heap.objs.size+1) fd.scope.names []) (fd.qualname++".<locals>.") (some f) fd.code none fd.builtins)
  (x:InCallC s env.locals (bindL env.kindOf ((fd.params.args.map (·.arg)).zip vs) fun _=>none) env.cells (bindC env.kindOf ((fd.params.args.map (·.arg)).zip vs) fun _=>none) s') :
  ∃ G',StC c G' (env::fr) P H s'∧Vr G' P env fn.names fn.names (args++List.replicate (fn.names.length - fn.np) .undef) s'.heap∧env.frame=some env.locals∧(∀ p∈P,p.1≠env.locals):=by
 obtain⟨h',tk,es'⟩:=x.toInCall.same
 have keep:=x.toInCall.keep
 have hL:env.locals=s.heap.objs.size:=by rw [he];rfl
 have hcells:env.cells=cellsFrom (s.heap.objs.size+1) fd.scope.names []:=by rw [he];rfl
 have hscope:env.scope=fd.scope:=by rw [he];rfl
 have hkind:∀ y,env.kindOf y=fd.scope.names.lookup y:=fun y=>by show env.scope.names.lookup y=_;rw [hscope]
 have hns:=x.toInCall.ns
 have keep':∀ b o,s.heap.get? b=some o→h'.get? b=some o:=fun b o e=>by have:=keep b o e;rw [es'] at this;exact this
 have S1:=S.vars (tk:=tk) keep'
 rw [← es'] at S1
 have eh:s'.heap=h':=by rw [es']
 obtain⟨oL,les,lep,hoL,hdL,_⟩:=id hns
 have gL:varG G s.heap.objs.size h' env.locals=.var:=varG_new (by rw [hL];exact Nat.le_refl _) (by rw [← eh];exact hoL)
 have cellV:∀ y ca,env.cells.lookup y=some ca→varG G s.heap.objs.size h' ca=.var∧∃ v,s'.heap.IsCell ca v:=fun y ca e=>by
  have hc:=x.cell y ca e
  obtain⟨o,ho,hd⟩:=id hc
  refine⟨varG_new ?_ (by rw [← eh];exact ho),_,hc⟩
  have:=x.above y ca (lookup_mem e)
  rw [hL] at this
  exact Nat.le_of_lt this
 have accLow:∀ n c',(n,c')∈([]:List (Str×Addr))→c' < (s.heap.push { cls:=.type "frame",data:=.dict #[] }).objs.size:=fun n c' h=>nomatch h
 have La:=laid fd.scope.names (s.heap.push { cls:=.type "frame",data:=.dict #[] }) [] accLow
 have psz:(s.heap.push { cls:=.type "frame",data:=.dict #[] }).objs.size=s.heap.objs.size+1:=Heap.size_push ..
 rw [psz,← hcells] at La
 have kinds:∀ y∈fn.names,env.kindOf (Str.ofString y)=some .local∨(env.kindOf (Str.ofString y)=some .cell∧∃ ca,env.cells.lookup (Str.ofString y)=some ca):=fun y hy=>by
  rw [hkind]
  rcases C.kinds y hy with h | h
  ·exact .inl h
  ·exact .inr ⟨h,La.new _ (lookup_mem h)⟩
 have hvl:vs.length=args.length:=hv.length
 have psl:(fd.params.args.map (·.arg)).length=vs.length:=by rw [C.args,List.length_map,List.length_take,hvl,hl,Nat.min_eq_left C.np]
 have bnd:(((fd.params.args.map (·.arg)).zip vs).map (·.1)).Nodup:=by
  rw [zip_fst psl,C.args]
  exact nodup_str (C.nd.sublist (List.take_sublist _ _))
 refine⟨_,⟨S1.keep,S1.ex,S1.hv,fun p hp=>?_,fun e h=>?_,S1.gens,S1.drawn,S1.os⟩,⟨?_,?_,?_,gL,⟨_,hns⟩,fun y i e hk n=>?_,fun y hy=>?_,fun y ca e q=>(cellV y ca e).2,fun y z ca e e'=>name_of_addr x.apart (mem_of_lookup e) (mem_of_lookup e'),?_,fun y ca e=>.inl (cellV y ca e).1,fun y hy=>?_⟩,?_,fun p hp q=>?_⟩
 ·refine⟨(S1.pv p hp).1,(S1.pv p hp).2.imp id fun⟨⟨⟨e,he',z⟩,z2⟩,z3⟩=>⟨⟨⟨e,.tail _ he',z⟩,z2⟩,z3⟩⟩
 ·rcases List.mem_cons.mp h with e' | h
  ·rw [e']
   have kn:env.scope.kind≠.module:=by rw [hscope,C.kind];exact fun q=>nomatch q
   exact⟨kn,env.locals,oL,by rw [he];rfl,.inr gL,hoL,les,lep,hdL⟩
  ·exact S1.frs e h
 ·rw [hscope];exact C.kind
 ·rw [he];exact C.glob
 ·rw [he];exact C.blt
 ·have hi:i < args.length:=by
   rcases Nat.lt_or_ge i args.length with q | q
   ·exact q
   ·exact absurd (lget_undefs q) n
  rw [lget_append hi]
  obtain⟨v,v1,v2⟩:=zip_at (ps:=fn.names.take fn.np) hv (idx_take e (by rw [← hl];exact hi)) hi
  rw [← C.args] at v1
  obtain⟨ny,hny,hoy⟩:=idx_at e
  have hmem:ny∈fn.names:=List.mem_of_getElem? hny
  refine⟨v,?_,v2⟩
  rcases kinds ny hmem with h | ⟨h,ca,hca⟩
  ·rw [hoy] at h
   exact .inl ⟨h,_,hns,(bindL_get bnd h).1 v v1⟩
  ·rw [hoy] at h hca
   refine .inr ⟨ca,.inl h,hca,.inl ⟨(cellV _ ca hca).1,?_⟩⟩
   have:=x.cell _ ca hca
   rw [(bindC_get bnd (by rw [h];exact fun q=>nomatch q)).1 v v1] at this
   exact this
 ·rcases kinds y hy with h | ⟨h,ca,hca⟩
  ·exact .inl h
  ·exact .inr ⟨h,ca,hca,(cellV _ ca hca).1⟩
 ·rw [List.length_append,List.length_replicate,hl];have:=C.np;omega
 ·rcases hy with h | h
  ·rw [hkind] at h;exact La.new _ (lookup_mem h)
  ·rw [hkind] at h;exact absurd rfl (C.free _ (lookup_mem h))
 ·rw [he];rfl
 ·have:=S.lt p.1 (by rw [(S.pv p hp).1];exact fun q=>nomatch q)
  rw [q,hL] at this
  exact Nat.lt_irrefl _ this
theorem StC.leave {c:Cx} {G:Nat→Kd} {env:Env} {fr:List Env} {P P':List (Addr×Obj)} (S:StC c G (env::fr) P' H s) (hP:∀ p∈P,p∈P') (hL:∀ p∈P,env.frame≠some p.1):StC c G fr P H s :=
 ⟨S.keep,S.ex,S.hv,fun p hp=>⟨(S.pv p (hP p hp)).1,(S.pv p (hP p hp)).2.imp id fun⟨⟨⟨e,he,z⟩,z2⟩,z3⟩=>by
  rcases List.mem_cons.mp he with rfl | he
  ·exact absurd z (hL p hp)
  ·exact⟨⟨⟨e,he,z⟩,z2⟩,z3⟩⟩,fun e he=>S.frs e (.tail _ he),S.gens,S.drawn,S.os⟩
theorem Fly.putBy {G:Nat→Kd} {h:Heap} {ea:Nat} {n:AV} {m:TbM} (F:Fly G h ea n m):Fly (Bm.putBy G) h ea n m:=by
 have ne:∀ a x,G a=x→x≠.var→Bm.putBy G a=x:=fun a x e n=>(putBy_ne (by rw [e];exact n)).trans e
 obtain⟨f1,f2,oe,vs,dx,md,f3,f4,f5,f6,f7,f8,f9,f10,f11⟩:=F
 refine⟨ne _ _ f1 (fun q=>nomatch q),f2,oe,vs,dx,md,f3,f4,f5,f6,f7,?_,ne _ _ f9 (fun q=>nomatch q),f10,f11⟩
 cases m with
 | made=>exact f8
 | fly=>obtain⟨T,oT,ts,t1,t2,r⟩:=f8;exact⟨T,oT,ts,t1,ne _ _ t2 (fun q=>nomatch q),r⟩
 | held L=>obtain⟨T,oT,ts,t1,t2,r⟩:=f8;exact⟨T,oT,ts,t1,ne _ _ t2 (fun q=>nomatch q),r⟩
theorem call_step {c:Cx} {n:Nat} {hd:Bool} (F:Fa c T K) {f:Nat} {fn:Fn} (hfn:fnIn K f fn=true) (hcalls:∀ b,CallOk c (calls b) n b) (hbody:∀ fd body,FnAt K f fn fd body→SSs K T calls fd.scope.names fn.names body fn.body)
  {args:List AV} {Q X:EQ} (hl:args.length=fn.np)
  (h:vSs T calls fn.body hd (args++List.replicate (fn.names.length - fn.np) .undef) H (fun fl _ H'=>match fl with | .ret v=>Q v H' | .next=>Q .none H' | _=>False) (fun k _ H'=>X k H'))
  {fr:List Env} {P:List (Addr×Obj)} {G:Nat→Kd} {vs:List Value} (nv:∀ a,G a≠.var) (hv:L2 VR vs args) (S:StC c G fr P H s) (room:Room A (n+1)) (hfr:A.frames=some fr) (hh:hd=false→A.handled=none) :
  codeAny (model c.prog c.w) A (.call (.ref f) ⟨vs,[]⟩) (RP c fr P Q X) s:=by
 obtain⟨fd,body,C⟩:=fnAt_of hfn
 obtain⟨c1,d1,sl1,hk⟩:=C.at_
 have XK:K.In s.heap:=F.inK.keeps fun b o e=>(S.keep b o e).2
 have lim:s.heap.NoLimit:=F.nolim.keeps fun b o e=>(S.keep b o e).2
 have hvl:vs.length=args.length:=hv.length
 have psl:vs.length=(fd.params.args.map (·.arg)).length:=by rw [C.args,List.length_map,List.length_take,hvl,hl,Nat.min_eq_left C.np]
 have psn:(fd.params.args.map (·.arg)).Nodup:=by rw [C.args];exact nodup_str (C.nd.sublist (List.take_sublist _ _))
 refine codeAny_call_function (by have:=room.1;have e:recursionLimit=1000:=rfl;omega) (XK _ _ hk) rfl C.cor C.gen C.body_ (codeRec_of XK C.code) ?_
 refine bind_exact C.par (.inl C.dflt) psl psn ?_
 rw [C.clos]
 refine wpAny_newFunctionEnv_cells C.kind (fun x hx=>?_) fun env he s' x=>?_
 ·have hm:x.1∈fd.params.args.map (·.arg):=(List.of_mem_zip (a:=x.1) (b:=x.2) hx).1
  rw [C.args] at hm
  obtain⟨y,hy,e⟩:=List.mem_map.mp hm
  rw [← e]
  rcases C.kinds y (List.mem_of_mem_take hy) with h | h
  ·exact .inl h
  ·refine .inr ⟨h,?_⟩
   have psz:(s.heap.push { cls:=.type "frame",data:=.dict #[] }).objs.size=s.heap.objs.size+1:=Heap.size_push ..
   have La:=laid fd.scope.names (s.heap.push { cls:=.type "frame",data:=.dict #[] }) [] (fun n c' h=>nomatch h)
   rw [psz] at La
   obtain⟨ca,hca⟩:=La.new _ (lookup_mem h)
   rw [hca];rfl
 ·obtain⟨G',S',V',hf,own⟩:=call_env nv S C hv hl he x
  refine⟨?_,?_⟩
  ·exact lim.keeps x.toInCall.keep
  let k':Kx:=⟨c,A.deeper env,env::fr,P,env,fn.names,fn.names,n,hd,calls hd,T⟩
  have Ok':OkS K T calls k':=⟨⟨F,⟨by have:=room.1;show A.depth+1+3*n+2≤900;omega,by have:=room.2;show A.units+3+20*n+17≤9000;omega⟩,by show A.frames.map (env::·)=some (env::fr);rw [hfr];rfl,hh,hcalls hd⟩,rfl,rfl,hcalls,rfl,fr,env.locals,rfl,hf⟩
  have hsc:k'.env.scope.names=fd.scope.names:=by show env.scope.names=_;rw [he];rfl
  have run:=hbody fd body C k' Ok' hsc rfl _ H s' _ _ ⟨G',S',V'⟩ h
  have ownf:∀ p∈P,env.frame≠some p.1:=fun p hp q=>own p hp (Option.some.inj (hf.symm.trans q)).symm
  refine codeAny_func (wpAny_mono run (fun fl s2 ⟨fl',ρ2,H2,hfl,⟨G2,S2,V2⟩,hq⟩=>?_) fun e s2 he2=>?_)
  ·have S3:=St_putBy (k:=k') S2 V2
   have S4:StC c (putBy G2) fr P H2 s2:=S3.leave (fun p hp=>List.mem_append_right _ hp) ownf
   cases hfl with
   | next=>exact⟨_,_,H2,putBy_noVar G2,.none,S4,hq⟩
   | brk=>exact hq.elim
   | cont=>exact hq.elim
   | ret hv'=>exact⟨_,_,H2,putBy_noVar G2,hv',S4,hq⟩
  ·obtain⟨ea,n',ρ2,H2,m,rfl,W,hm,hx⟩:=xs_aw he2
   unfold leaving
   refine wpAny_bind (p_note (k:=k') rfl hf Ok'.ok.frames W hm fun s3 W3=>?_)
   refine p_flight0 W3 fun s4 W4=>?_
   obtain⟨G4,S4,V4,F4⟩:=W4
   have S5:=St_putBy (k:=k') S4 V4
   have S6:StC c (putBy G4) fr P H2 s4:=S5.leave (fun p hp=>List.mem_append_right _ hp) ownf
   exact⟨_,ea,n',H2,putBy_noVar G4,rfl,S6,F4.putBy,hx⟩
end
end Bm
namespace Bm
open PySem PySem.W PyProof.Rows PySem.SeqAt PySem.MeetsSeq
section
variable {k:Kx} {ρ:List AV} {H:AHeap} {s:Shared} {Q:SQ} {X:SX} {E:Value→Shared→Prop} {A:Around} {K:Frag} {M:Model} {sc:List (Str×NameKind)} {nm:List String} {T:Tab} {calls:Bool→CallSem}
def Kx.handler (k:Kx) (calls:Bool→CallSem) (e:Value):Kx:={ k with A:=k.A.mark (some e),hd:=true,call:=calls true }
theorem Ok_handler (O:OkS K T calls k) (e:Value):OkS K T calls (k.handler calls e) :=
 ⟨⟨O.ok.F,O.ok.room,O.ok.frames,(fun q=>nomatch q),O.both true⟩,O.t,rfl,O.both,O.ws,O.frm⟩
theorem XS_false {e:Value} {s':Shared} (h:k.XS (fun _ _ _=>False) e s'):False:=let ⟨_,_,_,_,_,_,_,_,_,_,_,f⟩:=h;f
theorem isStop (O:k.Ok K) {x:Str} {np:Pos} (hg:isG sc nm x=true) (hx:x = "SearchStopped") (hsc:k.env.scope.names=sc) {ea:Nat} {n:AV} {m:TbM} (W:k.Aw ρ H ea n m s) {Q1:Bool→Shared→Prop} {E':Value→Shared→Prop} (h:Q1 true s) :
  wpAny (model k.c.prog k.c.w) A (eval (.Name x np) k.env) (fun c s1=>wpAny (model k.c.prog k.c.w) A (excMatches (.ref ea) c) Q1 E' s1) E' s:=by
 obtain⟨G,S,V,F⟩:=W
 obtain⟨g1,g2⟩:=glob_ok (k:=k) hg hsc
 obtain⟨mg,m1,_,_,m3,_⟩:=O.F.glob
 have hgc:gnat x gCls=some 71:=by subst hx;decide
 refine p_glob (k:=k) (ρ:=ρ) (H:=H) g1 g2 m1 (m3 x 71 hgc) ⟨G,S,V⟩ ?_
 obtain⟨N,nm',q,bs,sn,sub,ab,col,dd,k0,k1,k2,k3,k5,hC⟩:=O.F.stop.cls.c71
 obtain⟨_,_,oe,vs,dx,md,f3,f4,_⟩:=F
 obtain⟨h',g',d',t',os'⟩:=s
 exact wpAny_excMatches_sub_self ((S.keep _ _ (O.F.inK _ _ hC)).2) f3 f4 (by decide) h
theorem aw_obj {ea:Nat} {n:AV} {m:TbM} (W:k.Aw ρ H ea n m s):H ea=none∧k.St ρ (upd H ea (.exc n)) s:=by
 obtain⟨G,S,V,F⟩:=W
 obtain⟨f1,f2,oe,vs,dx,md,f3,f4,f5,f6,f7,f8,f9,f10,f11⟩:=F
 have hn:H ea=none:=by
  cases hq:H ea with
  | none=>rfl
  | some ao=>have:=(S.hv _ _ hq).1;rw [f1] at this;exact absurd this.symm (kd_ne (fun q=>nomatch q) (fun q=>nomatch q))
 have g:∀ a,G a≠.exc→gset G ea .obj a=G a:=fun a h=>gset_ne fun q=>h (by rw [q,f1])
 have gk:∀ a x,G a=x→x≠.exc→gset G ea .obj a=x:=fun a x e n=>(g a (by rw [e];exact n)).trans e
 refine⟨hn,gset G ea .obj,⟨fun b o e=>⟨gk _ _ (S.keep b o e).1 (fun q=>nomatch q),(S.keep b o e).2⟩,fun a ha=>?_,fun a ao e=>?_,fun p hp=>⟨gk _ _ (S.pv p hp).1 (fun q=>nomatch q),(S.pv p hp).2⟩,fun x hx=>?_,S.gens,S.drawn,S.os⟩,V.step (fun a e=>gk _ _ e (fun q=>nomatch q)) (fun x ca _ e=>?_) fun a o _ e=>e⟩
 ·by_cases q:a=ea
  ·subst q;exact⟨oe,f3⟩
  ·rw [gset_ne q] at ha;exact S.ex a ha
 ·unfold upd at e
  split at e
  ·rename_i q;subst q;cases e
   exact⟨gset_eq,oe,dx,md,f3,f4,f5,notCls_fields f6,gk _ _ f9 (fun q=>nomatch q),f10,f2,f11⟩
  ·have q:=S.hv a ao e
   exact⟨gk _ _ q.1 (kd_ne (fun q=>nomatch q) (fun q=>nomatch q)),q.2.keep (fun _ _ _ e=>e) fun b e=>gk _ _ e (fun q=>nomatch q)⟩
 ·obtain⟨h1,L,o,h2,h3,h4⟩:=S.frs x hx
  exact⟨h1,L,o,h2,h3.imp (fun e=>gk _ _ e (fun q=>nomatch q)) (fun e=>gk _ _ e (fun q=>nomatch q)),h4⟩
 ·by_cases q:ca=ea
  ·rw [q,gset_eq] at e;cases e
  ·rwa [gset_ne q] at e
theorem lset_lset:∀ {l:List AV} {i:Nat} {a b:AV},lset (lset l i a) i b=lset l i b
 | [],_,_,_=>rfl
 | _::_,0,_,_=>rfl
 | x::l,i+1,a,b=>by show x::lset (lset l i a) i b=x::lset l i b;rw [lset_lset]
theorem ss_try {f:Str} {np hp pos:Pos} {b h:List Stmt} {b' h':ISs} {name:Option Str} {bind:Option Nat} (hg:isG sc nm f=true) (hf:f = "SearchStopped") (hh:h≠[]) (hb:SSs K T calls sc nm b b') (hhs:SSs K T calls sc nm h h')
  (hbind:match name,bind with | none,none=>True | some v,some i=>idx v nm=some i∧sc.lookup v=some .local | _,_=>False) :
  SS K T calls sc nm (.Try b [.ExceptHandler (some (.Name f np)) name h hp] [] [] pos) (.tryStop b' bind h'):=by
 intro k O hsc hnm ρ H s Q X S hv
 unfold vS at hv
 obtain⟨hhd,hv⟩:=hv
 obtain⟨outer,L,frm,hfr⟩:=O.frm
 refine wpAny_Try_except (wpAny_mono (hb k O hsc hnm ρ H s _ _ S hv) (fun fl s1 hq=>?_) fun e s1 he=>?_)
 ·obtain⟨fl',ρ1,H1,hfl,S1,hq⟩:=hq
  cases hfl with
  | next=>exact wpAny_execs_nil (rf_mk .next S1 hq)
  | brk=>exact rf_mk .brk S1 hq
  | cont=>exact rf_mk .cont S1 hq
  | ret hv'=>exact rf_mk (.ret hv') S1 hq
 ·obtain⟨ea,n,ρ1,H1,m,rfl,W,hm,hx⟩:=xs_aw he
  refine p_note frm hfr O.ok.frames W hm fun s2 W2=>?_
  refine p_flight0 W2 fun s3 W3=>?_
  refine wpAny_handleBy_cons (codeAny_handlers_test ?_) (by intro q;cases q)
  refine isStop O.ok hg hf hsc W3 ?_
  show codeAny _ _ _ _ s3
  have Oh:=Ok_handler O (.ref ea)
  cases h with
  | nil=>exact absurd rfl hh
  | cons st0 suite =>
   cases name with
   | none =>
    cases bind with
    | some i=>exact hbind.elim
    | none =>
     refine codeAny_handlers_suite (p_flight0' (k:=k.handler calls (.ref ea)) W3 fun s4 W4=>?_)
     obtain⟨G4,S4,V4,F4⟩:=W4
     have hx':=hx ea (by
      cases hq:H1 ea with
      | none=>rfl
      | some ao=>have:=(S4.hv _ _ hq).1;rw [F4.1] at this;exact absurd this.symm (kd_ne (fun q=>nomatch q) (fun q=>nomatch q)))
     exact wpAny_mono (hhs (k.handler calls (.ref ea)) Oh hsc hnm ρ1 H1 s4 Q (fun _ _ _=>False) ⟨G4,S4,V4⟩ hx') (fun fl s5 h5=>h5) fun e s5 h5=>(XS_false h5).elim
   | some v =>
    cases bind with
    | none=>exact hbind.elim
    | some i =>
     obtain⟨hi,hl⟩:=hbind
     refine codeAny_handlers_suite_as (p_flight0' (k:=k.handler calls (.ref ea)) W3 fun s4 W4=>?_)
     obtain⟨hn,S4⟩:=aw_obj W4
     have hx':=hx ea hn
     have hi':idx v (k.handler calls (.ref ea)).nm=some i:=by show idx v k.nm=some i;rw [hnm];exact hi
     have hi2:idx v k.nm=some i:=by rw [hnm];exact hi
     have hl2:k.env.kindOf v=some .local:=by show k.env.scope.names.lookup v=_;rw [hsc];exact hl
     refine p_storeN (k:=k.handler calls (.ref ea)) hi' (mem_ws Oh hi') (.ref ea) S4 fun s5 S5=>?_
     refine wpAny_mono (hhs (k.handler calls (.ref ea)) Oh hsc hnm _ _ s5 _ (fun _ _ _=>False) S5 hx') (fun fl s6 h6=>?_) fun e s6 h6=>(XS_false h6).elim
     obtain⟨fl',ρ6,H6,hfl,S6,hq6⟩:=h6
     have S6':k.St ρ6 H6 s6:=S6
     show wpAny _ _ (do bindName k.env v .none;unbindBehindTheSuite k.env v hp) (fun _ s7=>k.RF Q fl s7) _ s6
     have hlt:i < ρ6.length:=by
      obtain⟨_,_,V6⟩:=S6'
      rw [V6.len];exact idx_lt hi2
     refine wpAny_bind (p_store hi2 (mem_ws O hi2) .none S6' fun s7 S7=>?_)
     unfold unbindBehindTheSuite
     refine wpAny_onRaise (p_unbind hi2 hl2 (by rw [lget_lset_eq hlt];exact fun q=>nomatch q) S7 fun s8 S8=>?_)
     refine⟨fl',_,H6,hfl,S8,?_⟩
     rw [lset_lset];exact hq6
end
end Bm
namespace Bm
open PySem PySem.W PyProof.Rows PySem.SeqAt PySem.MeetsSeq
section
variable {prog:Program} {w:World} {A:Around} {E:Value→Shared→Prop} {s:Shared} {K:Frag} {env:Env}
theorem ev_loc {M:Model} {x:Str} {pos:Pos} {m:Str→Option Value} {v:Value} {Q:Value→Shared→Prop} (hk:env.scope.kind=.function) (hl:env.kindOf x=some .local) (hn:s.heap.Ns env.locals m) (hv:m x=some v) (hd:x≠"__debug__") (h:Q v s):wpAny M A (eval (.Name x pos) env) Q E s :=
 wpAny_Name (wpAny_loadName_local hk hl hn hv h) (by simpa using hd)
theorem base_init (C:ExcCls K) (X:K.In s.heap) {ea ta:Nat} {v:Value} {Q:Value→Shared→Prop} (he:s.heap.get? ea=some (excObj ta none))
  (h:∀ h' t',h'.get? ea=some (excObj t' none)→(∀ b o,b≠ea→s.heap.get? b=some o→h'.get? b=some o)→Q .none { s with heap:=h' }) :
  wpAny (model prog w) A (call (.builtin "Exception.__init__") [.ref ea,v]) Q E s:=by
 obtain⟨N,nm,q,bs,sn,sub,ab,col,dd,k0,k1,k2,k3,k5,hC⟩:=C.c71
 have hC:=X _ _ hC
 have F:=PySem.F.excBase_Exception
 have hcB:(Value.ref 71::Value.ref 38::bmE).contains (.type "Exception")=true:=by decide
 have hshort:=F.noStar
 obtain⟨hp,g,d,t,os⟩:=s
 dsimp only at he hC h
 have chk:∀ {Q:Unit→Shared→Prop},Q () ⟨hp,g,d,t,os⟩→wpAny (model prog w) A.in1 (checkBuiltinCall "Exception.__init__" ⟨.ref ea::[v],[]⟩) Q E ⟨hp,g,d,t,os⟩:=by
  intro Q hq
  simp only [checkBuiltinCall,F.initKind,F.initSplit,F.initRow]
  repeat (first | (with_reducible refine wpAny_loadPart_at he ?_;dsimp only [excObj]) | with_reducible refine wpAny_loadPart_at hC ?_ | (with_reducible refine wpAny_isSubtype_exc hC ?_;rw [hcB]) | wp_step)
  exact hq
 refine wpAny_call (codeAny_call_builtin F.init.plain F.initEntry (chk ?_))
 wp_walk
 show Q .none _
 have he':(hp.push { cls:=.type "tuple",data:=.seq #[v] }).get? ea=some (excObj ta none):=Heap.get?_push_of_some _ he
 refine h _ hp.objs.size ?_ fun b o hb e=>?_
 ·rw [Heap.get?_update_self _ he' rfl];rfl
 ·rw [Heap.get?_update_other _ _ (Ne.symm hb)];exact Heap.get?_push_of_some _ e
theorem raw_call {f:Nat} {ps:List Str} {scope:Scope} {body:List Stmt} (C:RawFn K f ps scope body) (X:K.In s.heap) (hlim:s.heap.NoLimit) (room:A.depth < recursionLimit) {vs:List Value} (hl:vs.length=ps.length) {R:Result→Shared→Prop}
  (h:∀ env h₀ tk,env.scope=scope→env.globals=mainGlobals→env.builtins=builtinsNs→env.frame=some env.locals→env.locals=s.heap.objs.size→h₀.Ns env.locals (fun x=>(ps.zip vs).reverse.lookup x)→(∀ b o,s.heap.get? b=some o→h₀.get? b=some o) →
   wpAny (model prog w) (A.deeper env) (execs body env) (fun fl s'=>R (.ok (.ret (match fl with | .ret v=>v | _=>.none))) s') (fun _ _=>False) { s with heap:=h₀,toks:=tk }) :
  codeAny (model prog w) A (.call (.ref f) ⟨vs,[]⟩) R s:=by
 obtain⟨fd,c,d,sl,hk,hb,hsc,hcl,hg,hbl,hp,hpp,hcd,hdf⟩:=C.at_
 subst hsc
 have hdf':fd.defaults=.none∨∃ D o xs n,fd.defaults=.ref D∧s.heap.get? D=some o∧o.data=.seq xs n:=hdf.imp id fun⟨D,e,c,d,xs,n,sl,hD⟩=>⟨D,_,xs,n,e,X _ _ hD,rfl⟩
 refine codeAny_call_function room (X _ _ hk) rfl C.cor C.gen hb (codeRec_of X hcd) ?_
 refine bind_exact hpp hdf' (by rw [hp];exact hl) (by rw [hp];exact C.nd) ?_
 rw [hcl,hp]
 refine wpAny_newFunctionEnv C.noCell (fun x hx=>C.loc x.1 (List.of_mem_zip (a:=x.1) (b:=x.2) hx).1) (fun h₀ hns hsb=>⟨hlim.fresh _ hsb,codeAny_func ?_⟩) C.kind
 refine wpAny_mono (h (newEnv fd.scope s.heap.objs.size fd.globals [] (fd.qualname++".<locals>.") (some f) fd.code none fd.builtins) h₀ _ rfl hg hbl rfl rfl hns fun b o e=>hsb.extBut b o (Nat.ne_of_lt (Heap.lt_size e)) (Heap.get?_push_of_some _ e)) (fun _ _ x=>x) fun _ _ f=>f.elim
theorem ns_but {h h':Heap} {a ea:Nat} {m:Str→Option Value} {ta:Nat} {dx:Option Nat} (hn:h.Ns a m) (he:h.get? ea=some (excObj ta dx)) (k:∀ b o,b≠ea→h.get? b=some o→h'.get? b=some o):h'.Ns a m:=by
 obtain⟨o,es,ep,ho,hd,r⟩:=hn
 refine⟨o,es,ep,k a o (fun q=>?_) ho,hd,r⟩
 rw [q,he] at ho;cases ho;cases hd
theorem in_but {h h':Heap} {ea:Nat} (X:K.In h) (hK:K.lookup ea=none) (k:∀ b o,b≠ea→h.get? b=some o→h'.get? b=some o):K.In h':=fun a o e=>k a o (fun q=>by rw [q,hK] at e;cases e) (X a o e)
theorem set_stmt {M:Model} {x:Str} {p1 p2 p3 p4:Pos} {m:Str→Option Value} {ea:Nat} {v:Value} {Q:Flow→Shared→Prop} {E:Value→Shared→Prop} {attr:Str} (hk:env.scope.kind=.function) (hl:env.kindOf "self" = some .local) (hlx:env.kindOf x=some .local) (hx:x≠"__debug__")
  (hn:s.heap.Ns env.locals m) (hs:m "self" = some (.ref ea)) (hv:m x=some v) (h:wpAny M A (setAttr (.ref ea) attr v) (fun _ s'=>Q .next s') E s) :
  wpAny M A (exec (.Assign [.Attribute (.Name "self" p1) attr p2] (.Name x p3) p4) env) Q E s:=by
 rw [arm_exec_Assign]
 refine wpAny_bind (wpAny_standAt ?_)
 show wpAny _ _ (swapsWith (.Name x p3) (some (.Attribute (.Name "self" p1) attr p2)) p4.line env >>= _) _ _ s
 rw [no_swap rfl]
 refine wpAny_bind (wpAny_pure ?_)
 rw [if_neg Bool.false_ne_true]
 refine wpAny_bind (ev_loc hk hlx hn hv hx ?_)
 rw [no_swapA]
 refine wpAny_bind (wpAny_pure (wpAny_bind ?_))
 show wpAny _ _ (assign (.Attribute (.Name "self" p1) attr p2) env v) _ _ s
 rw [arm_assign_Attribute]
 refine wpAny_bind (wpAny_holding (ev_loc hk hl hn hs (by decide) ?_))
 refine wpAny_bind (wpAny_standAt (wpAny_bind (wpAny_holding (wpAny_mono h (fun _ s' hq=>?_) fun _ _ e=>e))))
 exact wpAny_release' (wpAny_pure hq)
theorem type_E:typeOf (.type "Exception")=pure (.type "type"):=by kernel_rfl
theorem stub_E:Manifest.isStub "Exception" = false:=by decide +kernel
theorem method_E (C:ExcCls K) (X:K.In s.heap) {pl:Sem Bool} {Q:Value×List Value→Shared→Prop} (h:Q (.builtin "Exception.__init__",[]) { s with toks:=s.toks+1 }):wpAny (model prog w) A (getMethod (.type "Exception") "__init__" pl) Q E s:=by
 have hstub:opaqueClassAbove (.type "Exception")=pure none:=by unfold opaqueClassAbove;dsimp only;rw [stub_E];rfl
 have L0:Looks (model prog w) s.heap (typeOf (.type "Exception")) (.type "type"):=Looks.of_pure type_E
 have hg:findIn K (.type "type") "__getattribute__" = some (some (.builtin "type.__getattribute__")):=type_tga
 unfold getMethod specialOf
 refine wpAny_bind (wpAny_bind (L0.here ((looks_findIn X hg).here ?_)))
 dsimp only
 rw [if_pos canon_tga]
 refine wpAny_bind (wpAny_mono (Q:=fun v=>Q (v,[])) (E:=E) ?_ (fun _ _ z=>wpAny_pure z) fun _ _ z=>z)
 have LO:Looks (model prog w) s.heap (opaqueClassAbove (.type "Exception")) none:=Looks.of_pure hstub
 refine cls_open X LO L0 hg (looks_hook X (r:=none) (by rfl)) (by show subIn K _ _=_;rfl) C.fE
  (wpAny_pure (by show wpAny _ _ (handedOut (.builtin "Exception.__init__")) _ _ _;rw [handedOut_of (by rfl)];exact wpAny_pure h))
theorem call_stmt {M:Model} {b:Str} {p1 ap p2 cp p3:Pos} {e:Expr} {Q:Flow→Shared→Prop} {ov:Value} {fx:Value×List Value} {av:Value} {ea:Nat} {m:Str→Option Value} {tk:Tok} (hk:env.scope.kind=.function) (hl:env.kindOf "self" = some .local) (hp:ap.endLine=cp.line) (hst:isStar e=false)
  (hself:m "self" = some (.ref ea)) (hov:∀ {Q:Value→Shared→Prop},Q ov s→wpAny (model prog w) A (eval (.Name b p1) env) Q E s)
  (hgm:∀ {Q:Value×List Value→Shared→Prop} {pl:Sem Bool},Q fx { s with toks:=s.toks+1 }→wpAny (model prog w) A (getMethod ov "__init__" pl) Q E s)
  (hn:s.heap.Ns env.locals m) (hcw:∀ {args:List (Bool×Sem Value)},args=backTo cp (starEach [.Name "self" p2,e] env)→∀ {Q:Value→Shared→Prop},wpAny (model prog w) A (spliced args) (fun vs s'=>s'.heap=s.heap∧wpAny (model prog w) A (call fx.1 (fx.2++vs) []) Q E s') E { s with toks:=s.toks+1 }→wpAny (model prog w) A (callWith cp fx.1 fx.2 args []) Q E { s with toks:=s.toks+1 })
  (harg:∀ {Q:Value→Shared→Prop},Q av { s with toks:=tk }→wpAny (model prog w) A (eval e env) Q E { s with toks:=s.toks+1 })
  (h:wpAny (model prog w) A (call fx.1 (fx.2++[.ref ea,av]) []) (fun _ s'=>Q .next s') E { s with toks:=tk }) :
  wpAny (model prog w) A (exec (.Expr (.Call (.Attribute (.Name b p1) "__init__" ap) [.Name "self" p2,e] [] cp) p3) env) Q E s:=by
 rw [arm_exec_Expr]
 have hi:interactive env=false:=by unfold interactive;rw [hk];rfl
 rw [hi]
 refine wpAny_bind (wpAny_standAt ?_)
 rw [if_neg Bool.false_ne_true]
 refine wpAny_bind (wpAny_of_eq (no_swap rfl) ?_)
 rw [if_neg Bool.false_ne_true]
 have hs:[Expr.Name "self" p2,e].all (fun e=>!isStar e)=true:=by rw [List.all_cons,List.all_cons,List.all_nil,hst];rfl
 rw [eval_meth rfl hs (by show 2 < 20;decide) hp]
 refine wpAny_bind (wpAny_bind (hov ?_))
 refine wpAny_bind (wpAny_standAt (wpAny_bind (wpAny_holding (hgm ?_))))
 refine wpAny_bind (wpAny_pure ?_)
 refine hcw rfl ?_
 rw [starEach_cons rfl,backTo_cons,starEach_cons hst,backTo_cons]
 unfold spliced
 refine wpAny_bind (ev_loc hk hl (m:=m) hn hself (by decide) ?_)
 refine wpAny_bind (wpAny_pure (wpAny_bind (wpAny_holding ?_)))
 unfold spliced
 refine wpAny_bind (harg ?_)
 refine wpAny_bind (wpAny_pure (wpAny_bind (wpAny_holding ?_)))
 show wpAny _ _ (pure _) _ _ _
 refine wpAny_pure (wpAny_pure (wpAny_pure ⟨rfl,?_⟩))
 refine wpAny_mono h (fun v s' hq=>wpAny_dropValue hq) fun _ _ e=>e
theorem init35 (C:ExcCls K) (X:K.In s.heap) (hlim:s.heap.NoLimit) (room:A.depth < recursionLimit) {mg mb:Str→Option Value} (hg:s.heap.Ns mainGlobals mg) (hgE:mg "Exception" = none) (hb:s.heap.Ns builtinsNs mb) (hbE:mb "Exception" = some (.type "Exception"))
  {scope:Scope} {body:List Stmt} (R:RawFn K 35 ["self","text"] scope body) (hbody:makerBody "Exception" "text" "text" (isTheName "text") body=true) (hgk:scope.names.lookup ("Exception" : Str)=some .globalImplicit) {ea ta:Nat} (heK:K.lookup ea=none) (he:s.heap.get? ea=some (excObj ta none)) {tv:Value} {Rr:Result→Shared→Prop}
  (h:∀ h' tk dx t',h'.get? ea=some (excObj t' (some dx))→h'.Ns1 dx (fun y=>if y = "text" then some tv else none)→s.heap.get? dx=none→dx≠ea→(∀ b o,b≠ea→s.heap.get? b=some o→h'.get? b=some o)→Rr (.ok (.ret .none)) { s with heap:=h',toks:=tk }) :
  codeAny (model prog w) A (.call (.ref 35) ⟨[.ref ea,tv],[]⟩) Rr s:=by
 obtain⟨p1,ap,p2,e,cp,p3,p4,p5,p6,p7,hp,harg,rfl⟩:=maker_of hbody
 refine raw_call R X hlim room rfl fun env h₀ tk esc egl ebl efr eL hns keep=>?_
 obtain⟨y,py,rfl⟩:∃ y py,e=.Name y py:=by cases e <;> first | exact⟨_,_,rfl⟩ | cases harg
 have ey:y = "text":=by simpa [isTheName] using harg
 subst ey
 have hk:env.scope.kind=.function:=by rw [esc];exact R.kind
 have hl:env.kindOf "self" = some .local:=by show env.scope.names.lookup _=_;rw [esc];exact R.loc _ (.head _)
 have hlt:env.kindOf "text" = some .local:=by show env.scope.names.lookup _=_;rw [esc];exact R.loc _ (.tail _ (.head _))
 have hgk':env.kindOf "Exception" = some .globalImplicit:=by show env.scope.names.lookup _=_;rw [esc];exact hgk
 have ms:(fun x=>((["self","text"]:List Str).zip [Value.ref ea,tv]).reverse.lookup x) "self" = some (.ref ea):=rfl
 have mt:(fun x=>((["self","text"]:List Str).zip [Value.ref ea,tv]).reverse.lookup x) "text" = some tv:=rfl
 generalize (fun x=>((["self","text"]:List Str).zip [Value.ref ea,tv]).reverse.lookup x)=m at hns ms mt
 have he₀:h₀.get? ea=some (excObj ta none):=keep _ _ he
 have X₀:K.In h₀:=X.keeps keep
 refine wpAny_execs_cons ?_
 refine call_stmt (ov:=.type "Exception") (fx:=(.builtin "Exception.__init__",[])) (av:=tv) (M:=model prog w) (tk:=tk+1) hk hl hp rfl ms (fun hq=>?_) (fun hq=>method_E C X₀ hq) hns (fun {args} ea' {Q} hq=>?_) (fun hq=>ev_loc hk hlt (m:=m) hns mt (by decide) hq) ?_
 ·refine Calls.Name_function_global hk hgk' (Calls.loadGlobal_builtin (mg:=mg) (mb:=mb) ?_ hgE ?_ hbE hq) (by decide)
  ·rw [egl];exact hg.keeps keep
  ·rw [ebl];exact hb.keeps keep
 ·subst ea'
  exact with_B (by simp [isStar]) (wpAny_mono hq (fun _ _ x=>x.2) fun _ _ e=>e)
 ·refine base_init (s:={ s with heap:=h₀,toks:=tk+1 }) C X₀ he₀ fun h₁ t' he₁ keep₁=>?_
  show wpAny _ _ (execs _ env) _ _ _
  refine wpAny_execs_cons ?_
  obtain⟨cd,c1,c2,c3⟩:=C.cd
  have hns₁:h₁.Ns env.locals m:=ns_but hns he₀ keep₁
  refine set_stmt (s:={ s with heap:=h₁,toks:=tk+1 }) (m:=m) hk hl hlt (by decide) hns₁ ms mt ?_
  refine exc_set0 (s:={ s with heap:=h₁,toks:=tk+1 }) (in_but X₀ heK keep₁) he₁ rfl rfl rfl c1 c2 c3 C.sa C.aText fun h₂ tk₂ he₂ hn₂ keep₂=>?_
  refine wpAny_execs_nil ?_
  have hne:h₁.objs.size≠ea:=Nat.ne_of_gt (Heap.lt_size he₁)
  refine h h₂ tk₂ h₁.objs.size t' he₂ hn₂ ?_ hne fun b o hb e=>keep₂ b o hb (keep₁ b o hb (keep b o e))
  cases hq:s.heap.get? h₁.objs.size with
  | none=>rfl
  | some o=>exact absurd (Heap.lt_size (keep₁ _ _ hne (keep _ _ hq))) (Nat.lt_irrefl _)
theorem init68 (C:ExcCls K) (X:K.In s.heap) (hlim:s.heap.NoLimit) (room:A.depth+1 < recursionLimit) {mg mb:Str→Option Value} (hg:s.heap.Ns mainGlobals mg) (hgE:mg "Exception" = none) (hgC:mg "ChessError" = some (.ref 38)) (hb:s.heap.Ns builtinsNs mb) (hbE:mb "Exception" = some (.type "Exception"))
  {scope:Scope} {body:List Stmt} (R:RawFn K 35 ["self","text"] scope body) (hbody:makerBody "Exception" "text" "text" (isTheName "text") body=true) (hgk:scope.names.lookup ("Exception" : Str)=some .globalImplicit)
  {scope':Scope} {body':List Stmt} (R':RawFn K 68 ["self","nodes"] scope' body') (hbody':makerBody "ChessError" "nodes" "nodes" isStrC body'=true) (hgk':scope'.names.lookup ("ChessError" : Str)=some .globalImplicit)
  {ea ta:Nat} (heK:K.lookup ea=none) (he:s.heap.get? ea=some (excObj ta none)) {nv:Value} {Rr:Result→Shared→Prop}
  (h:∀ h' tk dx t',h'.get? ea=some (excObj t' (some dx))→(∃ m',h'.Ns dx m'∧m' "nodes" = some nv)→s.heap.get? dx=none→dx≠ea→(∀ b o,b≠ea→s.heap.get? b=some o→h'.get? b=some o)→Rr (.ok (.ret .none)) { s with heap:=h',toks:=tk }) :
  codeAny (model prog w) A (.call (.ref 68) ⟨[.ref ea,nv],[]⟩) Rr s:=by
 obtain⟨p1,ap,p2,e,cp,p3,p4,p5,p6,p7,hp,harg,rfl⟩:=maker_of hbody'
 refine raw_call R' X hlim (by omega) rfl fun env h₀ tk esc egl ebl efr eL hns keep=>?_
 obtain⟨y,py,pz,rfl⟩:∃ y py pz,e=.Constant (.str y) py pz:=by
  cases e <;> first | (cases harg;done) | skip
  rename_i c a b
  cases c <;> first | (cases harg;done) | exact⟨_,_,_,rfl⟩
 have hk:env.scope.kind=.function:=by rw [esc];exact R'.kind
 have hl:env.kindOf "self" = some .local:=by show env.scope.names.lookup _=_;rw [esc];exact R'.loc _ (.head _)
 have hlt:env.kindOf "nodes" = some .local:=by show env.scope.names.lookup _=_;rw [esc];exact R'.loc _ (.tail _ (.head _))
 have hgk2:env.kindOf "ChessError" = some .globalImplicit:=by show env.scope.names.lookup _=_;rw [esc];exact hgk'
 have ms:(fun x=>((["self","nodes"]:List Str).zip [Value.ref ea,nv]).reverse.lookup x) "self" = some (.ref ea):=rfl
 have mt:(fun x=>((["self","nodes"]:List Str).zip [Value.ref ea,nv]).reverse.lookup x) "nodes" = some nv:=rfl
 generalize (fun x=>((["self","nodes"]:List Str).zip [Value.ref ea,nv]).reverse.lookup x)=m at hns ms mt
 have he₀:h₀.get? ea=some (excObj ta none):=keep _ _ he
 have X₀:K.In h₀:=X.keeps keep
 refine wpAny_execs_cons ?_
 refine call_stmt (ov:=.ref 38) (fx:=(.ref 35,[])) (av:=.str y (tk+1)) (M:=model prog w) (tk:=tk+1+1) hk hl hp rfl ms (fun hq=>?_) (fun hq=>?_) hns (fun {args} ea' {Q} hq=>?_) (fun hq=>wpAny_Constant_str hq) ?_
 ·refine Calls.Name_function_global hk hgk2 (Calls.loadGlobal_global (mg:=mg) ?_ hgC hq) (by decide)
  rw [egl];exact hg.keeps keep
 ·exact method_cls (s:={ s with heap:=h₀,toks:=tk }) X₀ C.g38 (cls_value X₀ C.r38 C.f38 (by rfl) hq)
 ·subst ea'
  exact with_K C.k35 (by simp [isStar]) (wpAny_mono hq (fun _ s' x=>⟨by rw [x.1];exact X₀,x.2⟩) fun _ _ e=>e)
 ·refine wpAny_call (init35 (s:={ s with heap:=h₀,toks:=tk+1+1 }) C X₀ (hlim.keeps keep) room (hg.keeps keep) hgE (hb.keeps keep) hbE R hbody hgk heK he₀ fun h₁ tk₁ dx t' he₁ hn₁ hdx hne keep₁=>?_)
  refine wpAny_execs_cons ?_
  obtain⟨cd,c1,c2,c3⟩:=C.cd
  have hns₁:h₁.Ns env.locals m:=ns_but hns he₀ keep₁
  refine set_stmt (s:={ s with heap:=h₁,toks:=tk₁ }) (m:=m) hk hl hlt (by decide) hns₁ ms mt ?_
  refine exc_set1 (s:={ s with heap:=h₁,toks:=tk₁ }) (in_but X₀ heK keep₁) he₁ rfl rfl rfl hn₁ (Within.cons "text" _ Within.nil) (by decide) c1 c2 c3 C.sa C.aNodes fun h₂ tk₂ hn₂ hs₂=>?_
  refine wpAny_execs_nil ?_
  have hdx0:s.heap.get? dx=none:=by
   cases hq:s.heap.get? dx with
   | none=>rfl
   | some o=>rw [keep _ _ hq] at hdx;cases hdx
  refine h h₂ tk₂ dx t' ((hs₂.2 ea hne.symm).trans he₁) ⟨_,hn₂.ns,if_pos rfl⟩ hdx0 hne fun b o hb e=>?_
  have hbd:b≠dx:=fun q=>by rw [q,hdx0] at e;cases e
  exact(hs₂.2 b hbd).trans (keep₁ b o hb (keep b o e))
section
variable {h:Heap} {g:Array GenState} {d:Drawn} {t:Nat} {os:OsState} {M:Model} {nm q:Str} {N:Addr} {bs:List Value} {sn:List Str} {sub:List Value} {ab:Bool} {col:Option Bool} {dd:Option Addr} {k0 k1 k2 k3 k5:Option Value} {R:Result→Shared→Prop}
theorem new_check {rest:List Value} {Q:Unit→Shared→Prop} (hC:h.get? 71=some (excClassObj nm q 71 N bs (.ref 38::bmE) true sn sub ab col dd k0 k1 k2 k3 k5 "Exception.__new__"))
  (hq:Q () ⟨h,g,d,t,os⟩):wpAny M A (checkBuiltinCall "Exception.__new__" ⟨.ref 71::rest,[]⟩) Q E ⟨h,g,d,t,os⟩:=by
 have F:=PySem.F.excBase_Exception
 have hcont:(Value.ref 71::Value.ref 38::bmE).contains (.type "Exception")=true:=by decide
 have hstar:=F.noStar
 simp only [checkBuiltinCall,F.newKind,F.newSplit,F.newRow]
 repeat (first | refine wpAny_loadPart_at hC ?_ | (refine wpAny_isSubtype_exc hC ?_;rw [hcont]) | refine wpAny_staticBase_exc hC ?_ | refine wpAny_madeBy_exc hC ?_ | simp only [bne_self_eq_false,Bool.false_eq_true,if_false] | wp_step)
 exact hq
theorem new_run {v:Value} (hC:h.get? 71=some (excClassObj nm q 71 N bs (.ref 38::bmE) true sn sub ab col dd k0 k1 k2 k3 k5 "Exception.__new__"))
  (hq:R (.ok (.ret (.ref (h.objs.size+1)))) ⟨(h.push { cls:=.type "tuple",data:=.seq #[v] }).push (excObj h.objs.size none),g,d,t,os⟩) :
  codeAny (model prog w) A (.builtin "Exception.__new__" ⟨.ref 71::[v],[]⟩) R ⟨h,g,d,t,os⟩:=by
 have F:=PySem.F.excBase_Exception
 have hends:=F.ends
 have hcB:(Value.ref 71::Value.ref 38::bmE).contains (.type "Exception")=true:=by decide
 have hcA:(Value.ref 71::Value.ref 38::bmE).contains (.type "AttributeError")=false:=by decide
 have hcN:(Value.ref 71::Value.ref 38::bmE).contains (.type "NameError")=false:=by decide
 refine codeAny_builtinAt F.entry ?_
 unfold Builtin.«BaseException.__new__»
 refine PySem.wpAt_bind ?_
 show PySem.wpAt _ _ _ (stack >>= _) _ _ _
 refine PySem.wpAt_bind (PySem.wpAt_stack fun p below=>PySem.wpAt_of_wpAny ?_)
 wp_walk
 refine PySem.wpAt_of_wpAny ?_
 rw [F.owner]
 repeat (first | with_reducible refine wpAny_madeHere_exc F.canon hC ?_ | with_reducible refine wpAny_loadPart_at hC ?_ | (with_reducible refine wpAny_isSubtype_exc hC ?_;first | rw [hcB] | rw [hcA] | rw [hcN]) | wp_step)
 show R _ _
 rw [Heap.size_push]
 exact hq
end
theorem make71 (C:ExcCls K) (X:K.In s.heap) {v:Value} {R:Result→Shared→Prop}
  (h:codeAny (model prog w) (A.under (.builtin "type.__call__" ⟨.ref 71::[v],[]⟩)) (.call (.ref 68) ⟨[.ref (s.heap.objs.size+1),v],[]⟩)
   (fun r s'=>match r with | .ok (.ret u)=>u=.none∧R (.ok (.ret (.ref (s.heap.objs.size+1)))) s' | .ok _=>False | .error e=>R (.error e) s') { s with heap:=(s.heap.push { cls:=.type "tuple",data:=.seq #[v] }).push (excObj s.heap.objs.size none) }) :
  codeAny (model prog w) A (.call (.ref 71) ⟨[v],[]⟩) R s:=by
 obtain⟨N,nm,q,bs,sn,sub,ab,col,dd,k0,k1,k2,k3,k5,hC⟩:=C.c71
 have hC:=X _ _ hC
 have F:=PySem.F.excBase_Exception
 have f1:=tc_lookup
 have f2:=tc_bind (.ref 71)
 obtain⟨hp,g,d,t,os⟩:=s
 dsimp only at hC h X
 have hT:(⟨hp,g,d,t,os⟩:Shared).TypeIs (.ref 71) "type":=⟨_,hC,rfl⟩
 refine codeAny_of_tree ?_
 show wpAny _ _ (callAny (.ref 71) _) _ _ _
 repeat (any_goals (first | assumption | with_reducible refine wpAny_loadPart_at hC ?_ | wp_step))
 refine⟨rfl,?_⟩
 refine codeAny_call_builtin_at (Code.quiet_builtin _ (by decide +kernel)) entry_typeCall (wpAny_check_type_call_sub hC ?_)
 repeat (first | with_reducible refine wpAny_loadPart_at hC ?_ | with_reducible refine wpAny_madeBy_exc hC ?_ | wp_step)
 refine codeAny_call_builtin_code (Code.quiet_builtin _ F.quiet) (new_check hC ?_)
 refine new_run hC ?_
 show wpAny _ _ _ _ _ _
 have k:∀ b o,hp.get? b=some o→((hp.push { cls:=.type "tuple",data:=.seq #[v] }).push (excObj hp.objs.size none)).get? b=some o:=fun b o e=>Heap.get?_push_of_some _ (Heap.get?_push_of_some _ e)
 have hC₁:=k _ _ hC
 have X₁:K.In ((hp.push { cls:=.type "tuple",data:=.seq #[v] }).push (excObj hp.objs.size none)):=X.keeps k
 have hget:((hp.push { cls:=.type "tuple",data:=.seq #[v] }).push (excObj hp.objs.size none)).get? (hp.objs.size+1)=some (excObj hp.objs.size none):=by heap_get
 have hcC:(Value.ref 71::Value.ref 38::bmE).contains (.ref 71)=true:=by decide
 unfold isInstance
 repeat (first | with_reducible refine wpAny_loadPart_at hget ?_ | wp_step)
 show wpAny _ _ (isSubtype (.ref 71) (.ref 71)) _ _ _
 refine wpAny_isSubtype_exc hC₁ ?_
 rw [hcC,if_neg (by decide)]
 have L0:Looks (model prog w) ((hp.push { cls:=.type "tuple",data:=.seq #[v] }).push (excObj hp.objs.size none)) (typeOf (.ref (hp.objs.size+1))) (.ref 71):=(Looks.ld hget).andThen .now
 have L1:=looks_findIn (M:=model prog w) X₁ C.i71
 have L2:=bind_fn (M:=model prog w) X₁ (.ref (hp.objs.size+1)) C.t68
 refine wpAny_bind (wpAny_holding ?_)
 unfold callSpecial? specialOf
 refine wpAny_bind (wpAny_bind (L0.at (L1.at ?_)))
 dsimp only
 refine wpAny_holding (wpAny_bind (L2.at ?_))
 refine wpAny_bind (wpAny_call (codeAny_mono h fun r s' z=>?_))
 rcases r with e | (u | _ | _ | u) <;> first | exact z | exact z.elim | skip
 obtain⟨rfl,z⟩:=z
 exact wpAny_pure (wpAny_pure z)
end
end Bm
namespace Bm
open PySem PySem.W PyProof.Rows PySem.SeqAt PySem.MeetsSeq
section
variable {prog:Program} {w:World} {A:Around} {E:Value→Shared→Prop} {s:Shared} {env:Env} {M:Model}
theorem raise71 {nm q:Str} {N:Addr} {bs:List Value} {sn:List Str} {sub:List Value} {ab:Bool} {col:Option Bool} {dd:Option Addr} {k0 k1 k2 k3 k5:Option Value} {x:Sem Value} {Q:Flow→Shared→Prop}
  (h:wpAny M A x (fun v s₁=>A.handled=none∧∃ e t dx,v=.ref e∧s₁.heap.get? 71=some (excClassObj nm q 71 N bs (.ref 38::bmE) true sn sub ab col dd k0 k1 k2 k3 k5 "Exception.__new__") ∧
   s₁.heap.get? e=some (excObj t dx)∧E (.ref e) s₁) E s) :
  wpAny M A (raiseStmt env (some x) none) Q E s:=by
 have hcB:(Value.ref 71::Value.ref 38::bmE).contains (.type "BaseException")=true:=by decide
 unfold raiseStmt
 refine wpAny_bind (wpAny_mono h (fun v s₁ h₁=>?_) fun _ _ x=>x)
 obtain⟨hh,e,t,dx,rfl,hC,he,hE⟩:=h₁
 obtain⟨hp,g,d,tk,os⟩:=s₁
 unfold excObj at he
 repeat (first | with_reducible refine wpAny_loadPart_at he ?_ | with_reducible refine wpAny_loadPart_at hC ?_ | (with_reducible refine wpAny_isSubtype_exc hC ?_;rw [hcB]) | wp_step)
 exact wpAny_raiseNew_none hh hE
end
section
variable {k:Kx} {ρ:List AV} {H:AHeap} {s:Shared} {Q:SQ} {X:SX} {E:Value→Shared→Prop} {A:Around} {K:Frag} {M:Model} {sc:List (Str×NameKind)} {nm:List String} {T:Tab} {calls:Bool→CallSem}
theorem aw_new (S:k.St ρ H s) {h₁ h':Heap} {tk:Nat} {t' dx:Nat} {v:Value} {n:AV} (hn:isInt n=true) (hv:VR v n) (hk:∀ b o,s.heap.get? b=some o→h'.get? b=some o) (he:h'.get? (s.heap.objs.size+1)=some (excObj t' (some dx))) (hdx:∃ m',h'.Ns dx m'∧m' "nodes" = some v)
  (hd0:s.heap.get? dx=none) (hne:dx≠s.heap.objs.size+1):k.Aw ρ H (s.heap.objs.size+1) n .made { s with heap:=h',toks:=tk }:=by
 obtain⟨G,S1,V⟩:=S
 obtain⟨m',hns,hm⟩:=hdx
 have gE:G (s.heap.objs.size+1)=.free:=by
  cases hq:G (s.heap.objs.size+1) with
  | free=>rfl
  | _=>exact absurd (S1.lt _ (by rw [hq];exact fun e=>nomatch e)) (by omega)
 have gD:G dx=.free:=by
  cases hq:G dx with
  | free=>rfl
  | _ =>
   obtain⟨o,e⟩:=S1.ex dx (by rw [hq];exact fun e=>nomatch e)
   rw [hd0] at e;cases e
 obtain⟨od,es,ep,hod,_⟩:=id hns
 have g1:gset (gset G (s.heap.objs.size+1) .exc) dx (.dic (s.heap.objs.size+1)) dx=.dic (s.heap.objs.size+1):=gset_eq
 have g0:gset (gset G (s.heap.objs.size+1) .exc) dx (.dic (s.heap.objs.size+1)) (s.heap.objs.size+1)=.exc:=by rw [gset_ne (Ne.symm hne),gset_eq]
 have gk:∀ a,G a≠.free→gset (gset G (s.heap.objs.size+1) .exc) dx (.dic (s.heap.objs.size+1)) a=G a:=fun a ha=>by
  rw [gset_ne (fun q=>ha (by rw [q,gD])),gset_ne (fun q=>ha (by rw [q,gE]))]
 refine⟨gset (gset G (s.heap.objs.size+1) .exc) dx (.dic (s.heap.objs.size+1)),(S1.grow (tk:=tk) hk).rekind gk fun a ha=>?_,V.step (fun a e=>(gk a (by rw [e];exact fun q=>nomatch q)).trans e) (fun x ca _ e=>?_) (fun a o _ e=>hk a o e),g0,hn,_,_,dx,m',he,rfl,rfl,rfl,(by show 1 < 6;decide),rfl,g1,hns,v,hm,hv⟩
 ·by_cases q:a=dx
  ·rw [q];exact⟨_,hod⟩
  ·rw [gset_ne q] at ha
   by_cases q2:a=s.heap.objs.size+1
   ·rw [q2];exact⟨_,he⟩
   ·rw [gset_ne q2] at ha
    obtain⟨o,e⟩:=S1.ex a ha
    exact⟨o,hk a o e⟩
 ·by_cases q:ca=dx
  ·rw [q,g1] at e;cases e
  ·by_cases q2:ca=s.heap.objs.size+1
   ·rw [q2,g0] at e;cases e
   ·rw [gset_ne q,gset_ne q2] at e;exact e
theorem ss_raise {f:Str} {np cp pos:Pos} {a:Expr} {e:IE} (hg:isG sc nm f=true) (hf:f = "SearchStopped") (hs:isStar a=false) (ha:SE K sc nm a e):SS K T calls sc nm (.Raise (some (.Call (.Name f np) [a] [] cp)) none pos) (.raiseStop e):=by
 intro k O hsc hnm ρ H s Q X S h
 have eT:=O.t
 subst eT
 unfold vS at h
 rw [← O.call] at h
 have SO:=O.ok.F.stop
 obtain⟨N,nm',q,bs,sn,sub,ab,col,dd,k0,k1,k2,k3,k5,hC⟩:=SO.cls.c71
 rw [arm_exec_Raise]
 refine wpAny_bind (wpAny_standAt ?_)
 show wpAny _ _ (raiseStmt k.env (some (do let v ← eval (.Call (.Name f np) [a] [] cp) k.env;standAt pos;pure v)) none) _ _ s
 have made:wpAny (model k.c.prog k.c.w) k.A (eval (.Call (.Name f np) [a] [] cp) k.env) (fun v s₁=>k.A.handled=none∧∃ ea t dx,v=.ref ea∧s₁.heap.get? 71=some (excClassObj nm' q 71 N bs (.ref 38::bmE) true sn sub ab col dd k0 k1 k2 k3 k5 "Exception.__new__") ∧
   s₁.heap.get? ea=some (excObj t dx)∧k.XS X (.ref ea) s₁) (k.XS X) s:=by
  rw [eval_CallName]
  obtain⟨g1,g2⟩:=glob_ok (k:=k) hg hsc
  obtain⟨mg,m1,_,_,m3,_,mE,mC⟩:=O.ok.F.glob
  obtain⟨mb,b1,_,_,_,_,_,_,bE⟩:=O.ok.F.built
  have hgc:gnat f gCls=some 71:=by subst hf;decide
  refine wpAny_bind (p_glob g1 g2 m1 (m3 f 71 hgc) S ?_)
  have hl:vEs k.T k.hd k.call (.cons e .nil) ρ H (fun vs H=>match vs with | [v]=>k.hd=false∧isInt v=true∧X v ρ H | _=>False) (fun n H=>X n ρ H):=by
   unfold vEs
   exact h
  refine with_K (O.ok.F.keepC f 71 hgc) (stars1 hs) (wpAny_mono (l_one hs ha k O.ok hsc hnm cp _ _ _ _ _ S hl) (fun vs s2 ⟨avs,H2,hn,hvs,S2,h2⟩=>?_) fun _ _ e=>XE_S e)
  cases hvs with
  | nil=>cases hn
  | @cons v av _ _ r t=>cases t with
   | cons=>cases hn
   | nil =>
    obtain⟨hhd,hint,hx⟩:=h2
    have hh:=O.ok.hand hhd
    obtain⟨G2,SC2,V2⟩:=id S2
    have X2:K.In s2.heap:=keepK O.ok.F SC2
    have lim2:s2.heap.NoLimit:=O.ok.F.nolim.keeps fun b o e=>(SC2.keep b o e).2
    refine⟨X2,?_⟩
    obtain⟨sc35,b35,R35,B35,G35⟩:=SO.r35
    obtain⟨sc68,b68,R68,B68,G68⟩:=SO.r68
    have kp:∀ b o,s2.heap.get? b=some o→((s2.heap.push { cls:=.type "tuple",data:=.seq #[v] }).push (excObj s2.heap.objs.size none)).get? b=some o:=fun b o e=>Heap.get?_push_of_some _ (Heap.get?_push_of_some _ e)
    have heK:K.lookup (s2.heap.objs.size+1)=none:=by
     cases hq:K.lookup (s2.heap.objs.size+1) with
     | none=>rfl
     | some o=>exact absurd (Heap.lt_size (X2 _ _ hq)) (Nat.not_lt.mpr (Nat.le_succ _))
    have room:(k.A.under (.builtin "type.__call__" ⟨.ref 71::[v],[]⟩)).depth+1 < recursionLimit:=by
     have:=O.ok.room.1;have e:=depth_under_kw k.A 71 [v] [];have e2:recursionLimit=1000:=rfl;omega
    have hget:((s2.heap.push { cls:=.type "tuple",data:=.seq #[v] }).push (excObj s2.heap.objs.size none)).get? (s2.heap.objs.size+1)=some (excObj s2.heap.objs.size none):=by heap_get
    refine wpAny_call (make71 SO.cls X2 (init68 (s:={ s2 with heap:=(s2.heap.push { cls:=.type "tuple",data:=.seq #[v] }).push (excObj s2.heap.objs.size none) }) SO.cls (X2.keeps kp) (lim2.keeps kp) room
     (m1.keeps fun b o e=>kp _ _ (SC2.keep b o e).2) mE mC (b1.keeps fun b o e=>kp _ _ (SC2.keep b o e).2) bE R35 B35 G35 R68 B68 G68 heK hget fun h' tk dx t' he' hdx hd0 hne keep=>?_))
    have keep2:∀ b o,s2.heap.get? b=some o→h'.get? b=some o:=fun b o e=>keep b o (fun q=>by have:=Heap.lt_size e;rw [q] at this;exact absurd this (Nat.not_lt.mpr (Nat.le_succ _))) (kp b o e)
    have hd2:s2.heap.get? dx=none:=by
     cases hq:s2.heap.get? dx with
     | none=>rfl
     | some o=>rw [kp _ _ hq] at hd0;cases hd0
    have W:=aw_new S2 (h₁:=h') (tk:=tk) hint r keep2 he' hdx hd2 hne
    exact⟨rfl,hh,_,t',some dx,rfl,keep2 _ _ (X2 _ _ hC),he',aw_xs W (fun L q=>nomatch q) hx⟩
 exact raise71 (wpAny_bind (wpAny_mono made (fun v s1 h1=>wpAny_bind (wpAny_standAt (wpAny_pure h1))) fun _ _ e=>e))
end
end Bm
namespace Bm
open PySem PySem.W PyProof.Rows PySem.SeqAt PySem.MeetsSeq
section
variable {K:Frag} {T:Tab} {calls:Bool→CallSem}
set_option maxHeartbeats 4000000 in
theorem step_s {n:Nat} (ih:∀ {sc nm ss ir},chkSs n sc nm ss ir=true→SSs K T calls sc nm ss ir) {sc nm st ir} (h:chkS (n+1) sc nm st ir=true):SS K T calls sc nm st ir:=by
 have SA:=sound K n
 unfold chkS at h
 split at h <;> try simp only [Bool.and_eq_true,decide_eq_true_eq,Bool.not_eq_true',beq_iff_eq] at h
 ·exact ss_expr h.1 (SA.e h.2).1
 ·exact ss_ret (SA.e h).1
 ·exact ss_retN
 ·exact ss_asgC h.1 (SA.e h.2).1 fun hc=>sound_u K h.2 hc
 ·obtain⟨⟨⟨rfl,h2⟩,h3⟩,h4⟩:=h
  exact ss_setA h2 (SA.e h3).1 (SA.e h4).1
 ·obtain⟨⟨⟨⟨h1,h2⟩,h3⟩,h4⟩,h5⟩:=h
  exact ss_setI h1 h5 (SA.e h2).1 (SA.e h3).1 (SA.e h4).1
 ·obtain⟨⟨⟨h1,h2⟩,h3⟩,h4⟩:=h
  exact ss_unp h1 h2 h3 (SA.e h4).1
 ·obtain⟨⟨⟨⟨h1,h2⟩,h3⟩,h4⟩,h5⟩:=h
  exact ss_augL h1 h2 h3 h4 (SA.e h5).1
 ·obtain⟨⟨⟨rfl,h2⟩,h3⟩,h4⟩:=h
  exact ss_augA h2 (SA.e h3).1 (SA.e h4).1
 ·obtain⟨⟨⟨rfl,h2⟩,h3⟩,h4⟩:=h
  exact ss_augK h2 (SA.e h3).1 (SA.e h4).1
 ·obtain⟨⟨h1,h2⟩,h3⟩:=h
  exact ss_ite (SA.e h1).2 (ih h2) (ih h3)
 ·exact ss_while (SA.e h.1).2 (ih h.2)
 ·obtain⟨⟨⟨h1,h2⟩,h3⟩,h4⟩:=h
  exact ss_for h1 h2 (SA.t h3) (ih h4)
 ·obtain⟨⟨⟨h1,h2⟩,h3⟩,h4⟩:=h
  exact ss_raise h1 h2 h3 (SA.e h4).1
 ·exact ss_bad
 ·obtain⟨⟨⟨⟨h1,h2⟩,h3⟩,h4⟩,h5⟩:=h
  exact ss_try h1 h2 h5 (ih h3) (ih h4) trivial
 ·obtain⟨⟨⟨⟨⟨⟨h1,h2⟩,h3⟩,h3'⟩,h4⟩,h5⟩,h6⟩:=h
  exact ss_try h1 h2 h6 (ih h4) (ih h5) ⟨h3,h3'⟩
 ·exact ss_pass
 ·exact ss_brk
 ·exact ss_cont
 ·cases h
theorem sound_s (K:Frag) (T:Tab) (calls:Bool→CallSem):∀ n,(∀ {sc nm ss ir},chkSs n sc nm ss ir=true→SSs K T calls sc nm ss ir)∧(∀ {sc nm st ir},chkS n sc nm st ir=true→SS K T calls sc nm st ir)
 | 0=>⟨fun h=>by simp [chkSs] at h,fun h=>by simp [chkS] at h⟩
 | n+1=>by
  obtain⟨i1,i2⟩:=sound_s K T calls n
  refine⟨fun {sc nm ss ir} h=>?_,fun h=>step_s i1 h⟩
  unfold chkSs at h
  split at h
  ·exact sss_nil
  ·rw [Bool.and_eq_true] at h
   exact sss_cons (i2 h.1) (i1 h.2)
  ·cases h
theorem callOk {c:Cx} (F:Fa c T K) (hT:∀ f fn,T.fn f=some fn→fnIn K f fn=true):∀ n hd,CallOk c (FW T n hd) n hd
 | 0,hd=>fun f args H Q X h=>h.elim
 | n+1,hd=>fun f args H Q X h A fr P G s vs nv hv S room hfr hh=>by
  unfold FW at h
  cases hf:T.fn f with
  | none=>rw [hf] at h;exact h.elim
  | some fn =>
   rw [hf] at h
   exact call_step F (hT f fn hf) (calls:=FW T n) (fun b=>callOk F hT n b) (fun fd body C=>(sound_s K T (FW T n) 60).1 C.chk) h.1 h.2 nv hv S room hfr hh
end
end Bm
namespace Bn
open Bm
theorem LG:(∀ (v:AV) (r:List AV),lget (v::r) 0=v)∧(∀ (v:AV) (r:List AV) (n:Nat),lget (v::r) (n+1)=lget r n):=⟨fun _ _=>rfl,fun _ _ _=>rfl⟩
theorem LT:(∀ (v w:AV) (r:List AV),lset (v::r) 0 w=w::r)∧(∀ (v w:AV) (r:List AV) (n:Nat),lset (v::r) (n+1) w=v::lset r n w):=⟨fun _ _ _=>rfl,fun _ _ _ _=>rfl⟩
theorem LS:((∀ (v:AV) (r:List AV),lget (v::r) 0=v)∧(∀ (v:AV) (r:List AV) (n:Nat),lget (v::r) (n+1)=lget r n))∧(∀ (v w:AV) (r:List AV),lset (v::r) 0 w=w::r)∧(∀ (v w:AV) (r:List AV) (n:Nat),lset (v::r) (n+1) w=v::lset r n w):=⟨LG,LT⟩
theorem DF:(∀ i:Decidable False,@decide False i=false)∧((false=true)=False)∧(∀ (i:Decidable False) (a b:Prop),@ite Prop False i a b=b):=⟨fun _=>by simp,by simp,fun _ _ _=>by simp⟩
theorem DT:(∀ i:Decidable True,@decide True i=true)∧(∀ (i:Decidable True) (a b:Prop),@ite Prop True i a b=a):=⟨fun _=>by simp,fun _ _ _=>by simp⟩
theorem lget_0 (v:AV) (r:List AV):lget (v::r) 0=v:=rfl
theorem lget_1 (v:AV) (r:List AV) (n:Nat):lget (v::r) (n+1)=lget r n:=rfl
theorem lset_0 (v w:AV) (r:List AV):lset (v::r) 0 w=w::r:=rfl
theorem lset_1 (v w:AV) (r:List AV) (n:Nat):lset (v::r) (n+1) w=v::lset r n w:=rfl
theorem e_loc_int {T hd call ρ H Q X i x} (h:lget ρ i=.int x):vE T hd call (.loc i) ρ H Q X=Q (.int x) H:=by rw [vE,h]
theorem e_loc_ref {T hd call ρ H Q X i x} (h:lget ρ i=.ref x):vE T hd call (.loc i) ρ H Q X=Q (.ref x) H:=by rw [vE,h]
theorem e_loc_bool {T hd call ρ H Q X i x} (h:lget ρ i=.bool x):vE T hd call (.loc i) ρ H Q X=Q (.bool x) H:=by rw [vE,h]
theorem e_loc_none {T hd call ρ H Q X i} (h:lget ρ i=.none):vE T hd call (.loc i) ρ H Q X=Q .none H:=by rw [vE,h]
theorem a_get {T:Tab} {a C fs n v H Q} (h:H a=some (.obj C fs)) (hc:T.att C n=true) (hf:fget fs n=some v) (hv:v≠.undef):vAttr T (.ref a) n H Q=Q v:=by
 unfold vAttr;dsimp only
 rw [h];dsimp only
 rw [hf,hc]
 cases v <;> first | exact absurd rfl hv | simp [okv]
theorem a_set {T:Tab} {a C fs n v H Q} (h:H a=some (.obj C fs)) (hc:T.att C n=true) (hl:fs.length < 100):vSetA T (.ref a) n v H Q=Q (upd H a (.obj C (fset fs n v))):=by
 unfold vSetA;dsimp only
 rw [h];simp [hc,hl]
theorem t_bool {b H} {Q:Bool→Prop}:truthy (.bool b) H Q=Q b:=rfl
theorem c_gt {a b:Int} {H Q}:vCmp .gt (.int a) (.int b) H Q=Q (decide (a > b)):=rfl
theorem c_ge {a b:Int} {H Q}:vCmp .ge (.int a) (.int b) H Q=Q (decide (a≥b)):=rfl
theorem c_lt {a b:Int} {H Q}:vCmp .lt (.int a) (.int b) H Q=Q (decide (a < b)):=rfl
theorem c_le {a b:Int} {H Q}:vCmp .le (.int a) (.int b) H Q=Q (decide (a≤b)):=rfl
theorem b_add {a b:Int} {H Q}:vBin .add (.int a) (.int b) H Q=Q (.int (a+b)) H:=rfl
theorem b_sub {a b:Int} {H Q}:vBin .sub (.int a) (.int b) H Q=Q (.int (a - b)) H:=rfl
theorem mated_in_ok {n:Nat} {hd:Bool} {p:Int} {H:AHeap} {Q X:EQ} (h:Q (.int (p - 32000)) H):FW tT (n+1) hd 92 [.int p] H Q X:=⟨rfl,h⟩
structure Ctx where
 game:AV
 table:AV
 killers:AV
 history:AV
 qdepth:Int
 most:Int
 nodes:Int
 made:Int
 lines:Nat
def Ctx.fs (x:Ctx):List (String×AV):=[("game",x.game),("table",x.table),("killers",x.killers),("history",x.history),("qdepth",.int x.qdepth),("is_exact",.bool true),("max_nodes",.int x.most),("nodes",.int x.nodes),("made",.int x.made),("lines",.ref x.lines)]
theorem tick_ok {n:Nat} {c:Nat} {x:Ctx} {H:AHeap} {Q X:EQ} (hc:H c=some (.obj 137 x.fs))
  (h0:x.most > 0∧x.nodes≥x.most→X (.int x.nodes) H) (h1:¬ (x.most > 0∧x.nodes≥x.most)→Q .none (upd H c (.obj 137 { x with nodes:=x.nodes+1 }.fs))):FW tT (n+1) false 134 [.ref c] H Q X:=by
 refine⟨rfl,?_⟩
 have m1:fget x.fs "max_nodes" = some (.int x.most):=rfl
 have m2:fget x.fs "nodes" = some (.int x.nodes):=rfl
 have e1:∀ v,fset x.fs "nodes" (.int v)={ x with nodes:=v }.fs:=fun _=>rfl
 have t1:tT.att 137 "max_nodes" = true:=rfl
 have t2:tT.att 137 "nodes" = true:=rfl
 have hl:x.fs.length < 100:=by show 10 < 100;decide
 show vSs tT (FW tT n) ir_SearchContext_tick false [.ref c] H _ _
 unfold ir_SearchContext_tick
 simp only [vSs,vS,vE,lget_0,a_get hc t1 m1,a_get hc t2 m2,c_gt,c_ge,t_bool,b_add,a_set hc t2 hl,e1,ne_eq,reduceCtorEq,not_false_eq_true,decide_eq_true_eq,DF,true_and,isInt]
 by_cases g1:x.most > 0
 ·by_cases g2:x.nodes≥x.most
  ·simpa [g1,g2] using h0 ⟨g1,g2⟩
  ·simpa [g1,g2] using h1 fun q=>g2 q.2
 ·simpa [g1] using h1 fun q=>g1 q.1
end Bn
namespace Bn
open Bm
def nats (l:List Nat):List AV:=l.map fun(n:Nat)=>AV.int (n:Int)
def intsL (l:List Int):List AV:=l.map AV.int
def refs (l:List Nat):List AV:=l.map AV.ref
def boolsL (l:List Bool):List AV:=l.map AV.bool
structure Gm where
 kids:List (List Nat)
 vals:List Int
 chk:List Bool
 drw:List Bool
 noi:List (List Bool)
 gai:List (List Int)
structure Cf where
 tab:Option (Nat×Nat)
 kh:Bool
 calm:Int
 most:Int
structure Ad where
 c:Nat
 g:Nat
 gp:Nat
 gl:Nat
 t:Nat
 ts:Nat
 kl:Nat
 k1:Nat
 k2:Nat
 hs:Nat
 hd:Nat
 ch:Nat
 va:Nat
 ck:Nat
 dr:Nat
 no:Nat
 ga:Nat
 chR:List Nat
 noR:List Nat
 gaR:List Nat
def Ad.chg (A:Ad):List Nat:=[A.c,A.gp,A.gl,A.ts,A.k1,A.k2,A.hd]
structure Sg where
 path:List Nat
 slots:List Int
 first:List Int
 second:List Int
 scores:List (Int×Int)
 nodes:Int
 made:Int
 lines:List (List Int)
def tabV (A:Ad) (f:Cf):AV:=if f.tab.isSome then .ref A.t else .none
def kilV (A:Ad) (f:Cf):AV:=if f.kh then .ref A.kl else .none
def hisV (A:Ad) (f:Cf):AV:=if f.kh then .ref A.hs else .none
def ctxFs (A:Ad) (f:Cf) (σ:Sg):List (String×AV):=[("game",.ref A.g),("table",tabV A f),("killers",kilV A f),("history",hisV A f),("qdepth",.int f.calm),("is_exact",.bool true),("max_nodes",.int f.most),("nodes",.int σ.nodes),("made",.int σ.made),("lines",.ref A.gl)]
def gameFs (A:Ad):List (String×AV):=[("children",.ref A.ch),("values",.ref A.va),("checks",.ref A.ck),("draws",.ref A.dr),("noisy_rows",.ref A.no),("gain_rows",.ref A.ga),("path",.ref A.gp)]
def tabFs (A:Ad) (cl w:Nat) (age:Int):List (String×AV):=[("clusters",.int cl),("ways",.int w),("age",.int age),("slots",.ref A.ts)]
def scV (l:List (Int×Int)):List (Int×AV):=l.map fun p=>(p.1,AV.int p.2)
def Rows (H:AHeap) (F:Nat→Prop):List Nat→List (List AV)→Prop
 | [],[]=>True
 | a::as,r::rs=>H a=some (.list r)∧F a∧Rows H F as rs
 | _,_=>False
theorem upd_eq {H:AHeap} {a:Nat} {o:AO}:upd H a o a=some o:=by unfold upd;rw [if_pos rfl]
theorem upd_ne {H:AHeap} {a b:Nat} {o:AO} (h:b≠a):upd H a o b=H b:=by unfold upd;rw [if_neg h]
theorem Rows.mono {H H':AHeap} {F F':Nat→Prop} (x:∀ a o,H a=some o→F a→H' a=some o∧F' a):∀ {as:List Nat} {rs:List (List AV)},Rows H F as rs→Rows H' F' as rs
 | [],[],_=>trivial
 | a::as,r::rs,⟨h1,h2,h3⟩=>⟨(x a _ h1 h2).1,(x a _ h1 h2).2,Rows.mono x h3⟩
 | [],_::_,h=>h.elim
 | _::_,[],h=>h.elim
theorem Rows.at {H:AHeap} {F:Nat→Prop}:∀ {as:List Nat} {rs:List (List AV)},Rows H F as rs→∀ (i:Nat) (r:List AV),rs[i]? = some r→∃ a,as[i]? = some a∧H a=some (.list r)∧F a
 | [],[],_,i,r,e=>by simp at e
 | a::as,q::rs,⟨h1,h2,h3⟩,0,r,e=>⟨a,rfl,by simp at e;rw [← e];exact h1,h2⟩
 | a::as,q::rs,⟨h1,h2,h3⟩,i+1,r,e=>by simpa using Rows.at h3 i r (by simpa using e)
 | [],_::_,h,_,_,_=>h.elim
 | _::_,[],h,_,_,_=>h.elim
theorem Rows.len {H:AHeap} {F:Nat→Prop}:∀ {as:List Nat} {rs:List (List AV)},Rows H F as rs→as.length=rs.length
 | [],[],_=>rfl
 | a::as,r::rs,⟨h1,h2,h3⟩=>by simp [Rows.len h3]
 | [],_::_,h=>h.elim
 | _::_,[],h=>h.elim
structure Stat (A:Ad) (f:Cf) (G:Gm) (age:Int) (F:Nat→Prop) (H:AHeap):Prop where
 game:H A.g=some (.obj 686 (gameFs A))∧F A.g
 ch:H A.ch=some (.list (refs A.chR))∧F A.ch
 va:H A.va=some (.list (intsL G.vals))∧F A.va
 ck:H A.ck=some (.list (boolsL G.chk))∧F A.ck
 dr:H A.dr=some (.list (boolsL G.drw))∧F A.dr
 no:H A.no=some (.list (refs A.noR))∧F A.no
 ga:H A.ga=some (.list (refs A.gaR))∧F A.ga
 chR:Rows H F A.chR (G.kids.map nats)
 noR:Rows H F A.noR (G.noi.map boolsL)
 gaR:Rows H F A.gaR (G.gai.map intsL)
 tab:∀ cl w,f.tab=some (cl,w)→H A.t=some (.obj 284 (tabFs A cl w age))∧F A.t
 kil:f.kh=true→H A.kl=some (.obj 389 [("plies",.int 3),("first",.ref A.k1),("second",.ref A.k2)])∧F A.kl
 his:f.kh=true→H A.hs=some (.obj 347 [("limit",.int 400),("scores",.ref A.hd)])∧F A.hs
structure Dyn (A:Ad) (f:Cf) (σ:Sg) (F:Nat→Prop) (H:AHeap):Prop where
 ctx:H A.c=some (.obj 137 (ctxFs A f σ))
 path:H A.gp=some (.list (nats σ.path))
 lines:∃ ls,H A.gl=some (.list (refs ls))∧Rows H F ls (σ.lines.map intsL)
 slots:f.tab.isSome=true→H A.ts=some (.list (intsL σ.slots))
 first:f.kh=true→H A.k1=some (.list (intsL σ.first))
 second:f.kh=true→H A.k2=some (.list (intsL σ.second))
 scores:f.kh=true→H A.hd=some (.idict (scV σ.scores))
theorem Stat.mono {A:Ad} {f:Cf} {G:Gm} {age:Int} {F F':Nat→Prop} {H H':AHeap} (S:Stat A f G age F H) (x:∀ a o,H a=some o→F a→H' a=some o∧F' a):Stat A f G age F' H' :=
 ⟨x _ _ S.game.1 S.game.2,x _ _ S.ch.1 S.ch.2,x _ _ S.va.1 S.va.2,x _ _ S.ck.1 S.ck.2,x _ _ S.dr.1 S.dr.2,x _ _ S.no.1 S.no.2,x _ _ S.ga.1 S.ga.2,S.chR.mono x,S.noR.mono x,S.gaR.mono x,
  fun cl w e=>x _ _ (S.tab cl w e).1 (S.tab cl w e).2,fun e=>x _ _ (S.kil e).1 (S.kil e).2,fun e=>x _ _ (S.his e).1 (S.his e).2⟩
theorem Dyn.mono {A:Ad} {f:Cf} {σ:Sg} {F F':Nat→Prop} {H H':AHeap} (D:Dyn A f σ F H) (x:∀ a o,H a=some o→F a→H' a=some o∧F' a) (y:∀ a∈A.chg,H' a=H a):Dyn A f σ F' H':=by
 obtain⟨ls,l1,l2⟩:=D.lines
 exact⟨(y _ (by simp [Ad.chg])).trans D.ctx,(y _ (by simp [Ad.chg])).trans D.path,⟨ls,(y _ (by simp [Ad.chg])).trans l1,l2.mono x⟩,fun e=>(y _ (by simp [Ad.chg])).trans (D.slots e),
  fun e=>(y _ (by simp [Ad.chg])).trans (D.first e),fun e=>(y _ (by simp [Ad.chg])).trans (D.second e),fun e=>(y _ (by simp [Ad.chg])).trans (D.scores e)⟩
def Fo (A:Ad) (R:AHeap) (a:Nat):Prop:=a∉A.chg∧R a=none
structure SR (A:Ad) (f:Cf) (G:Gm) (age:Int) (σ:Sg) (R H:AHeap):Prop where
 st:Stat A f G age (Fo A R) H
 dy:Dyn A f σ (Fo A R) H
 nd:A.chg.Nodup
 al:∀ a∈A.chg,H a≠none∧R a=none
 sub:∀ a o,R a=some o→H a=some o
theorem upd_some {H:AHeap} {a b:Nat} {o q:AO} (h:H b=some q) (n:b≠a):upd H a o b=some q:=by rw [upd_ne n];exact h
theorem SR.put {A f G age σ R H} (S:SR A f G age σ R H) {a:Nat} {o:AO} (h:R a≠none∨H a=none):SR A f G age σ (upd R a o) (upd H a o):=by
 have k:∀ b q,H b=some q→R b=none→b≠a:=fun b q h1 h2 e=>by
  subst e
  cases h with
  | inl h=>exact h h2
  | inr h=>rw [h] at h1;cases h1
 have x:∀ b q,H b=some q→Fo A R b→upd H a o b=some q∧Fo A (upd R a o) b:=fun b q h1 h2 =>
  ⟨upd_some h1 (k b q h1 h2.2),h2.1,by rw [upd_ne (k b q h1 h2.2)];exact h2.2⟩
 have c:∀ b∈A.chg,b≠a:=fun b m=>by
  obtain⟨u,v⟩:=S.al b m
  cases e:H b with
  | none=>exact(u e).elim
  | some q=>exact k b q e v
 refine⟨S.st.mono x,S.dy.mono x fun b m=>upd_ne (c b m),S.nd,fun b m=>?_,fun b q e=>?_⟩
 ·rw [upd_ne (c b m),upd_ne (c b m)];exact S.al b m
 ·by_cases n:b=a
  ·subst n;rw [upd_eq] at e ⊢;exact e
  ·rw [upd_ne n] at e ⊢;exact S.sub b q e
theorem SR.drop {A f G age σ R R' H} (S:SR A f G age σ R H) (h:∀ a o,R' a=some o→R a=some o):SR A f G age σ R' H:=by
 have z:∀ b,R b=none→R' b=none:=fun b e=>by
  cases r:R' b with
  | none=>rfl
  | some q=>rw [h b q r] at e;cases e
 have x:∀ b q,H b=some q→Fo A R b→H b=some q∧Fo A R' b:=fun b q h1 h2=>⟨h1,h2.1,z b h2.2⟩
 exact⟨S.st.mono x,S.dy.mono x fun _ _=>rfl,S.nd,fun b m=>⟨(S.al b m).1,z b (S.al b m).2⟩,fun b q e=>S.sub b q (h b q e)⟩
theorem SR.none_R {A f G age σ R H} (S:SR A f G age σ R H) {a:Nat} (h:H a=none):R a=none:=by
 cases r:R a with
 | none=>rfl
 | some q=>rw [S.sub a q r] at h;cases h
theorem SR.new {A f G age σ R H} (S:SR A f G age σ R H) {a:Nat} {o:AO} (h:H a=none):SR A f G age σ R (upd H a o) :=
 (S.put (o:=o) (.inr h)).drop fun b q e=>upd_some e fun n=>by rw [n,S.none_R h] at e;cases e
structure Ad.Nd (A:Ad):Prop where
 n12:A.c≠A.gp
 n13:A.c≠A.gl
 n14:A.c≠A.ts
 n15:A.c≠A.k1
 n16:A.c≠A.k2
 n17:A.c≠A.hd
 n23:A.gp≠A.gl
 n24:A.gp≠A.ts
 n25:A.gp≠A.k1
 n26:A.gp≠A.k2
 n27:A.gp≠A.hd
 n34:A.gl≠A.ts
 n35:A.gl≠A.k1
 n36:A.gl≠A.k2
 n37:A.gl≠A.hd
 n45:A.ts≠A.k1
 n46:A.ts≠A.k2
 n47:A.ts≠A.hd
 n56:A.k1≠A.k2
 n57:A.k1≠A.hd
 n67:A.k2≠A.hd
theorem Ad.ndp {A:Ad} (h:A.chg.Nodup):A.Nd:=by
 unfold Ad.chg at h
 simp only [List.nodup_cons,List.mem_cons,List.not_mem_nil,or_false,not_or] at h
 obtain⟨⟨a1,a2,a3,a4,a5,a6⟩,⟨b1,b2,b3,b4,b5⟩,⟨c1,c2,c3,c4⟩,⟨d1,d2,d3⟩,⟨e1,e2⟩,f1,_⟩:=h
 exact⟨a1,a2,a3,a4,a5,a6,b1,b2,b3,b4,b5,c1,c2,c3,c4,d1,d2,d3,e1,e2,f1⟩
theorem SR.set {A f G age σ σ' R H} (S:SR A f G age σ R H) {a:Nat} {o:AO} (m:a∈A.chg) (D:Dyn A f σ' (Fo A R) (upd H a o)):SR A f G age σ' R (upd H a o):=by
 have x:∀ b q,H b=some q→Fo A R b→upd H a o b=some q∧Fo A R b:=fun b q h1 h2=>⟨upd_some h1 fun n=>h2.1 (by rw [n];exact m),h2⟩
 refine⟨S.st.mono x,D,S.nd,fun b n=>⟨?_,(S.al b n).2⟩,fun b q e=>upd_some (S.sub b q e) fun n=>by rw [n,(S.al a m).2] at e;cases e⟩
 by_cases e:b=a
 ·rw [e,upd_eq];intro z;cases z
 ·rw [upd_ne e];exact(S.al b n).1
theorem SR.lines_mono {A f G age σ R H} (S:SR A f G age σ R H) {a:Nat} {o:AO} (m:a∈A.chg) {ls:List Nat} {rs:List (List AV)} (h:Rows H (Fo A R) ls rs):Rows (upd H a o) (Fo A R) ls rs :=
 h.mono fun b q h1 h2=>⟨upd_some h1 fun n=>h2.1 (by rw [n];exact m),h2⟩
theorem SR.setCtx {A f G age σ R H} (S:SR A f G age σ R H) (n m:Int):SR A f G age { σ with nodes:=n,made:=m } R (upd H A.c (.obj 137 (ctxFs A f { σ with nodes:=n,made:=m }))):=by
 have N:=Ad.ndp S.nd;have D:=S.dy
 obtain⟨ls,l1,l2⟩:=D.lines
 have mm:A.c∈A.chg:=by simp [Ad.chg]
 exact S.set mm ⟨upd_eq,(upd_ne N.n12.symm).trans D.path,⟨ls,(upd_ne N.n13.symm).trans l1,S.lines_mono mm l2⟩,fun e=>(upd_ne N.n14.symm).trans (D.slots e),fun e=>(upd_ne N.n15.symm).trans (D.first e),fun e=>(upd_ne N.n16.symm).trans (D.second e),fun e=>(upd_ne N.n17.symm).trans (D.scores e)⟩
theorem SR.setPath {A f G age σ R H} (S:SR A f G age σ R H) (p:List Nat):SR A f G age { σ with path:=p } R (upd H A.gp (.list (nats p))):=by
 have N:=Ad.ndp S.nd;have D:=S.dy
 obtain⟨ls,l1,l2⟩:=D.lines
 have mm:A.gp∈A.chg:=by simp [Ad.chg]
 exact S.set mm ⟨(upd_ne N.n12).trans D.ctx,upd_eq,⟨ls,(upd_ne N.n23.symm).trans l1,S.lines_mono mm l2⟩,fun e=>(upd_ne N.n24.symm).trans (D.slots e),fun e=>(upd_ne N.n25.symm).trans (D.first e),fun e=>(upd_ne N.n26.symm).trans (D.second e),fun e=>(upd_ne N.n27.symm).trans (D.scores e)⟩
theorem SR.setSlots {A f G age σ R H} (S:SR A f G age σ R H) (p:List Int):SR A f G age { σ with slots:=p } R (upd H A.ts (.list (intsL p))):=by
 have N:=Ad.ndp S.nd;have D:=S.dy
 obtain⟨ls,l1,l2⟩:=D.lines
 have mm:A.ts∈A.chg:=by simp [Ad.chg]
 exact S.set mm ⟨(upd_ne N.n14).trans D.ctx,(upd_ne N.n24).trans D.path,⟨ls,(upd_ne N.n34).trans l1,S.lines_mono mm l2⟩,fun _=>upd_eq,fun e=>(upd_ne N.n45.symm).trans (D.first e),fun e=>(upd_ne N.n46.symm).trans (D.second e),fun e=>(upd_ne N.n47.symm).trans (D.scores e)⟩
theorem SR.setFirst {A f G age σ R H} (S:SR A f G age σ R H) (p:List Int):SR A f G age { σ with first:=p } R (upd H A.k1 (.list (intsL p))):=by
 have N:=Ad.ndp S.nd;have D:=S.dy
 obtain⟨ls,l1,l2⟩:=D.lines
 have mm:A.k1∈A.chg:=by simp [Ad.chg]
 exact S.set mm ⟨(upd_ne N.n15).trans D.ctx,(upd_ne N.n25).trans D.path,⟨ls,(upd_ne N.n35).trans l1,S.lines_mono mm l2⟩,fun e=>(upd_ne N.n45).trans (D.slots e),fun _=>upd_eq,fun e=>(upd_ne N.n56.symm).trans (D.second e),fun e=>(upd_ne N.n57.symm).trans (D.scores e)⟩
theorem SR.setSecond {A f G age σ R H} (S:SR A f G age σ R H) (p:List Int):SR A f G age { σ with second:=p } R (upd H A.k2 (.list (intsL p))):=by
 have N:=Ad.ndp S.nd;have D:=S.dy
 obtain⟨ls,l1,l2⟩:=D.lines
 have mm:A.k2∈A.chg:=by simp [Ad.chg]
 exact S.set mm ⟨(upd_ne N.n16).trans D.ctx,(upd_ne N.n26).trans D.path,⟨ls,(upd_ne N.n36).trans l1,S.lines_mono mm l2⟩,fun e=>(upd_ne N.n46).trans (D.slots e),fun e=>(upd_ne N.n56).trans (D.first e),fun _=>upd_eq,fun e=>(upd_ne N.n67.symm).trans (D.scores e)⟩
theorem SR.setScores {A f G age σ R H} (S:SR A f G age σ R H) (p:List (Int×Int)):SR A f G age { σ with scores:=p } R (upd H A.hd (.idict (scV p))):=by
 have N:=Ad.ndp S.nd;have D:=S.dy
 obtain⟨ls,l1,l2⟩:=D.lines
 have mm:A.hd∈A.chg:=by simp [Ad.chg]
 exact S.set mm ⟨(upd_ne N.n17).trans D.ctx,(upd_ne N.n27).trans D.path,⟨ls,(upd_ne N.n37).trans l1,S.lines_mono mm l2⟩,fun e=>(upd_ne N.n47).trans (D.slots e),fun e=>(upd_ne N.n57).trans (D.first e),fun e=>(upd_ne N.n67).trans (D.second e),fun _=>upd_eq⟩
theorem SR.setLines {A f G age σ R H} (S:SR A f G age σ R H) {ls:List Nat} {p:List (List Int)} (h:Rows H (Fo A R) ls (p.map intsL)):SR A f G age { σ with lines:=p } R (upd H A.gl (.list (refs ls))):=by
 have N:=Ad.ndp S.nd;have D:=S.dy
 have mm:A.gl∈A.chg:=by simp [Ad.chg]
 exact S.set mm ⟨(upd_ne N.n13).trans D.ctx,(upd_ne N.n23).trans D.path,⟨ls,upd_eq,S.lines_mono mm h⟩,fun e=>(upd_ne N.n34.symm).trans (D.slots e),fun e=>(upd_ne N.n35.symm).trans (D.first e),fun e=>(upd_ne N.n36.symm).trans (D.second e),fun e=>(upd_ne N.n37.symm).trans (D.scores e)⟩
theorem SR.fo {A f G age σ R H} (S:SR A f G age σ R H) {a:Nat} (h:H a=none):Fo A R a :=
 ⟨fun m=>(S.al a m).1 h,S.none_R h⟩
end Bn
namespace Bn
open Bm
theorem lget_of:∀ {xs:List AV} {k:Nat} {v:AV},xs[k]? = some v→lget xs k=v
 | [],k,v,h=>by simp at h
 | x::xs,0,v,h=>by simp at h;rw [lget_0];exact h
 | x::xs,k+1,v,h=>by rw [lget_1];exact lget_of (by simpa using h)
theorem nats_get {l:List Nat} {k x:Nat} (h:l[k]? = some x):lget (nats l) k=.int x:=lget_of (by simp [nats,h])
theorem ints_get {l:List Int} {k:Nat} {x:Int} (h:l[k]? = some x):lget (intsL l) k=.int x:=lget_of (by simp [intsL,h])
theorem refs_get {l:List Nat} {k:Nat} {x:Nat} (h:l[k]? = some x):lget (refs l) k=.ref x:=lget_of (by simp [refs,h])
theorem bools_get {l:List Bool} {k:Nat} {x:Bool} (h:l[k]? = some x):lget (boolsL l) k=.bool x:=lget_of (by simp [boolsL,h])
theorem nats_len {l:List Nat}:(nats l).length=l.length:=by simp [nats]
theorem ints_len {l:List Int}:(intsL l).length=l.length:=by simp [intsL]
theorem refs_len {l:List Nat}:(refs l).length=l.length:=by simp [refs]
theorem bools_len {l:List Bool}:(boolsL l).length=l.length:=by simp [boolsL]
theorem getSome {α:Type} {l:List α} {k:Nat} (h:k < l.length):∃ x,l[k]? = some x:=⟨l[k],by simp [h]⟩
theorem len_of {α:Type} {l:List α} {k:Nat} {x:α} (h:l[k]? = some x):k < l.length:=by
 rcases Nat.lt_or_ge k l.length with q | q
 ·exact q
 ·rw [List.getElem?_eq_none q] at h;cases h
theorem place_nat {i:Int} {k n:Nat} (h:k < n) (e:i=(k:Int)):place i n=some k:=by
 subst e;unfold place;rw [if_pos (by omega),if_pos (by omega)];simp
theorem place_last {n:Nat} (h:0 < n):place (-1) n=some (n - 1):=by
 unfold place;rw [if_neg (by omega),if_pos (by omega)];congr 1;omega
theorem i_list {l:Nat} {i:Int} {k:Nat} {xs:List AV} {H:AHeap} {Q:AV→Prop} {v:AV} (h:H l=some (.list xs)) (p:place i xs.length=some k) (g:lget xs k=v):vIdx (.ref l) (.int i) H Q=Q v:=by
 unfold vIdx;dsimp only;rw [h];dsimp only;rw [p];dsimp only;rw [g]
theorem i_tup {l:Nat} {i:Int} {k:Nat} {xs:List AV} {H:AHeap} {Q:AV→Prop} {v:AV} (h:H l=some (.tup xs)) (p:place i xs.length=some k) (g:lget xs k=v):vIdx (.ref l) (.int i) H Q=Q v:=by
 unfold vIdx;dsimp only;rw [h];dsimp only;rw [p];dsimp only;rw [g]
theorem m_list {T call l n args H Q X} {xs:List AV} (h:H l=some (.list xs)) (e:listM n=true):vMeth T call (.ref l) n args H Q X=args H fun vs H=>vListM l n vs H Q:=by
 unfold vMeth;dsimp only;rw [h];dsimp only;rw [e];simp
theorem m_append {l H Q v} {xs:List AV} (h:H l=some (.list xs)) (hl:xs.length < lim):vListM l "append" [v] H Q=Q .none (upd H l (.list (xs++[v]))):=by
 unfold vListM;rw [h];simp [hl]
theorem m_pop {l H Q} {xs:List AV} (h:H l=some (.list xs)) (hl:xs≠[]):vListM l "pop" [] H Q=Q (lget xs (xs.length - 1)) (upd H l (.list xs.dropLast)):=by
 unfold vListM;rw [h];simp [hl]
theorem m_popi {l H Q} {xs:List AV} {i:Int} {k:Nat} (h:H l=some (.list xs)) (hl:place i xs.length=some k):vListM l "pop" [.int i] H Q=Q (lget xs k) (upd H l (.list (xs.eraseIdx k))):=by
 unfold vListM;rw [h];simp [hl]
theorem m_remove {l H Q} {xs:List AV} {i:Int} (h:H l=some (.list xs)) (h1:xs.all isInt=true) (h2:xs.any (isThe i)=true):vListM l "remove" [.int i] H Q=Q .none (upd H l (.list (xs.eraseP (isThe i)))):=by
 unfold vListM;rw [h];simp [h1,h2]
theorem m_obj {T call a n args H Q X C fs f} (h:H a=some (.obj C fs)) (e:fget fs n=none) (m:T.mth C n=some f):vMeth T call (.ref a) n args H Q X=args H fun vs H=>call f (.ref a::vs) H Q X:=by
 unfold vMeth;dsimp only;rw [h];dsimp only;rw [e,m];simp
theorem listM_append:listM "append" = true:=rfl
theorem listM_pop:listM "pop" = true:=rfl
theorem listM_remove:listM "remove" = true:=rfl
structure GOk (G:Gm):Prop where
 n0:0 < G.kids.length
 n6:G.kids.length≤6
 vals:G.vals.length=G.kids.length
 chk:G.chk.length=G.kids.length
 drw:G.drw.length=G.kids.length
 noi:G.noi.length=G.kids.length
 gai:G.gai.length=G.kids.length
 noiR:∀ (x:Nat) r k,G.noi[x]? = some r→G.kids[x]? = some k→r.length=k.length
 gaiR:∀ (x:Nat) r k,G.gai[x]? = some r→G.kids[x]? = some k→r.length=k.length
 kidR:∀ (x:Nat) k,G.kids[x]? = some k→k.length≤2∧∀ y∈k,x < y∧y < G.kids.length
 valR:∀ v∈G.vals,-20000≤v∧v≤20000
def Gm.kid (G:Gm) (x:Nat):List Nat:=(G.kids[x]?).getD []
def Gm.val (G:Gm) (x:Nat):Int:=(G.vals[x]?).getD 0
def Gm.ck (G:Gm) (x:Nat):Bool:=(G.chk[x]?).getD false
def Gm.dr (G:Gm) (x:Nat):Bool:=(G.drw[x]?).getD false
def Gm.no (G:Gm) (x:Nat) (m:Nat):Bool:=(((G.noi[x]?).getD [])[m - 1]?).getD false
def Gm.ga (G:Gm) (x:Nat) (m:Nat):Int:=(((G.gai[x]?).getD [])[m - 1]?).getD 0
section
variable {A:Ad} {f:Cf} {G:Gm} {age:Int} {σ:Sg} {R H:AHeap}
theorem game_at (S:SR A f G age σ R H) {n:String} {v:AV} (e:fget (gameFs A) n=some v) (t:tT.att 686 n=true) (k:v≠.undef) {Q:AV→Prop}:vAttr tT (.ref A.g) n H Q=Q v :=
 a_get S.st.game.1 t e k
theorem path_at (S:SR A f G age σ R H) {x:Nat} (hx:σ.path.getLast? = some x) {Q:AV→Prop}:vIdx (.ref A.gp) (.int (-1)) H Q=Q (.int x):=by
 have h0:0 < σ.path.length:=by cases h:σ.path with
  | nil=>rw [h] at hx;cases hx
  | cons=>simp
 refine i_list S.dy.path (by rw [nats_len];exact place_last h0) (nats_get ?_)
 rw [← hx,List.getLast?_eq_getElem?]
theorem g_value (S:SR A f G age σ R H) (O:GOk G) {x:Nat} (hx:σ.path.getLast? = some x) (hN:x < G.kids.length) {n:Nat} {hd:Bool} {Q X:EQ} (h:Q (.int (G.val x)) H):FW tT (n+1) hd 641 [.ref A.g] H Q X:=by
 refine⟨rfl,?_⟩
 obtain⟨v,hv⟩:=getSome (l:=G.vals) (k:=x) (by rw [O.vals];exact hN)
 have e:G.val x=v:=by unfold Gm.val;rw [hv];rfl
 rw [e] at h
 show vSs tT (FW tT n) ir_TreeGame_value hd [.ref A.g] H _ _
 unfold ir_TreeGame_value
 simp only [vSs,vS,vE,lget_0,game_at S (n:="values") rfl rfl (by simp),game_at S (n:="path") rfl rfl (by simp),path_at S hx,
  i_list S.st.va.1 (place_nat (by rw [ints_len];exact len_of hv) rfl) (ints_get hv)]
 exact h
theorem g_in_check (S:SR A f G age σ R H) (O:GOk G) {x:Nat} (hx:σ.path.getLast? = some x) (hN:x < G.kids.length) {n:Nat} {hd:Bool} {Q X:EQ} (h:Q (.bool (G.ck x)) H):FW tT (n+1) hd 655 [.ref A.g] H Q X:=by
 refine⟨rfl,?_⟩
 obtain⟨v,hv⟩:=getSome (l:=G.chk) (k:=x) (by rw [O.chk];exact hN)
 have e:G.ck x=v:=by unfold Gm.ck;rw [hv];rfl
 rw [e] at h
 show vSs tT (FW tT n) ir_TreeGame_in_check hd [.ref A.g] H _ _
 unfold ir_TreeGame_in_check
 simp only [vSs,vS,vE,lget_0,game_at S (n:="checks") rfl rfl (by simp),game_at S (n:="path") rfl rfl (by simp),path_at S hx,
  i_list S.st.ck.1 (place_nat (by rw [bools_len];exact len_of hv) rfl) (bools_get hv)]
 exact h
theorem g_is_draw (S:SR A f G age σ R H) (O:GOk G) {x:Nat} (hx:σ.path.getLast? = some x) (hN:x < G.kids.length) {n:Nat} {hd:Bool} {Q X:EQ} (h:Q (.bool (G.dr x)) H):FW tT (n+1) hd 662 [.ref A.g] H Q X:=by
 refine⟨rfl,?_⟩
 obtain⟨v,hv⟩:=getSome (l:=G.drw) (k:=x) (by rw [O.drw];exact hN)
 have e:G.dr x=v:=by unfold Gm.dr;rw [hv];rfl
 rw [e] at h
 show vSs tT (FW tT n) ir_TreeGame_is_draw hd [.ref A.g] H _ _
 unfold ir_TreeGame_is_draw
 simp only [vSs,vS,vE,lget_0,game_at S (n:="draws") rfl rfl (by simp),game_at S (n:="path") rfl rfl (by simp),path_at S hx,
  i_list S.st.dr.1 (place_nat (by rw [bools_len];exact len_of hv) rfl) (bools_get hv)]
 exact h
theorem g_key (S:SR A f G age σ R H) {x:Nat} (hx:σ.path.getLast? = some x) {n:Nat} {hd:Bool} {Q X:EQ} (h:Q (.int ((x:Int)+1)) H):FW tT (n+1) hd 648 [.ref A.g] H Q X:=by
 refine⟨rfl,?_⟩
 show vSs tT (FW tT n) ir_TreeGame_key hd [.ref A.g] H _ _
 unfold ir_TreeGame_key
 simp only [vSs,vS,vE,lget_0,game_at S (n:="path") rfl rfl (by simp),path_at S hx,b_add]
 exact h
theorem row_at {F:Nat→Prop} {as:List Nat} {rs:List (List AV)} (h:Rows H F as rs) {i:Nat} {r:List AV} (e:rs[i]? = some r) {l:Nat} (hl:H l=some (.list (refs as))):∃ a,H a=some (.list r)∧F a∧∀ Q,vIdx (.ref l) (.int i) H Q=Q (.ref a):=by
 obtain⟨a,e1,e2,e3⟩:=h.at i r e
 exact⟨a,e2,e3,fun Q=>i_list hl (place_nat (by rw [refs_len];exact len_of e1) rfl) (refs_get e1)⟩
theorem kids_at (S:SR A f G age σ R H) (O:GOk G) {x:Nat} (hN:x < G.kids.length):∃ a,H a=some (.list (nats (G.kid x)))∧∀ Q,vIdx (.ref A.ch) (.int x) H Q=Q (.ref a):=by
 obtain⟨v,hv⟩:=getSome hN
 have e:G.kid x=v:=by unfold Gm.kid;rw [hv];rfl
 obtain⟨a,h1,h2,h3⟩:=row_at S.st.chR (i:=x) (r:=nats v) (by simp [hv]) S.st.ch.1
 rw [e];exact⟨a,h1,h3⟩
theorem noisy_at (S:SR A f G age σ R H) (O:GOk G) {x:Nat} (hN:x < G.kids.length):∃ a bs,H a=some (.list (boolsL bs))∧bs.length=(G.kid x).length∧(∀ m,G.no x m=(bs[m - 1]?).getD false)∧∀ Q,vIdx (.ref A.no) (.int x) H Q=Q (.ref a):=by
 obtain⟨k,hk⟩:=getSome hN
 obtain⟨v,hv⟩:=getSome (l:=G.noi) (k:=x) (by rw [O.noi];exact hN)
 obtain⟨a,h1,h2,h3⟩:=row_at S.st.noR (i:=x) (r:=boolsL v) (by simp [hv]) S.st.no.1
 refine⟨a,v,h1,?_,?_,h3⟩
 ·rw [O.noiR x v k hv hk];unfold Gm.kid;rw [hk];rfl
 ·intro m;unfold Gm.no;rw [hv];rfl
theorem gain_at (S:SR A f G age σ R H) (O:GOk G) {x:Nat} (hN:x < G.kids.length):∃ a bs,H a=some (.list (intsL bs))∧bs.length=(G.kid x).length∧(∀ m,G.ga x m=(bs[m - 1]?).getD 0)∧∀ Q,vIdx (.ref A.ga) (.int x) H Q=Q (.ref a):=by
 obtain⟨k,hk⟩:=getSome hN
 obtain⟨v,hv⟩:=getSome (l:=G.gai) (k:=x) (by rw [O.gai];exact hN)
 obtain⟨a,h1,h2,h3⟩:=row_at S.st.gaR (i:=x) (r:=intsL v) (by simp [hv]) S.st.ga.1
 refine⟨a,v,h1,?_,?_,h3⟩
 ·rw [O.gaiR x v k hv hk];unfold Gm.kid;rw [hk];rfl
 ·intro m;unfold Gm.ga;rw [hv];rfl
theorem l_len {l:Nat} {xs:List AV} {H:AHeap} {T hd call e ρ X} {Q:EQ} (h:H l=some (.list xs)) (he:∀ Q:EQ,vE T hd call e ρ H Q X=Q (.ref l) H):vE T hd call (.len e) ρ H Q X=Q (.int xs.length) H:=by
 rw [vE,he];dsimp only;rw [h]
theorem g_is_noisy (S:SR A f G age σ R H) (O:GOk G) {x:Nat} (hx:σ.path.getLast? = some x) (hN:x < G.kids.length) {m:Nat} (h1:1≤m) (h2:m≤(G.kid x).length) {n:Nat} {hd:Bool} {Q X:EQ} (h:Q (.bool (G.no x m)) H):FW tT (n+1) hd 669 [.ref A.g,.int m] H Q X:=by
 refine⟨rfl,?_⟩
 obtain⟨a,bs,a1,a2,a3,a4⟩:=noisy_at S O hN
 obtain⟨v,hv⟩:=getSome (l:=bs) (k:=m - 1) (by omega)
 have e:G.no x m=v:=by rw [a3,hv];rfl
 rw [e] at h
 show vSs tT (FW tT n) ir_TreeGame_is_noisy hd [.ref A.g,.int m] H _ _
 unfold ir_TreeGame_is_noisy
 simp only [vSs,vS,vE,LG,game_at S (n:="noisy_rows") rfl rfl (by simp),game_at S (n:="path") rfl rfl (by simp),path_at S hx,a4,b_sub,
  i_list a1 (place_nat (i:=(m:Int) - 1) (by rw [bools_len];exact len_of hv) (by omega)) (bools_get hv)]
 exact h
theorem g_gain (S:SR A f G age σ R H) (O:GOk G) {x:Nat} (hx:σ.path.getLast? = some x) (hN:x < G.kids.length) {m:Nat} (h1:1≤m) (h2:m≤(G.kid x).length) {n:Nat} {hd:Bool} {Q X:EQ} (h:Q (.int (G.ga x m)) H):FW tT (n+1) hd 676 [.ref A.g,.int m] H Q X:=by
 refine⟨rfl,?_⟩
 obtain⟨a,bs,a1,a2,a3,a4⟩:=gain_at S O hN
 obtain⟨v,hv⟩:=getSome (l:=bs) (k:=m - 1) (by omega)
 have e:G.ga x m=v:=by rw [a3,hv];rfl
 rw [e] at h
 show vSs tT (FW tT n) ir_TreeGame_gain hd [.ref A.g,.int m] H _ _
 unfold ir_TreeGame_gain
 simp only [vSs,vS,vE,LG,game_at S (n:="gain_rows") rfl rfl (by simp),game_at S (n:="path") rfl rfl (by simp),path_at S hx,a4,b_sub,
  i_list a1 (place_nat (i:=(m:Int) - 1) (by rw [ints_len];exact len_of hv) (by omega)) (ints_get hv)]
 exact h
theorem g_side (S:SR A f G age σ R H) (h0:0 < σ.path.length) {n:Nat} {hd:Bool} {Q X:EQ} (h:Q (.int (((σ.path.length - 1)%2:Nat):Int)) H):FW tT (n+1) hd 683 [.ref A.g] H Q X:=by
 refine⟨rfl,?_⟩
 show vSs tT (FW tT n) ir_TreeGame_side hd [.ref A.g] H _ _
 unfold ir_TreeGame_side
 simp only [vSs,vS,vE,lget_0,game_at S (n:="path") rfl rfl (by simp),S.dy.path,nats_len,b_sub]
 unfold vBin
 refine⟨by omega,?_⟩
 have e:((σ.path.length:Int) - 1).toNat=σ.path.length - 1:=by omega
 have e2:((1:Int)).toNat=1:=rfl
 rw [e,e2,Nat.and_one_is_mod];exact h
def Gm.mv (G:Gm) (x:Nat):List Nat:=(List.range (G.kid x).length).map (· + 1)
theorem kid_le (O:GOk G) (x:Nat):(G.kid x).length≤2:=by
 unfold Gm.kid
 cases h:G.kids[x]? with
 | none=>simp
 | some k=>exact(O.kidR x k h).1
theorem g_moves (S:SR A f G age σ R H) (O:GOk G) {x:Nat} (hx:σ.path.getLast? = some x) (hN:x < G.kids.length) {n:Nat} {Q X:EQ} (h:∀ a,H a=none→Q (.ref a) (upd H a (.list (nats (G.mv x))))):FW tT (n+1) false 615 [.ref A.g] H Q X:=by
 refine⟨rfl,?_⟩
 obtain⟨a,a1,a2⟩:=kids_at S O hN
 have hl:=kid_le O x
 show vSs tT (FW tT n) ir_TreeGame_moves false [.ref A.g] H _ _
 unfold ir_TreeGame_moves
 simp only [vSs,vS,vE,lget_0,game_at S (n:="children") rfl rfl (by simp),game_at S (n:="path") rfl rfl (by simp),path_at S hx,a2,a1,b_add,nats_len]
 unfold vRange
 refine⟨trivial,⟨by unfold big lim;omega,?_⟩⟩
 have e:iRng 1 (((G.kid x).length:Int)+1)=nats (G.mv x):=by
  unfold iRng nats Gm.mv
  rw [List.map_map,show((((G.kid x).length:Int)+1) - 1).toNat=(G.kid x).length by omega]
  apply List.map_congr_left
  intro k _
  simp only [Function.comp]
  congr 1;omega
 rw [e];exact h
theorem g_make (S:SR A f G age σ R H) (O:GOk G) {x:Nat} (hx:σ.path.getLast? = some x) (hN:x < G.kids.length) (hp:σ.path.length < 1000) {m y:Nat} (h1:1≤m) (hy:(G.kid x)[m - 1]? = some y) {n:Nat} {Q X:EQ}
  (h:Q .none (upd H A.gp (.list (nats (σ.path++[y]))))):FW tT (n+1) false 627 [.ref A.g,.int m] H Q X:=by
 refine⟨rfl,?_⟩
 obtain⟨a,a1,a2⟩:=kids_at S O hN
 have hl:=len_of hy
 show vSs tT (FW tT n) ir_TreeGame_make false [.ref A.g,.int m,.undef] H _ _
 unfold ir_TreeGame_make
 simp only [vSs,vS,vE,LS,game_at S (n:="children") rfl rfl (by simp),game_at S (n:="path") rfl rfl (by simp),path_at S hx,a2,a1,c_lt,c_gt,t_bool,nats_len,b_sub,
  show ¬ ((m:Int) < 1) by omega,DF,show ¬ ((m:Int) > (G.kid x).length) by omega,m_list S.dy.path listM_append,vEs,
  i_list a1 (place_nat (i:=(m:Int) - 1) (by rw [nats_len];exact hl) (by omega)) (nats_get hy),m_append S.dy.path (show(nats σ.path).length < lim by rw [nats_len];unfold lim;omega)]
 have e:nats σ.path++[AV.int (y:Int)]=nats (σ.path++[y]):=by simp [nats]
 rw [e];exact h
theorem g_undo (S:SR A f G age σ R H) {p:List Nat} {y:Nat} (hp:σ.path=p++[y]) (h1:p≠[]) {n:Nat} {hd:Bool} {Q X:EQ}
  (h:Q .none (upd H A.gp (.list (nats p)))):FW tT (n+1) hd 634 [.ref A.g] H Q X:=by
 refine⟨rfl,?_⟩
 have hl:0 < p.length:=by cases p with
  | nil=>exact absurd rfl h1
  | cons=>simp
 have hq:σ.path.length=p.length+1:=by rw [hp];simp
 show vSs tT (FW tT n) ir_TreeGame_undo hd [.ref A.g] H _ _
 unfold ir_TreeGame_undo
 simp only [vSs,vS,vE,LG,game_at S (n:="path") rfl rfl (by simp),S.dy.path,vCmp,eqA,nats_len,t_bool,hq,
  show ¬ (((p.length+1:Nat):Int)=1) by omega,DF,m_list S.dy.path listM_pop,vEs,m_pop S.dy.path (show nats σ.path≠[] by rw [hp];simp [nats])]
 have e:(nats σ.path).dropLast=nats p:=by rw [hp];simp [nats]
 rw [e];exact h
end
end Bn
namespace Bn
open Bm
theorem lset_refs:∀ {l:List Nat} {k a:Nat},lset (refs l) k (.ref a)=refs (l.set k a)
 | [],k,a=>by simp [refs,lset]
 | x::l,0,a=>by simp [refs,lset]
 | x::l,k+1,a=>by have:=@lset_refs l k a;simp [refs,lset] at this ⊢;exact this
theorem lset_ints:∀ {l:List Int} {k:Nat} {a:Int},lset (intsL l) k (.int a)=intsL (l.set k a)
 | [],k,a=>by simp [intsL,lset]
 | x::l,0,a=>by simp [intsL,lset]
 | x::l,k+1,a=>by have:=@lset_ints l k a;simp [intsL,lset] at this ⊢;exact this
theorem s_list {l:Nat} {i:Int} {k:Nat} {v:AV} {xs:List AV} {H:AHeap} {Q:AHeap→Prop} (h:H l=some (.list xs)) (e:i=(k:Int)) (hk:k < xs.length):vSetI (.ref l) (.int i) v H Q=Q (upd H l (.list (lset xs k v))):=by
 subst e
 unfold vSetI;dsimp only;rw [h];simp;intro;omega
theorem Rows.set {H:AHeap} {F:Nat→Prop}:∀ {as:List Nat} {rs:List (List AV)},Rows H F as rs→∀ {a:Nat} {r:List AV},H a=some (.list r)→F a→∀ k:Nat,Rows H F (as.set k a) (rs.set k r)
 | [],[],_,a,r,_,_,k=>by simp [Rows]
 | b::as,q::rs,⟨h1,h2,h3⟩,a,r,e,g,0=>⟨e,g,h3⟩
 | b::as,q::rs,⟨h1,h2,h3⟩,a,r,e,g,k+1=>⟨h1,h2,Rows.set h3 e g k⟩
 | [],_::_,h,_,_,_,_,_=>h.elim
 | _::_,[],h,_,_,_,_,_=>h.elim
theorem Rows.snoc {H:AHeap} {F:Nat→Prop}:∀ {as:List Nat} {rs:List (List AV)},Rows H F as rs→∀ {a:Nat} {r:List AV},H a=some (.list r)→F a→Rows H F (as++[a]) (rs++[r])
 | [],[],_,a,r,e,g=>⟨e,g,trivial⟩
 | b::as,q::rs,⟨h1,h2,h3⟩,a,r,e,g=>⟨h1,h2,Rows.snoc h3 e g⟩
 | [],_::_,h,_,_,_,_=>h.elim
 | _::_,[],h,_,_,_,_=>h.elim
section
variable {A:Ad} {f:Cf} {G:Gm} {age:Int} {σ:Sg} {R H:AHeap}
theorem ctx_at (S:SR A f G age σ R H) {n:String} {v:AV} (e:fget (ctxFs A f σ) n=some v) (t:tT.att 137 n=true) (k:v≠.undef) {Q:AV→Prop}:vAttr tT (.ref A.c) n H Q=Q v :=
 a_get S.dy.ctx t e k
theorem made_set (S:SR A f G age σ R H) {v:Int} {Q:AHeap→Prop}:vSetA tT (.ref A.c) "made" (.int v) H Q=Q (upd H A.c (.obj 137 (ctxFs A f { σ with nodes:=σ.nodes,made:=v }))) :=
 a_set S.dy.ctx rfl (by show 10 < 100;decide)
theorem nodes_set (S:SR A f G age σ R H) {v:Int} {Q:AHeap→Prop}:vSetA tT (.ref A.c) "nodes" (.int v) H Q=Q (upd H A.c (.obj 137 (ctxFs A f { σ with nodes:=v,made:=σ.made }))) :=
 a_set S.dy.ctx rfl (by show 10 < 100;decide)
theorem x_step_into (S:SR A f G age σ R H) (O:GOk G) {x:Nat} (hx:σ.path.getLast? = some x) (hN:x < G.kids.length) (hp:σ.path.length < 1000) {m y:Nat} (h1:1≤m) (hy:(G.kid x)[m - 1]? = some y) {n:Nat} {Q X:EQ}
  (h:∀ H',SR A f G age { σ with path:=σ.path++[y],made:=σ.made+1 } R H'→Q .none H'):FW tT (n+2) false 148 [.ref A.c,.int m] H Q X:=by
 refine⟨rfl,?_⟩
 show vSs tT (FW tT (n+1)) ir_step_into false [.ref A.c,.int m] H _ _
 unfold ir_step_into
 simp only [vSs,vS,vE,LG,ctx_at S (n:="game") rfl rfl (by simp),m_obj (T:=tT) (f:=627) S.st.game.1 (n:="make") rfl rfl,vEs]
 refine g_make S O hx hN hp h1 hy ?_
 have S1:=S.setPath (σ.path++[y])
 simp only [ctx_at S1 (n:="made") rfl rfl (by simp),b_add,made_set S1]
 exact h _ (S1.setCtx _ _)
theorem x_step_back (S:SR A f G age σ R H) {p:List Nat} {y:Nat} (hp:σ.path=p++[y]) (h1:p≠[]) {n:Nat} {hd:Bool} {Q X:EQ}
  (h:∀ H',SR A f G age { σ with path:=p,made:=σ.made - 1 } R H'→Q .none H'):FW tT (n+2) hd 155 [.ref A.c] H Q X:=by
 refine⟨rfl,?_⟩
 show vSs tT (FW tT (n+1)) ir_step_back hd [.ref A.c] H _ _
 unfold ir_step_back
 simp only [vSs,vS,vE,LG,ctx_at S (n:="game") rfl rfl (by simp),m_obj (T:=tT) (f:=634) S.st.game.1 (n:="undo") rfl rfl,vEs]
 refine g_undo S hp h1 ?_
 have S1:=S.setPath p
 simp only [ctx_at S1 (n:="made") rfl rfl (by simp),b_sub,made_set S1]
 exact h _ (S1.setCtx _ _)
structure Unw (σ:Sg):Prop where
 hd:σ.path.head? = some 0
 md:σ.made=(σ.path.length:Int) - 1
theorem unwind_loop {n:Nat} {hd:Bool} {X:SX} {Q:SQ}:∀ (k:Nat) (σ:Sg) (H:AHeap),SR A f G age σ R H→Unw σ→σ.path.length=k+1 →
  (∀ H',SR A f G age { σ with path:=[0],made:=0 } R H'→Q .next [.ref A.c] H') →
  whileL (fun ρ H K=>vE tT hd (FW tT (n+2) hd) (.cmp .gt (.attr (.loc 0) "made") (.c (.int 0))) ρ H (fun v H=>truthy v H fun r=>K r H) (fun n H=>X n ρ H)) (fun ρ H K=>vSs tT (FW tT (n+2)) ir_unwind_loop0 hd ρ H K X) (k+1) [.ref A.c] H Q
 | 0,σ,H,S,U,hl,h=>by
  have hm:σ.made=0:=by rw [U.md,hl];rfl
  have e:{ σ with path:=[0],made:=0 }=σ:=by
   obtain⟨a,ha⟩:∃ a,σ.path=[a]:=by
    cases hh:σ.path with
    | nil=>rw [hh] at hl;cases hl
    | cons a r=>cases r with
     | nil=>exact⟨a,rfl⟩
     | cons=>rw [hh] at hl;simp at hl
   have:=U.hd;rw [ha] at this
   simp only [List.head?_cons,Option.some.injEq] at this
   cases σ;simp only at ha hm this;subst ha;subst hm;subst this;rfl
  rw [e] at h
  unfold whileL
  simp only [vE,lget_0,ctx_at S (n:="made") rfl rfl (by simp),c_gt,t_bool,hm]
  simpa using h H S
 | k+1,σ,H,S,U,hl,h=>by
  have hm:σ.made=(k:Int)+1:=by rw [U.md,hl];omega
  obtain⟨p,y,hp⟩:∃ p y,σ.path=p++[y]:=⟨σ.path.dropLast,σ.path.getLast (by intro z;rw [z] at hl;cases hl),(List.dropLast_concat_getLast _).symm⟩
  have hpl:p.length=k+1:=by rw [hp] at hl;simpa using hl
  have hp0:p≠[]:=by intro z;rw [z] at hpl;cases hpl
  unfold whileL
  simp only [vE,lget_0,ctx_at S (n:="made") rfl rfl (by simp),c_gt,t_bool,hm,show((k:Int)+1 > 0) by omega,DT,ir_unwind_loop0,vSs,vS,vEs]
  refine x_step_back S hp hp0 fun H' S'=>?_
  refine unwind_loop k _ H' S' ⟨?_,?_⟩ hpl fun H2 S2=>h H2 ?_
  ·have:=U.hd;rw [hp] at this
   cases p with
   | nil=>exact absurd rfl hp0
   | cons a r=>simpa using this
  ·show σ.made - 1=(p.length:Int) - 1;rw [hm,hpl];omega
  ·exact S2
theorem x_unwind (S:SR A f G age σ R H) (U:Unw σ) {n:Nat} {hd:Bool} {Q X:EQ} (h:∀ H',SR A f G age { σ with path:=[0],made:=0 } R H'→Q .none H'):FW tT (n+3) hd 162 [.ref A.c] H Q X:=by
 refine⟨rfl,?_⟩
 have hl:∃ k,σ.path.length=k+1:=by
  cases hh:σ.path with
  | nil=>have:=U.hd;rw [hh] at this;cases this
  | cons a r=>exact⟨r.length,by simp⟩
 obtain⟨k,hk⟩:=hl
 show vSs tT (FW tT (n+2)) ir_unwind hd [.ref A.c] H _ _
 unfold ir_unwind
 rw [vSs,vS]
 exact⟨k+1,unwind_loop k σ H S U hk fun H' S'=>h H' S'⟩
theorem lines_new (S:SR A f G age σ R H) {a:Nat} {r:List Int} (h:H a=none) {ls:List Nat} {rs:List (List AV)} (l2:Rows H (Fo A R) ls rs):Rows (upd H a (.list (intsL r))) (Fo A R) ls rs :=
 l2.mono fun b q e1 e2=>⟨upd_some e1 fun n=>(by rw [n,h] at e1;cases e1),e2⟩
theorem SR.rowSet (S:SR A f G age σ R H) {a:Nat} {r:List Int} (h:H a=none) {ls:List Nat} (l2:Rows H (Fo A R) ls (σ.lines.map intsL)) (k:Nat):SR A f G age { σ with lines:=σ.lines.set k r } R (upd (upd H a (.list (intsL r))) A.gl (.list (refs (ls.set k a)))):=by
 refine(S.new h).setLines ?_
 have:=(lines_new S (r:=r) h l2).set upd_eq (S.fo h) k
 simpa [List.map_set] using this
theorem SR.rowAdd (S:SR A f G age σ R H) {a:Nat} {r:List Int} (h:H a=none) {ls:List Nat} (l2:Rows H (Fo A R) ls (σ.lines.map intsL)):SR A f G age { σ with lines:=σ.lines++[r] } R (upd (upd H a (.list (intsL r))) A.gl (.list (refs (ls++[a])))):=by
 refine(S.new h).setLines ?_
 have:=(lines_new S (r:=r) h l2).snoc upd_eq (S.fo h)
 simpa using this
def clr (l:List (List Int)) (ply:Nat):List (List Int):=(if l.length≤ply then l++[[]] else l).set ply []
theorem new_gl (S:SR A f G age σ R H) {a:Nat} {o:AO} (h:H a=none) {ls:List Nat} (l1:H A.gl=some (.list (refs ls))):upd H a o A.gl=some (.list (refs ls)) :=
 upd_some l1 fun n=>by rw [n,h] at l1;cases l1
theorem x_clear_line (S:SR A f G age σ R H) {ply:Nat} (hp:ply≤σ.lines.length) (hb:σ.lines.length < 1000) {n:Nat} {Q X:EQ}
  (h:∀ H',SR A f G age { σ with lines:=clr σ.lines ply } R H'→Q .none H'):FW tT (n+1) false 169 [.ref A.c,.int ply] H Q X:=by
 refine⟨rfl,?_⟩
 show vSs tT (FW tT n) ir_clear_line false [.ref A.c,.int ply] H _ _
 have fin:∀ (σ:Sg) (H:AHeap),SR A f G age σ R H→ply < σ.lines.length→(∀ H',SR A f G age { σ with lines:=σ.lines.set ply [] } R H'→Q .none H') →
   vSs tT (FW tT n) (.cons (.setI (.attr (.loc 0) "lines") (.loc 1) (.list .nil)) .nil) false [.ref A.c,.int ply] H (fun fl _ H'=>match fl with | .ret v=>Q v H' | .next=>Q .none H' | _=>False) (fun k _ H'=>X k H'):=by
  intro σ H S hl h
  obtain⟨ls,l1,l2⟩:=S.dy.lines
  have hlen:ls.length=σ.lines.length:=by simpa using l2.len
  simp only [vSs,vS,vE,vEs,LG]
  intro a ha
  simp only [ctx_at (S.new ha) (n:="lines") rfl rfl (by simp),s_list (new_gl S ha l1) rfl (show ply < (refs ls).length by rw [refs_len,hlen];exact hl),lset_refs]
  exact h _ (S.rowSet (r:=[]) ha l2 ply)
 obtain⟨ls,l1,l2⟩:=S.dy.lines
 have hlen:ls.length=σ.lines.length:=by simpa using l2.len
 unfold ir_clear_line
 rw [vSs,vS]
 by_cases hc:σ.lines.length≤ply
 ·refine⟨2,?_⟩
  unfold whileL
  simp only [vE,LG,ctx_at S (n:="lines") rfl rfl (by simp),l1,refs_len,hlen,c_le,t_bool,show((σ.lines.length:Int)≤(ply:Int)) by omega,DT,ir_clear_line_loop0,vSs,vS,vEs,m_list l1 listM_append]
  intro a ha
  have g1:=new_gl S (o:=.list []) ha l1
  simp only [m_append g1 (show(refs ls).length < lim by rw [refs_len,hlen];unfold lim;omega)]
  have e:refs ls++[AV.ref a]=refs (ls++[a]):=by simp [refs]
  rw [e]
  have S1:=S.rowAdd (r:=[]) ha l2
  have e2:upd (upd H a (.list (intsL []))) A.gl (.list (refs (ls++[a]))) A.gl=some (.list (refs (ls++[a]))):=upd_eq
  unfold whileL
  have e3:intsL []=[]:=rfl
  rw [e3] at S1 e2
  simp only [vE,LG,ctx_at S1 (n:="lines") rfl rfl (by simp),e2,refs_len,hlen,c_le,t_bool,List.length_append,List.length_cons,List.length_nil,show ¬ (((σ.lines.length+(0+1):Nat):Int)≤(ply:Int)) by omega,decide_false,if_false,Bool.false_eq_true]
  refine fin _ _ S1 (by simp;omega) fun H' S'=>h H' ?_
  have:clr σ.lines ply=(σ.lines++[[]]).set ply []:=by unfold clr;rw [if_pos hc]
  rw [this];exact S'
 ·refine⟨1,?_⟩
  unfold whileL
  simp only [vE,LG,ctx_at S (n:="lines") rfl rfl (by simp),l1,refs_len,hlen,c_le,t_bool,show ¬ ((σ.lines.length:Int)≤(ply:Int)) by omega,decide_false,if_false,Bool.false_eq_true]
  refine fin _ _ S (by omega) fun H' S'=>h H' ?_
  have:clr σ.lines ply=σ.lines.set ply []:=by unfold clr;rw [if_neg hc]
  rw [this];exact S'
theorem x_set_line (S:SR A f G age σ R H) {ply:Nat} {m:Int} {r:List Int} (hr:σ.lines[ply+1]? = some r) (hb:r.length < 1000) {n:Nat} {Q X:EQ}
  (h:∀ H',SR A f G age { σ with lines:=σ.lines.set ply (m::r) } R H'→Q .none H'):FW tT (n+1) false 176 [.ref A.c,.int ply,.int m] H Q X:=by
 refine⟨rfl,?_⟩
 show vSs tT (FW tT n) ir_set_line false [.ref A.c,.int ply,.int m] H _ _
 obtain⟨ls,l1,l2⟩:=S.dy.lines
 have hlen:ls.length=σ.lines.length:=by simpa using l2.len
 obtain⟨b,b1,b2,b3⟩:=l2.at (ply+1) (intsL r) (by simp [hr])
 unfold ir_set_line
 simp only [vSs,vS,vE,vEs,LG]
 intro a ha
 have S1:=S.new (o:=.list [AV.int m]) ha
 have g1:=new_gl S (o:=.list [AV.int m]) ha l1
 have g2:upd H a (.list [AV.int m]) b=some (.list (intsL r)):=upd_some b2 fun n=>by rw [n,ha] at b2;cases b2
 have g3:upd H a (.list [AV.int m]) a=some (.list [AV.int m]):=upd_eq
 simp only [ctx_at S1 (n:="lines") rfl rfl (by simp),b_add,i_list g1 (place_nat (i:=(ply:Int)+1) (k:=ply+1) (by rw [refs_len];exact len_of b1) (by omega)) (refs_get b1)]
 unfold vBin;simp only [g2,g3]
 refine⟨by simp [intsL,lim];omega,?_⟩
 intro d hd
 have e:[AV.int m]++intsL r=intsL (m::r):=rfl
 rw [e]
 have hd0:=hd
 have S2:=S1.new (o:=.list (intsL (m::r))) hd
 have l2':Rows (upd H a (.list [AV.int m])) (Fo A R) ls (σ.lines.map intsL):=lines_new S (r:=[m]) ha l2
 have g4:=new_gl S1 (o:=.list (intsL (m::r))) hd g1
 simp only [ctx_at S2 (n:="lines") rfl rfl (by simp),s_list g4 rfl (show ply < (refs ls).length by rw [refs_len];have:=len_of b1;omega),lset_refs]
 exact h _ (S1.rowSet hd l2' ply)
theorem x_line_from (S:SR A f G age σ R H) {ply:Nat} {r:List Int} (hr:σ.lines[ply]? = some r) {n:Nat} {Q X:EQ}
  (h:∀ a,H a=none→Q (.ref a) (upd H a (.list (intsL r)))):FW tT (n+1) false 183 [.ref A.c,.int ply] H Q X:=by
 refine⟨rfl,?_⟩
 show vSs tT (FW tT n) ir_line_from false [.ref A.c,.int ply] H _ _
 obtain⟨ls,l1,l2⟩:=S.dy.lines
 obtain⟨b,b1,b2,b3⟩:=l2.at ply (intsL r) (by simp [hr])
 unfold ir_line_from
 simp only [vSs,vS,vE,LG,ctx_at S (n:="lines") rfl rfl (by simp),i_list l1 (place_nat (i:=(ply:Int)) (k:=ply) (by rw [refs_len];exact len_of b1) rfl) (refs_get b1),b2]
 exact h
end
end Bn
namespace Bn
open Bm
def eMove (e:Int):Int:=e%65536
def eVal (e:Int):Int:=e / 65536%65536 - 32768
def eDep (e:Int):Int:=e / 4294967296%256 - 8
def eBnd (e:Int):Int:=e / 1099511627776%4
def eAge (e:Int):Int:=e / 4398046511104%64
def eKey (e:Int):Int:=e / 281474976710656
theorem b_shr {a b:Int} {k:Nat} {H Q} (e:b=(k:Int)):vBin .shr (.int a) (.int b) H Q=Q (.int (a / 2 ^ k)) H:=by
 subst e
 unfold vBin;simp only [Int.toNat_natCast]
 rw [Int.fdiv_eq_ediv_of_nonneg]
 ·simp
 ·exact Int.le_of_lt (Int.pow_pos (by decide))
theorem b_mask {a b:Int} {k:Nat} {H Q} (h:0≤a) (e:b=2 ^ k - 1):vBin .band (.int a) (.int b) H Q=Q (.int (a%2 ^ k)) H:=by
 subst e
 have p:(0:Int) < 2 ^ k:=Int.pow_pos (by decide)
 unfold vBin;simp only
 have e1:((2:Int) ^ k - 1).toNat=2 ^ k - 1:=by
  have:((2 ^ k:Nat):Int)=2 ^ k:=by simp
  omega
 rw [e1,Nat.and_two_pow_sub_one_eq_mod]
 have e2:((a.toNat%2 ^ k:Nat):Int)=a%2 ^ k:=by
  obtain⟨n,rfl⟩:=Int.eq_ofNat_of_zero_le h
  simp
 rw [e2]
 apply propext
 constructor
 ·exact fun q=>q.2
 ·exact fun q=>⟨⟨h,by omega⟩,q⟩
theorem b_shl {a b:Int} {k:Nat} {H Q} (e:b=(k:Int)) (h1:-(2 ^ 200) < a) (h2:a < 2 ^ 200) (hk:k≤1000):vBin .shl (.int a) (.int b) H Q=Q (.int (a*2 ^ k)) H:=by
 subst e
 unfold vBin;simp only [Int.toNat_natCast]
 apply propext
 constructor
 ·exact fun q=>q.2
 ·exact fun q=>⟨⟨h1,h2,by omega,by omega⟩,q⟩
theorem b_or {a b:Int} {k:Nat} {H Q} (h1:0≤a) (h2:a < 2 ^ k) (h3:0≤b):vBin .bor (.int a) (.int (b*2 ^ k)) H Q=Q (.int (a+b*2 ^ k)) H:=by
 have p:(0:Int) < 2 ^ k:=Int.pow_pos (by decide)
 have h4:0≤b*2 ^ k:=Int.mul_nonneg h3 (Int.le_of_lt p)
 unfold vBin;simp only
 obtain⟨n,rfl⟩:=Int.eq_ofNat_of_zero_le h1
 obtain⟨m,rfl⟩:=Int.eq_ofNat_of_zero_le h3
 have e0:((m:Int)*2 ^ k).toNat=2 ^ k*m:=by
  have:(m:Int)*2 ^ k=((2 ^ k*m:Nat):Int):=by simp [Int.mul_comm]
  rw [this,Int.toNat_natCast]
 have hn:n < 2 ^ k:=by
  have:((2 ^ k:Nat):Int)=2 ^ k:=by simp
  omega
 rw [e0,Int.toNat_natCast,Nat.or_comm,← Nat.two_pow_add_eq_or_of_lt hn]
 have e1:((2 ^ k*m+n:Nat):Int)=(n:Int)+(m:Int)*2 ^ k:=by simp [Int.mul_comm,Int.add_comm]
 rw [e1]
 apply propext
 constructor
 ·exact fun q=>q.2
 ·exact fun q=>⟨⟨h1,h4⟩,q⟩
theorem b_mul {a b:Int} {H Q} (h1:-(2 ^ 62) < a) (h2:a < 2 ^ 62):vBin .mul (.int a) (.int b) H Q=Q (.int (a*b)) H:=by
 unfold vBin;simp only [h1,h2,and_self,true_and]
theorem b_mod {a b:Int} {H Q} (h:0 < b):vBin .mod (.int a) (.int b) H Q=Q (.int (a%b)) H:=by
 unfold vBin;simp only
 rw [Int.fmod_eq_emod_of_nonneg _ (Int.le_of_lt h)]
 apply propext
 constructor
 ·exact fun q=>q.2
 ·exact fun q=>⟨by omega,q⟩
theorem c_eq {a b:Int} {H} {Q:Bool→Prop}:vCmp .eq (.int a) (.int b) H Q=Q (decide (a=b)):=by simp [vCmp,eqA]
theorem c_ne {a b:Int} {H} {Q:Bool→Prop}:vCmp .ne (.int a) (.int b) H Q=Q (!decide (a=b)):=by simp [vCmp,eqA]
def upk (e:Int):List AV:=[.int (eKey e),.int (eMove e),.int (eVal e),.int (eDep e),.int (eBnd e),.int (eAge e)]
theorem up_1 {b e H Q}:vIdx (.ref b) (.int 1) (upd H b (.tup (upk e))) Q=Q (.int (eMove e)):=i_tup (k:=1) upd_eq rfl rfl
theorem up_2 {b e H Q}:vIdx (.ref b) (.int 2) (upd H b (.tup (upk e))) Q=Q (.int (eVal e)):=i_tup (k:=2) upd_eq rfl rfl
theorem up_3 {b e H Q}:vIdx (.ref b) (.int 3) (upd H b (.tup (upk e))) Q=Q (.int (eDep e)):=i_tup (k:=3) upd_eq rfl rfl
theorem up_4 {b e H Q}:vIdx (.ref b) (.int 4) (upd H b (.tup (upk e))) Q=Q (.int (eBnd e)):=i_tup (k:=4) upd_eq rfl rfl
theorem x_unpack {e:Int} (h:0≤e) {n:Nat} {H:AHeap} {Q X:EQ} {hd:Bool} (k:∀ a,H a=none→Q (.ref a) (upd H a (.tup (upk e)))):FW tT (n+1) hd 197 [.int e] H Q X:=by
 refine⟨rfl,?_⟩
 show vSs tT (FW tT n) ir_unpack_entry hd [.int e,.undef,.undef,.undef] H _ _
 unfold ir_unpack_entry
 have d (k:Nat):0≤e / 2 ^ k:=Int.ediv_nonneg h (Int.le_of_lt (Int.pow_pos (by decide)))
 simp only [vSs,vS,vE,vEs,LS,b_mask (k:=16) (b:=65535) h (by decide),b_shr (k:=16) (b:=16) rfl,b_shr (k:=32) (b:=32) rfl,b_shr (k:=40) (b:=40) rfl,b_shr (k:=42) (b:=42) rfl,b_shr (k:=48) (b:=48) rfl,
  b_mask (k:=16) (b:=65535) (d 16) (by decide),b_mask (k:=8) (b:=255) (d 32) (by decide),b_mask (k:=2) (b:=3) (d 40) (by decide),b_mask (k:=6) (b:=63) (d 42) (by decide),b_sub,b_add]
 intro a ha
 have:=k a ha
 have e1:e / 2 ^ 16%2 ^ 16 - 32767 - 1=eVal e:=by unfold eVal;omega
 have e2:e / 2 ^ 32%2 ^ 8 + -8=eDep e:=by unfold eDep;omega
 rw [e1,e2]
 exact this
def mkE (key move v d b age:Int):Int:=move+(v+32768)*2 ^ 16+(d+8)*2 ^ 32+b*2 ^ 40+age*2 ^ 42+key*2 ^ 48
structure EOk (key move v d b age:Int):Prop where
 k0:0≤key
 k1:key < 100
 m0:0≤move
 m1:move≤65535
 v0:-32767≤v
 v1:v≤32767
 d0:-8≤d
 d1:d≤247
 b0:0≤b
 b1:b≤3
 a0:0≤age
 a1:age < 64
theorem mkE_all {key move v d b age:Int} (o:EOk key move v d b age):0≤mkE key move v d b age∧eMove (mkE key move v d b age)=move∧eVal (mkE key move v d b age)=v∧eDep (mkE key move v d b age)=d∧eBnd (mkE key move v d b age)=b∧eAge (mkE key move v d b age)=age∧eKey (mkE key move v d b age)=key:=by
 obtain⟨k0,k1,m0,m1,v0,v1,d0,d1,b0,b1,a0,a1⟩:=o
 unfold mkE eMove eVal eDep eBnd eAge eKey
 refine⟨?_,?_,?_,?_,?_,?_,?_⟩ <;> omega
theorem withM {e m:Int} (h:0≤e) (h0:0≤m) (h1:m≤65535):0≤e - e%65536+m∧eMove (e - e%65536+m)=m∧eVal (e - e%65536+m)=eVal e∧eDep (e - e%65536+m)=eDep e∧eBnd (e - e%65536+m)=eBnd e∧eAge (e - e%65536+m)=eAge e∧eKey (e - e%65536+m)=eKey e:=by
 unfold eMove eVal eDep eBnd eAge eKey
 refine⟨?_,?_,?_,?_,?_,?_,?_⟩ <;> omega
theorem x_pack {key move v d b age:Int} (o:EOk key move v d b age) {n:Nat} {H:AHeap} {Q X:EQ} (k:Q (.int (mkE key move v d b age)) H):FW tT (n+1) false 190 [.int key,.int move,.int v,.int d,.int b,.int age] H Q X:=by
 refine⟨rfl,?_⟩
 obtain⟨k0,k1,m0,m1,v0,v1,d0,d1,b0,b1,a0,a1⟩:=o
 show vSs tT (FW tT n) ir_pack_entry false [.int key,.int move,.int v,.int d,.int b,.int age,.undef] H _ _
 unfold ir_pack_entry
 simp only [vSs,vS,vE,vEs,LS,c_lt,c_gt,c_ge,t_bool,DF,
  show ¬ (key < 0) by omega,show ¬ (move < 0) by omega,show ¬ (move > 65535) by omega,show ¬ (v < -32767) by omega,show ¬ (v > 32767) by omega,
  show ¬ (d < -8) by omega,show ¬ (d > 247) by omega,show ¬ (b < 0) by omega,show ¬ (b > 3) by omega,show ¬ (age < 0) by omega,show ¬ (age≥64) by omega,b_add,b_sub,
  b_shl (a:=v+32767+1) (b:=16) (k:=16) rfl (by omega) (by omega) (by omega),b_shl (a:=d - -8) (b:=32) (k:=32) rfl (by omega) (by omega) (by omega),
  b_shl (a:=b) (b:=40) (k:=40) rfl (by omega) (by omega) (by omega),b_shl (a:=age) (b:=42) (k:=42) rfl (by omega) (by omega) (by omega),b_shl (a:=key) (b:=48) (k:=48) rfl (by omega) (by omega) (by omega),
  b_or (a:=move) (b:=v+32767+1) (k:=16) (by omega) (by omega) (by omega),
  b_or (a:=move+(v+32767+1)*2 ^ 16) (b:=d - -8) (k:=32) (by omega) (by omega) (by omega),
  b_or (a:=move+(v+32767+1)*2 ^ 16+(d - -8)*2 ^ 32) (b:=b) (k:=40) (by omega) (by omega) (by omega),
  b_or (a:=move+(v+32767+1)*2 ^ 16+(d - -8)*2 ^ 32+b*2 ^ 40) (b:=age) (k:=42) (by omega) (by omega) (by omega),
  b_or (a:=move+(v+32767+1)*2 ^ 16+(d - -8)*2 ^ 32+b*2 ^ 40+age*2 ^ 42) (b:=key) (k:=48) (by omega) (by omega) (by omega)]
 have e:move+(v+32767+1)*2 ^ 16+(d - -8)*2 ^ 32+b*2 ^ 40+age*2 ^ 42+key*2 ^ 48=mkE key move v d b age:=by unfold mkE;omega
 rw [e];exact k
theorem x_with_move {e m:Int} (h:0≤e) {n:Nat} {H:AHeap} {Q X:EQ} (k:Q (.int (e - e%65536+m)) H):FW tT (n+1) false 232 [.int e,.int m] H Q X:=by
 refine⟨rfl,?_⟩
 show vSs tT (FW tT n) ir_with_move false [.int e,.int m] H _ _
 unfold ir_with_move
 simp only [vSs,vS,vE,LG,b_mask (k:=16) (b:=65535) h (by decide),b_sub,b_add]
 exact k
section
variable {A:Ad} {f:Cf} {G:Gm} {age:Int} {σ:Sg} {R H:AHeap}
theorem x_worth (S:SR A f G age σ R H) {e a:Int} (h:0≤e) {n:Nat} {Q X:EQ} (k:∀ H',SR A f G age σ R H'→Q (.int (eDep e - 8*((a - eAge e)%64))) H'):FW tT (n+2) false 211 [.int e,.int a] H Q X:=by
 refine⟨rfl,?_⟩
 show vSs tT (FW tT (n+1)) ir_worth false [.int e,.int a] H _ _
 unfold ir_worth
 have d (k:Nat):0≤e / 2 ^ k:=Int.ediv_nonneg h (Int.le_of_lt (Int.pow_pos (by decide)))
 simp only [vSs,vS,vE,vEs,LG]
 refine x_unpack h fun b hb=>?_
 have e1:(a - e / 2 ^ 42%2 ^ 6)%64=(a - eAge e)%64:=by unfold eAge;omega
 simp only [up_3,b_mask (k:=6) (b:=63) (d 42) (by decide),b_shr (k:=42) (b:=42) rfl,b_sub,b_mod (show(0:Int) < 64 by decide),
  b_mul (a:=8) (by decide) (by decide),e1]
 exact k _ (S.new hb)
theorem x_pushes_out (S:SR A f G age σ R H) {e dp b a:Int} (h:0≤e) {n:Nat} {Q X:EQ} (k:∀ H',SR A f G age σ R H'→Q (.bool (decide (b=3)||!decide (eAge e=a)||decide (dp > eDep e - 4))) H'):FW tT (n+2) false 225 [.int e,.int dp,.int b,.int a] H Q X:=by
 refine⟨rfl,?_⟩
 show vSs tT (FW tT (n+1)) ir_pushes_out false [.int e,.int dp,.int b,.int a] H _ _
 unfold ir_pushes_out
 have d (k:Nat):0≤e / 2 ^ k:=Int.ediv_nonneg h (Int.le_of_lt (Int.pow_pos (by decide)))
 have e1:e / 2 ^ 42%2 ^ 6=eAge e:=by unfold eAge;omega
 simp only [vSs,vS,vE,vEs,LG,c_eq,c_ne,t_bool,b_mask (k:=6) (b:=63) (d 42) (by decide),b_shr (k:=42) (b:=42) rfl,e1,decide_eq_true_eq]
 by_cases h1:b=3
 ·rw [if_pos h1];simp only [h1,DT];have:=k H S;simpa [h1] using this
 ·rw [if_neg h1]
  by_cases h2:eAge e=a
  ·simp only [h2,decide_true,Bool.not_true,if_false,Bool.false_eq_true]
   refine x_unpack h fun b' hb=>?_
   simp only [up_3,b_sub,c_gt]
   have:=k _ (S.new (o:=.tup (upk e)) hb)
   simpa [h1,h2] using this
  ·have:=k H S;simpa [h1,h2] using this
theorem ints_range' {s w:Nat}:iRng (s:Int) ((s:Int)+(w:Int))=nats (List.range' s w):=by
 unfold iRng nats
 rw [show((s:Int)+(w:Int) - (s:Int)).toNat=w by omega,List.range'_eq_map_range,List.map_map]
 apply List.map_congr_left
 intro k _
 simp only [Function.comp]
 congr 1
theorem r_nat {lo hi:Int} {s w:Nat} {K:Src→List AV→Prop} (e1:lo=(s:Int)) (e2:hi=(s:Int)+(w:Int)) (hs:s < 1000) (hw:w < 1000):vRange (.int lo) (.int hi) K=K .rng (nats (List.range' s w)):=by
 subst e1;subst e2
 unfold vRange;simp only
 rw [ints_range']
 apply propext
 constructor
 ·exact fun q=>q.2
 ·exact fun q=>⟨by unfold big lim;omega,q⟩
theorem nats_cons {x:Nat} {l:List Nat}:nats (x::l)=AV.int x::nats l:=rfl
theorem ints_at {sl:List Int} {k:Nat} {e:Int} {l:Nat} {H:AHeap} {Q:AV→Prop} (h:H l=some (.list (intsL sl))) (g:sl[k]? = some e):vIdx (.ref l) (.int (k:Int)) H Q=Q (.int e) :=
 i_list h (place_nat (by rw [ints_len];exact len_of g) rfl) (ints_get g)
theorem find_loop (sl:List Int) (key:Int):∀ (w s:Nat),s+w≤sl.length→∃ r:Option Nat,(∀ k,r=some k→s≤k∧k < s+w∧∃ e,sl[k]? = some e∧e≠0∧eKey e=key) ∧
  ∀ (n:Nat) (H:AHeap) (l:Nat) (st wy v4:AV) (Q:SQ) (X:SX),H l=some (.list (intsL sl))→(r=none→∀ v,Q .next [.ref l,st,wy,.int key,v] H)→(∀ k:Nat,r=some k→Q (.ret (.int k)) [.ref l,st,wy,.int key,.int k] H) →
   forL .rng 4 (fun ρ H K=>vSs tT (FW tT n) ir_find_slot_loop0 false ρ H K X) (nats (List.range' s w)) [.ref l,st,wy,.int key,v4] H Q
 | 0,s,h=>⟨none,by simp,fun n H l st wy v4 Q X hl h1 h2=>h1 rfl v4⟩
 | w+1,s,h=>by
  obtain⟨e,he⟩:=getSome (l:=sl) (k:=s) (by omega)
  obtain⟨r,r1,r2⟩:=find_loop sl key w (s+1) (by omega)
  by_cases c:e≠0∧eKey e=key
  ·refine⟨some s,fun k hk=>?_,fun n H l st wy v4 Q X hl h1 h2=>?_⟩
   ·cases hk;exact⟨by omega,by omega,e,he,c.1,c.2⟩
   ·have e1:e / 2 ^ 48=key:=by rw [← c.2];unfold eKey;omega
    simp only [List.range'_succ,nats_cons,forL,ir_find_slot_loop0,vSs,vS,vE,LS,ints_at hl he,c_ne,c_eq,t_bool,c.1,decide_false,Bool.not_false,if_true,b_shr (k:=48) (b:=48) rfl,e1,decide_true]
    exact h2 s rfl
  ·refine⟨r,fun k hk=>?_,fun n H l st wy v4 Q X hl h1 h2=>?_⟩
   ·obtain⟨a,b,c⟩:=r1 k hk;exact⟨by omega,by omega,c⟩
   ·have go:=r2 n H l st wy (.int s) Q X hl h1 h2
    have e1:eKey e=e / 2 ^ 48:=by unfold eKey;omega
    simp only [List.range'_succ,nats_cons,forL,ir_find_slot_loop0,vSs,vS,vE,LS,ints_at hl he,c_ne,c_eq,t_bool]
    by_cases d:e=0
    ·simp only [d,decide_true,Bool.not_true,DF];exact⟨trivial,go⟩
    ·have d2:¬ (e / 2 ^ 48=key):=fun q=>c ⟨d,by rw [e1,q]⟩
     simp only [d,decide_false,Bool.not_false,if_true,b_shr (k:=48) (b:=48) rfl,c_eq,t_bool,d2,DF];exact⟨trivial,go⟩
theorem x_find (sl:List Int) (key:Int) (s w:Nat) (h:s+w≤sl.length) (hs:s < 1000) (hw:w < 1000):∃ r:Option Nat,(∀ k,r=some k→s≤k∧k < s+w∧∃ e,sl[k]? = some e∧e≠0∧eKey e=key) ∧
  ∀ (n:Nat) (H:AHeap) (l:Nat) (Q X:EQ),H l=some (.list (intsL sl))→(r=none→Q (.int (-1)) H)→(∀ k:Nat,r=some k→Q (.int k) H)→FW tT (n+1) false 204 [.ref l,.int s,.int w,.int key] H Q X:=by
 obtain⟨r,r1,r2⟩:=find_loop sl key w s h
 refine⟨r,r1,fun n H l Q X hl h1 h2=>⟨rfl,?_⟩⟩
 show vSs tT (FW tT n) ir_find_slot false [.ref l,.int s,.int w,.int key,.undef] H _ _
 unfold ir_find_slot
 simp only [vSs,vS,vT,vE,LG,b_add,r_nat (K:=_) rfl rfl hs hw]
 refine⟨trivial,r2 n H l _ _ _ _ _ hl ?_ ?_⟩
 ·intro z v;simpa only [vSs,vS,vE] using h1 z
 ·intro k z;exact h2 k z
end
section
variable {A:Ad} {f:Cf} {G:Gm} {age:Int} {σ:Sg} {R H:AHeap}
theorem victim_loop (sl:List Int) (ag:Int) (hs:∀ e∈sl,0≤e):∀ (w s fd:Nat),s+w≤sl.length→fd < sl.length→∃ (r:Bool) (k:Nat),(k=fd∨s≤k∧k < s+w) ∧
  ∀ (n:Nat) (A:Ad) (f:Cf) (G:Gm) (age:Int) (σ:Sg) (R H:AHeap) (st wy v5:AV) (Q:SQ) (X:SX),f.tab.isSome=true→σ.slots=sl→SR A f G age σ R H →
   (∀ H',SR A f G age σ R H'→r=false→∀ v,Q .next [.ref A.ts,st,wy,.int ag,.int k,v] H')→(∀ H',SR A f G age σ R H'→r=true→∀ v v',Q (.ret (.int k)) [.ref A.ts,st,wy,.int ag,v,v'] H') →
   forL .rng 5 (fun ρ H K=>vSs tT (FW tT (n+2)) ir_victim_slot_loop0 false ρ H K X) (nats (List.range' s w)) [.ref A.ts,st,wy,.int ag,.int fd,v5] H Q
 | 0,s,fd,h,hf=>⟨false,fd,.inl rfl,fun n A f G age σ R H st wy v5 Q X ht hq S h1 h2=>h1 H S rfl v5⟩
 | w+1,s,fd,h,hf=>by
  obtain⟨e,he⟩:=getSome (l:=sl) (k:=s) (by omega)
  obtain⟨e',he'⟩:=getSome (l:=sl) (k:=fd) hf
  have p1:0≤e:=hs e (List.mem_of_getElem? he)
  have p2:0≤e':=hs e' (List.mem_of_getElem? he')
  by_cases c:e=0
  ·refine⟨true,s,.inr (by omega),fun n A f G age σ R H st wy v5 Q X ht hq S h1 h2=>?_⟩
   have hl:=S.dy.slots ht;rw [hq] at hl
   simp only [List.range'_succ,nats_cons,forL,ir_victim_slot_loop0,vSs,vS,vE,LS,ints_at hl he,c_eq,t_bool,c,DT]
   exact h2 H S rfl _ _
  ·have step:∀ (r:Bool) (k:Nat) (q:Nat),q < sl.length→(q=if eDep e - 8*((ag - eAge e)%64) < eDep e' - 8*((ag - eAge e')%64) then s else fd) →
    (∀ (n:Nat) (A:Ad) (f:Cf) (G:Gm) (age:Int) (σ:Sg) (R H:AHeap) (st wy v5:AV) (Q:SQ) (X:SX),f.tab.isSome=true→σ.slots=sl→SR A f G age σ R H →
   (∀ H',SR A f G age σ R H'→r=false→∀ v,Q .next [.ref A.ts,st,wy,.int ag,.int k,v] H')→(∀ H',SR A f G age σ R H'→r=true→∀ v v',Q (.ret (.int k)) [.ref A.ts,st,wy,.int ag,v,v'] H') →
   forL .rng 5 (fun ρ H K=>vSs tT (FW tT (n+2)) ir_victim_slot_loop0 false ρ H K X) (nats (List.range' (s+1) w)) [.ref A.ts,st,wy,.int ag,.int q,v5] H Q) →
    (∀ (n:Nat) (A:Ad) (f:Cf) (G:Gm) (age:Int) (σ:Sg) (R H:AHeap) (st wy v5:AV) (Q:SQ) (X:SX),f.tab.isSome=true→σ.slots=sl→SR A f G age σ R H →
   (∀ H',SR A f G age σ R H'→r=false→∀ v,Q .next [.ref A.ts,st,wy,.int ag,.int k,v] H')→(∀ H',SR A f G age σ R H'→r=true→∀ v v',Q (.ret (.int k)) [.ref A.ts,st,wy,.int ag,v,v'] H') →
   forL .rng 5 (fun ρ H K=>vSs tT (FW tT (n+2)) ir_victim_slot_loop0 false ρ H K X) (nats (List.range' s (w+1))) [.ref A.ts,st,wy,.int ag,.int fd,v5] H Q):=by
    intro r k q hq0 hq1 ih n A f G age σ R H st wy v5 Q X ht hq S h1 h2
    have hl:=S.dy.slots ht;rw [hq] at hl
    have go:=ih n A f G age σ R
    rw [List.range'_succ,nats_cons,forL]
    rw [ir_victim_slot_loop0]
    simp only [vSs,vS,vE,vEs,LS,ints_at hl he,c_eq,t_bool,c,DF]
    refine x_worth S p1 fun H1 S1=>?_
    have hl1:=S1.dy.slots ht;rw [hq] at hl1
    simp only [ints_at hl1 he']
    refine x_worth S1 p2 fun H2 S2=>?_
    simp only [c_lt,t_bool,decide_eq_true_eq]
    by_cases d:eDep e - 8*((ag - eAge e)%64) < eDep e' - 8*((ag - eAge e')%64)
    ·rw [if_pos d] at hq1 ⊢;subst hq1
     exact⟨trivial,go H2 st wy _ Q X ht hq S2 h1 h2⟩
    ·rw [if_neg d] at hq1 ⊢;subst hq1
     exact⟨trivial,go H2 st wy _ Q X ht hq S2 h1 h2⟩
   by_cases d:eDep e - 8*((ag - eAge e)%64) < eDep e' - 8*((ag - eAge e')%64)
   ·obtain⟨r,k,k1,k2⟩:=victim_loop sl ag hs w (s+1) s (by omega) (by omega)
    exact⟨r,k,by omega,step r k s (by omega) (by rw [if_pos d]) k2⟩
   ·obtain⟨r,k,k1,k2⟩:=victim_loop sl ag hs w (s+1) fd (by omega) hf
    exact⟨r,k,by omega,step r k fd hf (by rw [if_neg d]) k2⟩
theorem x_victim (sl:List Int) (ag:Int) (hs:∀ e∈sl,0≤e) (s w:Nat) (h:s+w≤sl.length) (h0:0 < w) (h1:s < 1000) (h2:w < 1000):∃ k:Nat,s≤k∧k < s+w ∧
  ∀ (n:Nat) (A:Ad) (f:Cf) (G:Gm) (age:Int) (σ:Sg) (R H:AHeap) (Q X:EQ),f.tab.isSome=true→σ.slots=sl→SR A f G age σ R H→(∀ H',SR A f G age σ R H'→Q (.int k) H') →
   FW tT (n+3) false 218 [.ref A.ts,.int s,.int w,.int ag] H Q X:=by
 obtain⟨r,k,k1,k2⟩:=victim_loop sl ag hs w s s h (by omega)
 refine⟨k,by omega,by omega,fun n A f G age σ R H Q X ht hq S hh=>⟨rfl,?_⟩⟩
 show vSs tT (FW tT (n+2)) ir_victim_slot false [.ref A.ts,.int s,.int w,.int ag,.undef,.undef] H _ _
 unfold ir_victim_slot
 simp only [vSs,vS,vT,vE,LS,b_add,r_nat (K:=_) rfl rfl h1 h2]
 refine⟨trivial,k2 n A f G age σ R H _ _ _ _ _ ht hq S ?_ ?_⟩
 ·intro H' S' z v;simpa only [vSs,vS,vE,LG] using hh H' S'
 ·intro H' S' z v v';exact hh H' S'
end
end Bn
namespace Bn
open Bm
def TOk (V:Int→Int→Int→Int→Prop) (sl:List Int):Prop:=∀ e∈sl,0≤e∧(e≠0→V (eKey e) (eVal e) (eDep e) (eBnd e))
theorem TOk.set {V sl} (h:TOk V sl) {e:Int} (h0:0≤e) (h1:V (eKey e) (eVal e) (eDep e) (eBnd e)) (k:Nat):TOk V (sl.set k e):=fun q m=>by
 rcases List.mem_or_eq_of_mem_set m with m | m
 ·exact h q m
 ·subst m;exact⟨h0,fun _=>h1⟩
theorem eMove_rng (e:Int):0≤eMove e∧eMove e≤65535:=by unfold eMove;omega
structure TS (f:Cf) (cl w:Nat) (sl:List Int):Prop where
 tab:f.tab=some (cl,w)
 c0:0 < cl
 w0:0 < w
 c1:cl≤2
 w1:w≤2
 len:sl.length=cl*w
theorem TS.lt {f cl w sl} (t:TS f cl w sl) (key:Nat):key%cl*w+w≤sl.length:=by
 rw [t.len]
 have:=Nat.mod_lt key t.c0
 calc key%cl*w+w=(key%cl+1)*w:=by rw [Nat.add_mul,Nat.one_mul]
  _≤cl*w:=Nat.mul_le_mul_right w this
theorem TS.sm {f cl w sl} (t:TS f cl w sl) (key:Nat):key%cl*w < 1000:=by
 have h1:=t.lt key
 have h2:=t.len
 have h3:cl*w≤2*2:=Nat.mul_le_mul t.c1 t.w1
 omega
section
variable {A:Ad} {f:Cf} {G:Gm} {age:Int} {σ:Sg} {R H:AHeap}
theorem tab_at (S:SR A f G age σ R H) {cl w:Nat} (e:f.tab=some (cl,w)) {n:String} {v:AV} (g:fget (tabFs A cl w age) n=some v) (t:tT.att 284 n=true) (k:v≠.undef) {Q:AV→Prop}:vAttr tT (.ref A.t) n H Q=Q v :=
 a_get (S.st.tab cl w e).1 t g k
theorem start_eq {key cl w:Nat}:(key:Int)%(cl:Int)*(w:Int)=((key%cl*w:Nat):Int):=by simp
theorem x_probe {V} {cl w:Nat} {sl:List Int} (t:TS f cl w sl) (hV:TOk V sl) (key:Nat):∃ r:Option (Int×Int×Int×Int),(∀ m v d b,r=some (m,v,d,b)→0≤m∧m≤65535∧V key v d b) ∧
  ∀ (n:Nat) (A:Ad) (most:Int) (G:Gm) (age:Int) (σ:Sg) (R H:AHeap) (Q X:EQ),σ.slots=sl→SR A { f with most:=most } G age σ R H →
   (r=none→Q .none H)→(∀ m v d b H1 a,r=some (m,v,d,b)→SR A { f with most:=most } G age σ R H1→H1 a=none→Q (.ref a) (upd H1 a (.tup [.int m,.int v,.int d,.int b]))) →
   FW tT (n+2) false 253 [.ref A.t,.int key] H Q X:=by
 obtain⟨r,r1,r2⟩:=x_find sl (key:Int) (key%cl*w) w (t.lt key) (t.sm key) (by have:=t.w1;omega)
 have go:∀ (n:Nat) (A:Ad) (most:Int) (G:Gm) (age:Int) (σ:Sg) (R H:AHeap) (Q X:EQ),σ.slots=sl→SR A { f with most:=most } G age σ R H →
   (r=none→Q .none H)→(∀ (k:Nat) e,r=some k→sl[k]? = some e→∀ H1 a,SR A { f with most:=most } G age σ R H1→H1 a=none→Q (.ref a) (upd H1 a (.tup [.int (eMove e),.int (eVal e),.int (eDep e),.int (eBnd e)]))) →
   FW tT (n+2) false 253 [.ref A.t,.int key] H Q X:=by
  intro n A most G age σ R H Q X hq S h1 h2
  have ht:({ f with most:=most }:Cf).tab=some (cl,w):=t.tab
  have hl:=S.dy.slots (by rw [ht];rfl);rw [hq] at hl
  refine⟨rfl,?_⟩
  show vSs tT (FW tT (n+1)) ir_TransTable_probe false [.ref A.t,.int key,.undef,.undef] H _ _
  unfold ir_TransTable_probe
  simp only [vSs,vS,vE,vEs,LS,tab_at S ht (n:="slots") rfl rfl (by simp),tab_at S ht (n:="clusters") rfl rfl (by simp),tab_at S ht (n:="ways") rfl rfl (by simp),
   b_mod (show(0:Int) < (cl:Int) by have:=t.c0;omega),b_mul (a:=(key:Int)%(cl:Int)) (b:=(w:Int)) (by have:=Int.emod_nonneg (key:Int) (show(cl:Int)≠0 by have:=t.c0;omega);omega) (by have:=Int.emod_lt_of_pos (key:Int) (show(0:Int) < (cl:Int) by have:=t.c0;omega);have:=t.c1;omega),start_eq]
  refine r2 n H A.ts _ _ hl ?_ ?_
  ·intro z
   simp only [c_lt,t_bool,show((-1:Int) < 0) by decide,DT]
   exact h1 z
  ·intro k z
   obtain⟨_,_,e,he,e0,ek⟩:=r1 k z
   have p:=(hV e (List.mem_of_getElem? he)).1
   simp only [c_lt,t_bool,show ¬ ((k:Int) < 0) by omega,DF,tab_at S ht (n:="slots") rfl rfl (by simp),ints_at hl he]
   refine x_unpack p fun b hb=>?_
   simp only [LS,up_1,up_2,up_3,up_4]
   intro a ha
   exact h2 k e z he _ a (S.new hb) ha
 cases hr:r with
 | none=>exact⟨none,by simp,fun n A most G age σ R H Q X hq S h1 h2=>go n A most G age σ R H Q X hq S (fun _=>h1 rfl) fun k e z=>by rw [hr] at z;cases z⟩
 | some k =>
  obtain⟨_,_,e,he,e0,ek⟩:=r1 k hr
  refine⟨some (eMove e,eVal e,eDep e,eBnd e),?_,fun n A most G age σ R H Q X hq S h1 h2=>go n A most G age σ R H Q X hq S (fun z=>by rw [hr] at z;cases z) fun k' e' z he' H1 a S1 ha=>?_⟩
  ·rintro m v d b z;cases z
   exact⟨(eMove_rng e).1,(eMove_rng e).2,by rw [← ek];exact(hV e (List.mem_of_getElem? he)).2 e0⟩
  ·rw [hr] at z;cases z
   rw [he] at he';cases he'
   exact h2 _ _ _ _ H1 a rfl S1 ha
theorem x_save {V} {cl w:Nat} {sl:List Int} (t:TS f cl w sl) (hV:TOk V sl) (key:Nat) {m v d b:Int} (o:EOk key m v d b age) (hv:V key v d b):∃ sl',TS f cl w sl'∧TOk V sl' ∧
  ∀ (n:Nat) (A:Ad) (most:Int) (G:Gm) (σ:Sg) (R H:AHeap) (Q X:EQ),σ.slots=sl→SR A { f with most:=most } G age σ R H →
   (∀ H',SR A { f with most:=most } G age { σ with slots:=sl' } R H'→Q .none H') →
   FW tT (n+4) false 260 [.ref A.t,.int key,.int m,.int v,.int d,.int b] H Q X:=by
 obtain⟨r,r1,r2⟩:=x_find sl (key:Int) (key%cl*w) w (t.lt key) (t.sm key) (by have:=t.w1;omega)
 obtain⟨vk,v1,v2,v3⟩:=x_victim sl age (fun e he=>(hV e he).1) (key%cl*w) w (t.lt key) t.w0 (t.sm key) (by have:=t.w1;omega)
 obtain⟨p0,p1,p2,p3,p4,p5,p6⟩:=mkE_all o
 have hlt:=t.lt key
 have tset:∀ k e,TS f cl w (sl.set k e):=fun k e=>⟨t.tab,t.c0,t.w0,t.c1,t.w1,by rw [List.length_set];exact t.len⟩
 have pre:∀ (n:Nat) (A:Ad) (most:Int) (G:Gm) (σ:Sg) (R H:AHeap) (Q X:EQ),σ.slots=sl→SR A { f with most:=most } G age σ R H →
   (∀ Q2 X2,(r=none→Q2 (.int (-1)) H)→(∀ k:Nat,r=some k→Q2 (.int k) H)→FW tT (n+3) false 204 [.ref A.ts,.int ((key%cl*w:Nat):Int),.int w,.int key] H Q2 X2) :=
  fun n A most G σ R H Q X hq S Q2 X2 h1 h2=>r2 (n+2) H A.ts Q2 X2 (by have:=S.dy.slots (by show f.tab.isSome=true;rw [t.tab];rfl);rw [hq] at this;exact this) h1 h2
 cases hr:r with
 | none =>
  refine⟨sl.set vk (mkE key m v d b age),tset _ _,hV.set p0 (by rw [p6,p2,p3,p4];exact hv) vk,fun n A most G σ R H Q X hq S h1=>⟨rfl,?_⟩⟩
  have ht:({ f with most:=most }:Cf).tab=some (cl,w):=t.tab
  have hl:=S.dy.slots (by rw [ht];rfl);rw [hq] at hl
  show vSs tT (FW tT (n+3)) ir_TransTable_save false [.ref A.t,.int key,.int m,.int v,.int d,.int b,.undef,.undef,.undef,.undef] H _ _
  unfold ir_TransTable_save
  simp only [vSs,vS,vE,vEs,LS,tab_at S ht (n:="age") rfl rfl (by simp)]
  refine x_pack o ?_
  simp only [vSs,vS,vE,vEs,LS,tab_at S ht (n:="slots") rfl rfl (by simp),tab_at S ht (n:="clusters") rfl rfl (by simp),tab_at S ht (n:="ways") rfl rfl (by simp),
   b_mod (show(0:Int) < (cl:Int) by have:=t.c0;omega),b_mul (a:=(key:Int)%(cl:Int)) (b:=(w:Int)) (by have:=Int.emod_nonneg (key:Int) (show(cl:Int)≠0 by have:=t.c0;omega);omega) (by have:=Int.emod_lt_of_pos (key:Int) (show(0:Int) < (cl:Int) by have:=t.c0;omega);have:=t.c1;omega),start_eq]
  refine pre n A most G σ R H Q X hq S _ _ (fun _=>?_) (fun k z=>by rw [hr] at z;cases z)
  simp only [c_lt,t_bool,show((-1:Int) < 0) by decide,DT,tab_at S ht (n:="slots") rfl rfl (by simp),tab_at S ht (n:="ways") rfl rfl (by simp),tab_at S ht (n:="age") rfl rfl (by simp)]
  refine v3 n A _ G age σ R H _ _ (by rw [ht];rfl) hq S fun H1 S1=>?_
  have hl1:=S1.dy.slots (by rw [ht];rfl);rw [hq] at hl1
  simp only [LS,tab_at S1 ht (n:="slots") rfl rfl (by simp),s_list hl1 rfl (show vk < (intsL sl).length by rw [ints_len];omega),lset_ints]
  exact h1 _ (S1.setSlots _)
 | some k =>
  obtain⟨k1,k2,e,he,e0,ek⟩:=r1 k hr
  have q0:=(hV e (List.mem_of_getElem? he)).1
  have qv:=(hV e (List.mem_of_getElem? he)).2 e0
  have em:=eMove_rng e
  obtain⟨en,hen,n0,nv⟩:∃ en:Int,(en=if m=0 then mkE key m v d b age - mkE key m v d b age%65536+e%65536 else mkE key m v d b age)∧0≤en∧V (eKey en) (eVal en) (eDep en) (eBnd en):=by
   refine⟨_,rfl,?_⟩
   by_cases c:m=0
   ·rw [if_pos c]
    obtain⟨a1,a2,a3,a4,a5,a6,a7⟩:=withM p0 em.1 em.2
    have e1:e%65536=eMove e:=rfl
    rw [e1]
    exact⟨a1,by rw [a7,a3,a4,a5,p6,p2,p3,p4];exact hv⟩
   ·rw [if_neg c];exact⟨p0,by rw [p6,p2,p3,p4];exact hv⟩
  have nm:=eMove_rng en
  obtain⟨f1,f2,f3,f4,f5,f6,f7⟩:=withM q0 nm.1 nm.2
  have pu:(e - e%65536+eMove en)=e - e%65536+en%65536:=rfl
  rw [pu] at f1 f2 f3 f4 f5 f6 f7
  let g:Bool:=(decide (b=3)||!decide (eAge e=age)||decide (d > eDep e - 4))
  refine⟨if g=true then sl.set k en else sl.set k (e - e%65536+en%65536),?_,?_,fun n A most G σ R H Q X hq S h1=>⟨rfl,?_⟩⟩
  ·split <;> exact tset _ _
  ·split
   ·exact hV.set n0 nv k
   ·exact hV.set f1 (by rw [f7,f3,f4,f5];exact qv) k
  have ht:({ f with most:=most }:Cf).tab=some (cl,w):=t.tab
  have hl:=S.dy.slots (by rw [ht];rfl);rw [hq] at hl
  have kl:k < (intsL sl).length:=by rw [ints_len];omega
  show vSs tT (FW tT (n+3)) ir_TransTable_save false [.ref A.t,.int key,.int m,.int v,.int d,.int b,.undef,.undef,.undef,.undef] H _ _
  unfold ir_TransTable_save
  simp only [vSs,vS,vE,vEs,LS,tab_at S ht (n:="age") rfl rfl (by simp)]
  refine x_pack o ?_
  simp only [vSs,vS,vE,vEs,LS,tab_at S ht (n:="slots") rfl rfl (by simp),tab_at S ht (n:="clusters") rfl rfl (by simp),tab_at S ht (n:="ways") rfl rfl (by simp),
   b_mod (show(0:Int) < (cl:Int) by have:=t.c0;omega),b_mul (a:=(key:Int)%(cl:Int)) (b:=(w:Int)) (by have:=Int.emod_nonneg (key:Int) (show(cl:Int)≠0 by have:=t.c0;omega);omega) (by have:=Int.emod_lt_of_pos (key:Int) (show(0:Int) < (cl:Int) by have:=t.c0;omega);have:=t.c1;omega),start_eq]
  refine pre n A most G σ R H Q X hq S _ _ (fun z=>by rw [hr] at z;cases z) (fun k' z=>?_)
  rw [hr] at z;cases z
  simp only [c_lt,t_bool,show ¬ ((k:Int) < 0) by omega,DF,tab_at S ht (n:="slots") rfl rfl (by simp),ints_at hl he,LS,c_eq]
  have fin:∀ (v0 v1 v2 v3 v4 v5:AV) H1,SR A { f with most:=most } G age σ R H1→vSs tT (FW tT (n+3)) (.cons (.ite (.call 225 (.cons (.loc 9) (.cons (.loc 4) (.cons (.loc 5) (.cons (.attr (.loc 0) "age") .nil))))) (.cons (.setI (.attr (.loc 0) "slots") (.loc 8) (.loc 6)) .nil) (.cons (.setI (.attr (.loc 0) "slots") (.loc 8) (.call 232 (.cons (.loc 9) (.cons (.bin .band (.loc 6) (.c (.int 65535))) .nil)))) .nil)) .nil) false
    [.ref A.t,v1,v2,v3,.int d,.int b,.int en,v4,.int k,.int e] H1 (fun fl _ H'=>match fl with | .ret v=>Q v H' | .next=>Q .none H' | _=>False) (fun k _ H'=>X k H'):=by
   intro v0 v1 v2 v3 v4 v5 H1 S1
   simp only [vSs,vS,vE,vEs,LG,tab_at S1 ht (n:="age") rfl rfl (by simp)]
   refine x_pushes_out S1 q0 fun H2 S2=>?_
   have hl2:=S2.dy.slots (by rw [ht];rfl);rw [hq] at hl2
   simp only [t_bool]
   by_cases hg:g=true
   ·rw [if_pos hg]
    rw [if_pos hg] at h1
    simp only [tab_at S2 ht (n:="slots") rfl rfl (by simp),s_list hl2 rfl kl,lset_ints]
    exact h1 _ (S2.setSlots _)
   ·rw [if_neg hg]
    rw [if_neg hg] at h1
    simp only [b_mask (k:=16) (b:=65535) n0 (by decide)]
    refine x_with_move q0 ?_
    simp only [tab_at S2 ht (n:="slots") rfl rfl (by simp),s_list hl2 rfl kl,lset_ints]
    exact h1 _ (S2.setSlots _)
  by_cases c:m=0
  ·rw [if_pos c] at hen
   simp only [c,DT,b_mask (k:=16) (b:=65535) q0 (by decide)]
   subst c
   refine x_with_move p0 ?_
   simp only [LT]
   rw [← show en=mkE key 0 v d b age - mkE key 0 v d b age%65536+e%2 ^ 16 from hen]
   exact fin .none (.int key) (.int 0) (.int v) (.int ((key%cl*w:Nat):Int)) .none _ S
  ·rw [if_neg c] at hen
   simp only [c,DF]
   rw [← hen]
   exact fin .none (.int key) (.int m) (.int v) (.int ((key%cl*w:Nat):Int)) .none _ S
end
end Bn
namespace Bn
open Bm
section
variable {A:Ad} {f:Cf} {G:Gm} {age:Int} {σ:Sg} {R H:AHeap}
theorem Rows.ne {H:AHeap} {F:Nat→Prop} {a:Nat} {q:AO} (h:H a=some q) (hq:∀ xs,q≠.list xs) {o:AO}:∀ {as:List Nat} {rs:List (List AV)},Rows H F as rs→Rows (upd H a o) F as rs
 | [],[],_=>trivial
 | b::as,r::rs,⟨h1,h2,h3⟩=>⟨upd_some h1 fun n=>(by rw [n,h] at h1;cases h1;exact hq _ rfl),h2,Rows.ne h hq h3⟩
 | [],_::_,h=>h.elim
 | _::_,[],h=>h.elim
theorem st_ne {A:Ad} {f:Cf} {G:Gm} {F:Nat→Prop} {H:AHeap} {age age':Int} {cl w:Nat} (e:f.tab=some (cl,w)) (S:Stat A f G age F H)
  (n1:A.t≠A.kl) (n2:A.t≠A.hs) (n3:A.t≠A.g):Stat A f G age' F (upd H A.t (.obj 284 (tabFs A cl w age'))):=by
 have ht:=(S.tab cl w e).1
 have q:∀ xs,AO.obj 284 (tabFs A cl w age)≠.list xs:=fun xs z=>by cases z
 have k:∀ b xs,H b=some (AO.list xs)→upd H A.t (.obj 284 (tabFs A cl w age')) b=some (.list xs):=fun b xs h=>upd_some h fun n=>by rw [n,ht] at h;cases h
 refine⟨⟨upd_some S.game.1 n3.symm,S.game.2⟩,⟨k _ _ S.ch.1,S.ch.2⟩,⟨k _ _ S.va.1,S.va.2⟩,⟨k _ _ S.ck.1,S.ck.2⟩,⟨k _ _ S.dr.1,S.dr.2⟩,⟨k _ _ S.no.1,S.no.2⟩,⟨k _ _ S.ga.1,S.ga.2⟩,
  S.chR.ne ht q,S.noR.ne ht q,S.gaR.ne ht q,fun cl' w' e'=>?_,fun e'=>⟨upd_some (S.kil e').1 n1.symm,(S.kil e').2⟩,fun e'=>⟨upd_some (S.his e').1 n2.symm,(S.his e').2⟩⟩
 rw [e] at e';cases e';exact⟨upd_eq,(S.tab cl w e).2⟩
theorem x_new_search (S:SR A f G age σ R H) {cl w:Nat} (e:f.tab=some (cl,w)) {n:Nat} {Q X:EQ}
  (h:∀ H',SR A f G ((age+1)%64) σ R H'→Q .none H'):FW tT (n+1) false 267 [.ref A.t] H Q X:=by
 refine⟨rfl,?_⟩
 show vSs tT (FW tT n) ir_TransTable_new_search false [.ref A.t] H _ _
 unfold ir_TransTable_new_search
 have ht:=S.st.tab cl w e
 have s:∀ v,fset (tabFs A cl w age) "age" (.int v)=tabFs A cl w v:=fun _=>rfl
 simp only [vSs,vS,vE,lget_0,tab_at S e (n:="age") rfl rfl (by simp),b_add,b_mod (show(0:Int) < 64 by decide),a_set ht.1 (show tT.att 284 "age" = true from rfl) (show(tabFs A cl w age).length < 100 by show 4 < 100;decide),s]
 refine h _ ?_
 have n1:A.t∉A.chg:=ht.2.1
 have rn:R A.t=none:=ht.2.2
 have c:∀ b∈A.chg,b≠A.t:=fun b m z=>n1 (by rw [← z];exact m)
 have ne:∀ {C fs b},H b=some (.obj C fs)→C≠284→A.t≠b:=fun h h2 z=>by rw [← z,ht.1] at h;cases h;exact h2 rfl
 obtain⟨ls,l1,l2⟩:=S.dy.lines
 refine⟨?_,⟨(upd_ne (c _ (by simp [Ad.chg]))).trans S.dy.ctx,(upd_ne (c _ (by simp [Ad.chg]))).trans S.dy.path,⟨ls,(upd_ne (c _ (by simp [Ad.chg]))).trans l1,l2.ne ht.1 (fun xs z=>by cases z)⟩,fun e=>(upd_ne (c _ (by simp [Ad.chg]))).trans (S.dy.slots e),
  fun e=>(upd_ne (c _ (by simp [Ad.chg]))).trans (S.dy.first e),fun e=>(upd_ne (c _ (by simp [Ad.chg]))).trans (S.dy.second e),fun e=>(upd_ne (c _ (by simp [Ad.chg]))).trans (S.dy.scores e)⟩,S.nd,fun b m=>?_,fun b o z=>upd_some (S.sub b o z) fun q=>by rw [q,rn] at z;cases z⟩
 ·have n3:=ne S.st.game.1 (by decide)
  by_cases k:f.kh=true
  ·exact st_ne e S.st (ne (S.st.kil k).1 (by decide)) (ne (S.st.his k).1 (by decide)) n3
  ·have k':f.kh=false:=by simpa using k
   refine⟨⟨upd_some S.st.game.1 n3.symm,S.st.game.2⟩,?_,?_,?_,?_,?_,?_,S.st.chR.ne ht.1 (fun xs z=>by cases z),S.st.noR.ne ht.1 (fun xs z=>by cases z),S.st.gaR.ne ht.1 (fun xs z=>by cases z),?_,fun z=>absurd z k,fun z=>absurd z k⟩
   ·exact⟨upd_some S.st.ch.1 fun n=>(by have:=S.st.ch.1;rw [n,ht.1] at this;cases this),S.st.ch.2⟩
   ·exact⟨upd_some S.st.va.1 fun n=>(by have:=S.st.va.1;rw [n,ht.1] at this;cases this),S.st.va.2⟩
   ·exact⟨upd_some S.st.ck.1 fun n=>(by have:=S.st.ck.1;rw [n,ht.1] at this;cases this),S.st.ck.2⟩
   ·exact⟨upd_some S.st.dr.1 fun n=>(by have:=S.st.dr.1;rw [n,ht.1] at this;cases this),S.st.dr.2⟩
   ·exact⟨upd_some S.st.no.1 fun n=>(by have:=S.st.no.1;rw [n,ht.1] at this;cases this),S.st.no.2⟩
   ·exact⟨upd_some S.st.ga.1 fun n=>(by have:=S.st.ga.1;rw [n,ht.1] at this;cases this),S.st.ga.2⟩
   ·intro cl' w' e';rw [e] at e';cases e';exact⟨upd_eq,ht.2⟩
 ·rw [upd_ne (c b m)];exact S.al b m
theorem kil_at (S:SR A f G age σ R H) (k:f.kh=true) {n:String} {v:AV} (g:fget [("plies",AV.int 3),("first",.ref A.k1),("second",.ref A.k2)] n=some v) (t:tT.att 389 n=true) (z:v≠.undef) {Q:AV→Prop}:vAttr tT (.ref A.kl) n H Q=Q v :=
 a_get (S.st.kil k).1 t g z
theorem his_at (S:SR A f G age σ R H) (k:f.kh=true) {n:String} {v:AV} (g:fget [("limit",AV.int 400),("scores",.ref A.hd)] n=some v) (t:tT.att 347 n=true) (z:v≠.undef) {Q:AV→Prop}:vAttr tT (.ref A.hs) n H Q=Q v :=
 a_get (S.st.his k).1 t g z
theorem set_id {α:Type}:∀ {l:List α} {k:Nat} {x:α},l[k]? = some x→l.set k x=l
 | [],k,x,h=>by simp at h
 | y::l,0,x,h=>by simp at h;simp [h]
 | y::l,k+1,x,h=>by simp at h;simp [set_id h]
theorem x_kclear (S:SR A f G age σ R H) (k:f.kh=true) (h1:σ.first.length=3) (h2:σ.second.length=3) {p:Nat} {n:Nat} {Q X:EQ}
  (h:∀ H',SR A f G age { σ with first:=if p < 3 then σ.first.set p 0 else σ.first,second:=if p < 3 then σ.second.set p 0 else σ.second } R H'→Q .none H'):FW tT (n+1) false 386 [.ref A.kl,.int p] H Q X:=by
 refine⟨rfl,?_⟩
 show vSs tT (FW tT n) ir_Killers_clear false [.ref A.kl,.int p] H _ _
 unfold ir_Killers_clear
 by_cases c:p < 3
 ·rw [if_pos c,if_pos c] at h
  simp only [vSs,vS,vE,LG,kil_at S k (n:="plies") rfl rfl (by simp),c_lt,t_bool,show((p:Int) < 3) by omega,DT,kil_at S k (n:="first") rfl rfl (by simp),
   s_list (S.dy.first k) rfl (show p < (intsL σ.first).length by rw [ints_len];omega),lset_ints]
  have S1:=S.setFirst (σ.first.set p 0)
  simp only [kil_at S1 k (n:="second") rfl rfl (by simp),s_list (S1.dy.second k) rfl (show p < (intsL σ.second).length by rw [ints_len];omega),lset_ints]
  exact h _ (S1.setSecond _)
 ·rw [if_neg c,if_neg c] at h
  simp only [vSs,vS,vE,LG,kil_at S k (n:="plies") rfl rfl (by simp),c_lt,t_bool,show ¬ ((p:Int) < 3) by omega,DF]
  exact h _ S
theorem x_kadd (sf ss:List Int) (h1:sf.length=3) (h2:ss.length=3) (p:Nat) (m:Int):∃ sf' ss':List Int,sf'.length=3∧ss'.length=3 ∧
  ∀ (n:Nat) (A:Ad) (f:Cf) (G:Gm) (age:Int) (σ:Sg) (R H:AHeap) (Q X:EQ),f.kh=true→σ.first=sf→σ.second=ss→SR A f G age σ R H →
   (∀ H',SR A f G age { σ with first:=sf',second:=ss' } R H'→Q .none H')→FW tT (n+1) false 372 [.ref A.kl,.int p,.int m] H Q X:=by
 by_cases c:p < 3
 ·obtain⟨x,hx⟩:=getSome (l:=sf) (k:=p) (by omega)
  by_cases d:x=m
  ·refine⟨sf,ss,h1,h2,fun n A f G age σ R H Q X k e1 e2 S h=>⟨rfl,?_⟩⟩
   show vSs tT (FW tT n) ir_Killers_add false [.ref A.kl,.int p,.int m] H _ _
   unfold ir_Killers_add
   have hf:=S.dy.first k;rw [e1] at hf
   simp only [vSs,vS,vE,LG,kil_at S k (n:="plies") rfl rfl (by simp),c_lt,c_ne,t_bool,show((p:Int) < 3) by omega,DT,kil_at S k (n:="first") rfl rfl (by simp),ints_at hf hx,d,Bool.not_true,DF]
   have:=h H
   rw [← e1,← e2] at this
   exact this S
  ·refine⟨sf.set p m,ss.set p x,by simp [h1],by simp [h2],fun n A f G age σ R H Q X k e1 e2 S h=>⟨rfl,?_⟩⟩
   show vSs tT (FW tT n) ir_Killers_add false [.ref A.kl,.int p,.int m] H _ _
   unfold ir_Killers_add
   have hf:=S.dy.first k;rw [e1] at hf
   have hs:=S.dy.second k;rw [e2] at hs
   simp only [vSs,vS,vE,LG,kil_at S k (n:="plies") rfl rfl (by simp),c_lt,c_ne,t_bool,show((p:Int) < 3) by omega,DT,kil_at S k (n:="first") rfl rfl (by simp),kil_at S k (n:="second") rfl rfl (by simp),ints_at hf hx,d,decide_false,Bool.not_false,
    s_list hs rfl (show p < (intsL ss).length by rw [ints_len];omega),lset_ints]
   have S1:=S.setSecond (ss.set p x)
   have hf1:=S1.dy.first k
   have e1':({ σ with second:=ss.set p x }:Sg).first=sf:=e1
   rw [e1'] at hf1
   simp only [kil_at S1 k (n:="first") rfl rfl (by simp),s_list hf1 rfl (show p < (intsL sf).length by rw [ints_len];omega),lset_ints]
   exact h _ (S1.setFirst _)
 ·refine⟨sf,ss,h1,h2,fun n A f G age σ R H Q X k e1 e2 S h=>⟨rfl,?_⟩⟩
  show vSs tT (FW tT n) ir_Killers_add false [.ref A.kl,.int p,.int m] H _ _
  unfold ir_Killers_add
  simp only [vSs,vS,vE,LG,kil_at S k (n:="plies") rfl rfl (by simp),c_lt,t_bool,show ¬ ((p:Int) < 3) by omega,DF]
  have:=h H
  rw [← e1,← e2] at this
  exact this S
def kpr (kh:Bool) (sf ss:List Int) (p:Nat):Int×Int:=if kh=true∧p < 3 then((sf[p]?).getD 0,(ss[p]?).getD 0) else(0,0)
theorem is_ref {a:Nat} {H} {Q:Bool→Prop}:vCmp .is (.ref a) .none H Q=Q false:=rfl
theorem is_none {H} {Q:Bool→Prop}:vCmp .is .none .none H Q=Q true:=rfl
theorem is_int {a:Int} {H} {Q:Bool→Prop}:vCmp .is (.int a) .none H Q=Q false:=rfl
theorem isn_ref {a:Nat} {H} {Q:Bool→Prop}:vCmp .isnot (.ref a) .none H Q=Q true:=rfl
theorem isn_none {H} {Q:Bool→Prop}:vCmp .isnot .none .none H Q=Q false:=rfl
theorem isn_int {a:Int} {H} {Q:Bool→Prop}:vCmp .isnot (.int a) .none H Q=Q true:=rfl
theorem x_killer_pair (S:SR A f G age σ R H) (h1:f.kh=true→σ.first.length=3∧σ.second.length=3) {p n:Nat} {Q X:EQ}
  (h:∀ a,H a=none→Q (.ref a) (upd H a (.tup [.int (kpr f.kh σ.first σ.second p).1,.int (kpr f.kh σ.first σ.second p).2]))):FW tT (n+2) false 407 [kilV A f,.int p] H Q X:=by
 refine⟨rfl,?_⟩
 show vSs tT (FW tT (n+1)) ir_killer_pair false [kilV A f,.int p] H _ _
 unfold ir_killer_pair
 by_cases k:f.kh=true
 ·obtain⟨l1,l2⟩:=h1 k
  have kv:kilV A f=.ref A.kl:=by unfold kilV;rw [if_pos k]
  rw [kv]
  simp only [vSs,vS,vE,vEs,LG,is_ref,t_bool,DF,m_obj (T:=tT) (f:=379) (S.st.kil k).1 (n:="pair") rfl rfl]
  refine⟨rfl,?_⟩
  show vSs tT (FW tT n) ir_Killers_pair false [.ref A.kl,.int p] H _ _
  unfold ir_Killers_pair
  by_cases c:p < 3
  ·obtain⟨x,hx⟩:=getSome (l:=σ.first) (k:=p) (by omega)
   obtain⟨y,hy⟩:=getSome (l:=σ.second) (k:=p) (by omega)
   have e:kpr f.kh σ.first σ.second p=(x,y):=by unfold kpr;rw [if_pos ⟨k,c⟩,hx,hy];rfl
   rw [e] at h
   simp only [vSs,vS,vE,vEs,LG,kil_at S k (n:="plies") rfl rfl (by simp),c_lt,t_bool,show((p:Int) < 3) by omega,DT,kil_at S k (n:="first") rfl rfl (by simp),kil_at S k (n:="second") rfl rfl (by simp),ints_at (S.dy.first k) hx,ints_at (S.dy.second k) hy]
   exact h
  ·have e:kpr f.kh σ.first σ.second p=(0,0):=by unfold kpr;rw [if_neg fun q=>c q.2]
   rw [e] at h
   simp only [vSs,vS,vE,vEs,LG,kil_at S k (n:="plies") rfl rfl (by simp),c_lt,t_bool,show ¬ ((p:Int) < 3) by omega,DF]
   exact h
 ·have kv:kilV A f=.none:=by unfold kilV;rw [if_neg k]
  have e:kpr f.kh σ.first σ.second p=(0,0):=by unfold kpr;rw [if_neg fun q=>k q.1]
  rw [e] at h;rw [kv]
  simp only [vSs,vS,vE,vEs,LG,is_none,t_bool,if_true]
  exact h
def sget (l:List (Int×Int)) (k:Int):Int:=match l with
 | []=>0
 | p::r=>if p.1=k then p.2 else sget r k
def sset (l:List (Int×Int)) (k v:Int):List (Int×Int):=match l with
 | []=>[(k,v)]
 | p::r=>if p.1=k then(k,v)::r else p::sset r k v
theorem dset_sc {k v:Int}:∀ {l:List (Int×Int)},dset (scV l) k (.int v)=scV (sset l k v)
 | []=>rfl
 | p::r=>by
  have:=dset_sc (k:=k) (v:=v) (l:=r)
  unfold scV at this ⊢
  simp only [List.map_cons,dset,sset]
  by_cases c:p.1=k
  ·simp [c]
  ·simp [c,this]
theorem dget_sc {k:Int}:∀ {l:List (Int×Int)} {H:AHeap} {Q:EQ},(match dget (scV l) k with | some w=>Q w H | none=>Q (.int 0) H)↔Q (.int (sget l k)) H
 | [],H,Q=>Iff.rfl
 | p::r,H,Q=>by
  have:=dget_sc (k:=k) (l:=r) (H:=H) (Q:=Q)
  unfold scV at this ⊢
  simp only [List.map_cons,dget,sget]
  by_cases c:p.1=k
  ·simp [c]
  ·simp only [c,if_false];exact this
def hkeys:List Int:=[1,2,65537,65538]
structure HOk (l:List (Int×Int)):Prop where
 nd:(l.map (·.1)).Nodup
 ks:∀ p∈l,p.1∈hkeys
 vs:∀ p∈l,-400≤p.2∧p.2≤400
theorem nodup_le:∀ {l m:List Int},l.Nodup→(∀ x∈l,x∈m)→l.length≤m.length
 | [],m,_,_=>by simp
 | a::l,m,h,s=>by
  rw [List.nodup_cons] at h
  have ha:=s a (by simp)
  have:=nodup_le (l:=l) (m:=m.erase a) h.2 fun x hx=>(List.mem_erase_of_ne (fun e=>h.1 (by rw [← e];exact hx))).2 (s x (by simp [hx]))
  rw [List.length_erase_of_mem ha] at this
  have:0 < m.length:=List.length_pos_of_mem ha
  simp only [List.length_cons];omega
theorem HOk.len {l} (h:HOk l):l.length≤4:=by
 have:=nodup_le (m:=hkeys) h.nd (by intro x hx;obtain⟨p,p1,p2⟩:=List.mem_map.1 hx;rw [← p2];exact h.ks p p1)
 simpa [hkeys] using this
theorem HOk.get {l} (h:HOk l) (k:Int):-400≤sget l k∧sget l k≤400:=by
 have v:=h.vs
 clear h
 induction l with
 | nil=>simp [sget]
 | cons p r ih =>
  simp only [sget]
  split
  ·exact v p (by simp)
  ·exact ih fun q hq=>v q (by simp [hq])
theorem sset_keys {k v:Int}:∀ {l:List (Int×Int)},∀ q∈sset l k v,q=(k,v)∨q∈l
 | [],q,h=>by simp [sset] at h;exact .inl h
 | p::r,q,h=>by
  simp only [sset] at h
  split at h
  ·simp at h;rcases h with h | h
   ·exact .inl h
   ·exact .inr (by simp [h])
  ·simp only [List.mem_cons] at h
   rcases h with h | h
   ·exact .inr (by simp [h])
   ·rcases sset_keys q h with z | z
    ·exact .inl z
    ·exact .inr (by simp [z])
theorem sset_nodup {k v:Int}:∀ {l:List (Int×Int)},(l.map (·.1)).Nodup→((sset l k v).map (·.1)).Nodup
 | [],h=>by simp [sset]
 | p::r,h=>by
  simp only [List.map_cons,List.nodup_cons] at h
  simp only [sset]
  split
  ·rename_i c;simp only [List.map_cons,List.nodup_cons,← c];exact h
  ·rename_i c
   simp only [List.map_cons,List.nodup_cons]
   refine⟨fun z=>?_,sset_nodup h.2⟩
   obtain⟨q,q1,q2⟩:=List.mem_map.1 z
   rcases sset_keys q q1 with e | e
   ·rw [e] at q2;exact c q2.symm
   ·exact h.1 (List.mem_map.2 ⟨q,e,q2⟩)
theorem HOk.set {l} (h:HOk l) {k v:Int} (hk:k∈hkeys) (hv:-400≤v∧v≤400):HOk (sset l k v) :=
 ⟨sset_nodup h.nd,fun q m=>by
  rcases sset_keys q m with e | e
  ·rw [e];exact hk
  ·exact h.ks q e,fun q m=>by
  rcases sset_keys q m with e | e
  ·rw [e];exact hv
  ·exact h.vs q e⟩
theorem hkey_in {s m:Nat} (hs:s≤1) (h1:1≤m) (h2:m≤2):((s:Int)*65536+(m:Int))∈hkeys:=by
 have:(s=0∨s=1)∧(m=1∨m=2):=by omega
 rcases this with ⟨rfl | rfl,rfl | rfl⟩ <;> simp [hkeys]
def sdn (v b:Int):Int:=if v < 0 then -((-v*b) / 400) else v*b / 400
theorem b_fdiv {a b:Int} {H Q} (h1:0 < b) (h2:b < 1000000000):vBin .fdiv (.int a) (.int b) H Q=Q (.int (a / b)) H:=by
 unfold vBin;simp only
 rw [Int.fdiv_eq_ediv_of_nonneg _ (Int.le_of_lt h1)]
 apply propext
 constructor
 ·exact fun q=>q.2
 ·exact fun q=>⟨⟨h1,h2⟩,q⟩
theorem x_scale {v b:Int} (h:-400≤v∧v≤400) {n:Nat} {H:AHeap} {Q X:EQ} (k:Q (.int (sdn v b)) H):FW tT (n+1) false 302 [.int v,.int b,.int 400] H Q X:=by
 refine⟨rfl,?_⟩
 show vSs tT (FW tT n) ir_scale_down false [.int v,.int b,.int 400] H _ _
 unfold ir_scale_down
 by_cases c:v < 0
 ·simp only [vSs,vS,vE,LG,c_lt,t_bool,c,DT,b_mul (a:=-v) (b:=b) (by omega) (by omega),b_fdiv (show(0:Int) < 400 by decide) (by decide)]
  have:sdn v b = -((-v*b) / 400):=by unfold sdn;rw [if_pos c]
  rw [this] at k;exact k
 ·simp only [vSs,vS,vE,LG,c_lt,t_bool,c,DF,b_mul (a:=v) (b:=b) (by omega) (by omega),b_fdiv (show(0:Int) < 400 by decide) (by decide)]
  have:sdn v b=v*b / 400:=by unfold sdn;rw [if_neg c]
  rw [this] at k;exact k
theorem sdn_ok {v b b':Int} (h:-400≤v∧v≤400) (hb:-400≤b∧b≤400) (e:b'=if b < 0 then -b else b):-400≤v+b - sdn v b'∧v+b - sdn v b'≤400:=by
 have hb':0≤b'∧b'≤400:=by subst e;split <;> omega
 have hbb:-b'≤b∧b≤b':=by subst e;split <;> omega
 clear e
 unfold sdn
 split
 ·rename_i c
  have h1:0≤(400+v)*(400 - b'):=Int.mul_nonneg (by omega) (by omega)
  have h2:0≤-v*b':=Int.mul_nonneg (by omega) (by omega)
  have h4:-v*b'≤-v*400:=Int.mul_le_mul_of_nonneg_left hb'.2 (by omega)
  have h3:(400+v)*(400 - b')=160000+400*v - 400*b'+(-v*b'):=by
   rw [Int.add_mul,Int.mul_sub,Int.mul_sub,Int.neg_mul];omega
  generalize -v*b'=x at *
  omega
 ·rename_i c
  have h1:0≤(400 - v)*(400 - b'):=Int.mul_nonneg (by omega) (by omega)
  have h2:0≤v*b':=Int.mul_nonneg (by omega) (by omega)
  have h4:v*b'≤v*400:=Int.mul_le_mul_of_nonneg_left hb'.2 (by omega)
  have h3:(400 - v)*(400 - b')=160000 - 400*v - 400*b'+v*b':=by
   rw [Int.sub_mul,Int.mul_sub,Int.mul_sub];omega
  generalize v*b'=x at *
  omega
theorem m_get {call l H Q X} {d:List (Int×Int)} {k:Int} {e:IEs} {args:AHeap→(List AV→AHeap→Prop)→Prop} (h:H l=some (.idict (scV d))) (ha:∀ K,args H K=K [.int k,.int 0] H):vMeth tT call (.ref l) "get" args H Q X=Q (.int (sget d k)) H:=by
 unfold vMeth;dsimp only;rw [h];dsimp only
 rw [ha]
 unfold vDictM;rw [h];dsimp only
 apply propext
 constructor
 ·exact fun q=>dget_sc.1 q.2
 ·exact fun q=>⟨rfl,dget_sc.2 q⟩
theorem x_hget (S:SR A f G age σ R H) (k:f.kh=true) {s:Nat} {m:Int} (hs:s≤1) {n:Nat} {Q X:EQ} (h:Q (.int (sget σ.scores ((s:Int)*65536+m))) H):FW tT (n+1) false 323 [.ref A.hs,.int s,.int m] H Q X:=by
 refine⟨rfl,?_⟩
 show vSs tT (FW tT n) ir_History_get false [.ref A.hs,.int s,.int m] H _ _
 unfold ir_History_get
 simp only [vSs,vS,vE,vEs,LG,his_at S k (n:="scores") rfl rfl (by simp)]
 rw [m_get (e:=.nil) (S.dy.scores k) (k:=(s:Int)*65536+m)]
 ·exact h
 ·intro K
  simp only [b_mul (a:=(s:Int)) (b:=65536) (by omega) (by omega),b_add]
theorem x_past_score (S:SR A f G age σ R H) {s:Nat} {m:Int} (hs:s≤1) {n:Nat} {Q X:EQ} (h:Q (.int (if f.kh=true then sget σ.scores ((s:Int)*65536+m) else 0)) H):FW tT (n+2) false 414 [hisV A f,.int s,.int m] H Q X:=by
 refine⟨rfl,?_⟩
 show vSs tT (FW tT (n+1)) ir_past_score false [hisV A f,.int s,.int m] H _ _
 unfold ir_past_score
 by_cases k:f.kh=true
 ·rw [if_pos k] at h
  have kv:hisV A f=.ref A.hs:=by unfold hisV;rw [if_pos k]
  rw [kv]
  simp only [vSs,vS,vE,vEs,LG,is_ref,t_bool,DF,m_obj (T:=tT) (f:=323) (S.st.his k).1 (n:="get") rfl rfl]
  exact x_hget S k hs h
 ·rw [if_neg k] at h
  have kv:hisV A f=.none:=by unfold hisV;rw [if_neg k]
  rw [kv]
  simp only [vSs,vS,vE,vEs,LG,is_none,t_bool,if_true]
  exact h
theorem x_hupdate (sc:List (Int×Int)) (ho:HOk sc) (s m:Nat) (hs:s≤1) (h1:1≤m) (h2:m≤2) (b:Int):∃ sc',HOk sc' ∧
  ∀ (n:Nat) (A:Ad) (f:Cf) (G:Gm) (age:Int) (σ:Sg) (R H:AHeap) (Q X:EQ),f.kh=true→σ.scores=sc→SR A f G age σ R H →
   (∀ H',SR A f G age { σ with scores:=sc' } R H'→Q .none H')→FW tT (n+2) false 330 [.ref A.hs,.int s,.int m,.int b] H Q X:=by
 have hk:=hkey_in hs h1 h2
 have hg:=ho.get ((s:Int)*65536+m)
 have hb:-400≤max (-400) (min 400 b)∧max (-400) (min 400 b)≤400:=by omega
 refine⟨sset sc ((s:Int)*65536+m) (sget sc ((s:Int)*65536+m)+max (-400) (min 400 b) - sdn (sget sc ((s:Int)*65536+m)) (if max (-400) (min 400 b) < 0 then -(max (-400) (min 400 b)) else max (-400) (min 400 b))),ho.set hk (sdn_ok hg hb rfl),fun n A f G age σ R H Q X k e S h=>⟨rfl,?_⟩⟩
 show vSs tT (FW tT (n+1)) ir_History_update false [.ref A.hs,.int s,.int m,.int b,.undef,.undef] H _ _
 unfold ir_History_update
 have hsc:=S.dy.scores k;rw [e] at hsc
 simp only [vSs,vS,vE,vEs,LS,his_at S k (n:="scores") rfl rfl (by simp),his_at S k (n:="limit") rfl rfl (by simp),true_and,
  b_mul (a:=(s:Int)) (b:=65536) (by omega) (by omega),b_add]
 rw [m_get (e:=.nil) hsc (k:=(s:Int)*65536+m) (args:=fun H K=>K [.int ((s:Int)*65536+m),.int 0] H) (fun K=>rfl)]
 simp only [b_add,his_at S k (n:="limit") rfl rfl (by simp)]
 refine x_scale hg ?_
 simp only [b_sub,his_at S k (n:="scores") rfl rfl (by simp)]
 unfold vSetI;dsimp only;rw [hsc];dsimp only
 have hl:=ho.len
 refine⟨by unfold scV lim;simp;omega,rfl,?_⟩
 rw [dset_sc]
 exact h _ (S.setScores _)
theorem x_hbonus (S:SR A f G age σ R H) (k:f.kh=true) {d:Nat} (hd:d≤3) {n:Nat} {Q X:EQ} (h:Q (.int (min 400 (16*(d:Int)*d+32*d))) H):FW tT (n+1) false 337 [.ref A.hs,.int d] H Q X:=by
 refine⟨rfl,?_⟩
 show vSs tT (FW tT n) ir_History_bonus false [.ref A.hs,.int d] H _ _
 unfold ir_History_bonus
 simp only [vSs,vS,vE,vEs,LG,his_at S k (n:="limit") rfl rfl (by simp),b_mul (a:=16) (b:=(d:Int)) (by decide) (by decide),b_mul (a:=16*(d:Int)) (b:=(d:Int)) (by omega) (by omega),b_mul (a:=32) (b:=(d:Int)) (by decide) (by decide),b_add]
 exact⟨trivial,h⟩
end
end Bn
namespace Bn
open Bm
theorem reward_loop (s m:Nat) (hs:s≤1) (b:Int):∀ (q:List Nat) (sc:List (Int×Int)),HOk sc→(∀ x∈q,1≤x∧x≤2)→∃ sc',HOk sc' ∧
  ∀ (n:Nat) (A:Ad) (f:Cf) (G:Gm) (age:Int) (σ:Sg) (R H:AHeap) (l:Nat) (xs:List AV) (v1 v3 v4 v8:AV) (Q:SQ) (X:SX),f.kh=true→σ.scores=sc→R l=some (.list xs)→SR A f G age σ R H →
   (∀ H' v,SR A f G age { σ with scores:=sc' } R H'→Q .next [.ref A.hs,v1,.int s,v3,v4,.int m,.ref l,.int b,v] H') →
   forL (.lst l xs) 8 (fun ρ H K=>vSs tT (FW tT (n+2)) ir_reward_loop0 false ρ H K X) (nats q) [.ref A.hs,v1,.int s,v3,v4,.int m,.ref l,.int b,v8] H Q
 | [],sc,ho,hq=>⟨sc,ho,fun n A f G age σ R H l xs v1 v3 v4 v8 Q X k e hl S h=>by
   have:=h H v8;rw [← e] at this;exact this S⟩
 | x::q,sc,ho,hq=>by
  obtain⟨hx1,hx2⟩:=hq x (by simp)
  obtain⟨sc1,ho1,u⟩:=x_hupdate sc ho s x hs hx1 hx2 (-b)
  by_cases c:(x:Int)=(m:Int)
  ·obtain⟨sc',ho',go⟩:=reward_loop s m hs b q sc ho fun y hy=>hq y (by simp [hy])
   refine⟨sc',ho',fun n A f G age σ R H l xs v1 v3 v4 v8 Q X k e hl S h=>?_⟩
   simp only [nats_cons,forL,ir_reward_loop0,vSs,vS,vE,LS,c_ne,t_bool,c,decide_true,Bool.not_true,DF]
   exact⟨S.sub _ _ hl,go n A f G age σ R H l xs v1 v3 v4 _ Q X k e hl S h⟩
  ·obtain⟨sc',ho',go⟩:=reward_loop s m hs b q sc1 ho1 fun y hy=>hq y (by simp [hy])
   refine⟨sc',ho',fun n A f G age σ R H l xs v1 v3 v4 v8 Q X k e hl S h=>?_⟩
   simp only [nats_cons,forL,ir_reward_loop0,vSs,vS,vE,vEs,LS,c_ne,t_bool,c,decide_false,Bool.not_false,if_true,m_obj (T:=tT) (f:=330) (S.st.his k).1 (n:="update") rfl rfl]
   refine u n A f G age σ R H _ _ k e S fun H1 S1=>?_
   exact⟨S1.sub _ _ hl,go n A f G age _ R H1 l xs v1 v3 v4 _ Q X k rfl hl S1 h⟩
theorem x_reward (sf ss:List Int) (h1:sf.length=3) (h2:ss.length=3) (sc:List (Int×Int)) (ho:HOk sc) (s p d m:Nat) (hs:s≤1) (hd:d≤3) (hm:1≤m∧m≤2) (q:List Nat) (hq:∀ x∈q,1≤x∧x≤2) :
  ∃ sf' ss' sc',sf'.length=3∧ss'.length=3∧HOk sc' ∧
  ∀ (n:Nat) (A:Ad) (f:Cf) (G:Gm) (age:Int) (σ:Sg) (R H:AHeap) (l:Nat) (Q X:EQ),f.kh=true→σ.first=sf→σ.second=ss→σ.scores=sc→R l=some (.list (nats q))→SR A f G age σ R H →
   (∀ H',SR A f G age { σ with first:=sf',second:=ss',scores:=sc' } R H'→Q .none H')→FW tT (n+3) false 400 [.ref A.hs,.ref A.kl,.int s,.int p,.int d,.int m,.ref l] H Q X:=by
 obtain⟨sf',ss',f1,f2,u1⟩:=x_kadd sf ss h1 h2 p m
 obtain⟨sc1,o1,u2⟩:=x_hupdate sc ho s m hs hm.1 hm.2 (min 400 (16*(d:Int)*d+32*d))
 obtain⟨sc2,o2,u3⟩:=reward_loop s m hs (min 400 (16*(d:Int)*d+32*d)) q sc1 o1 hq
 refine⟨sf',ss',sc2,f1,f2,o2,fun n A f G age σ R H l Q X k e1 e2 e3 hl S h=>⟨rfl,?_⟩⟩
 show vSs tT (FW tT (n+2)) ir_reward false [.ref A.hs,.ref A.kl,.int s,.int p,.int d,.int m,.ref l,.undef,.undef] H _ _
 unfold ir_reward
 simp only [vSs,vS,vE,vEs,LG,m_obj (T:=tT) (f:=372) (S.st.kil k).1 (n:="add") rfl rfl]
 refine u1 _ A f G age σ R H _ _ k e1 e2 S fun H1 S1=>?_
 simp only [m_obj (T:=tT) (f:=337) (S1.st.his k).1 (n:="bonus") rfl rfl]
 refine x_hbonus S1 k hd ?_
 simp only [LS,m_obj (T:=tT) (f:=330) (S1.st.his k).1 (n:="update") rfl rfl]
 refine u2 _ A f G age { σ with first:=sf',second:=ss' } R H1 _ _ k e3 S1 fun H2 S2=>?_
 simp only [vT,vE,LG,vOver,S2.sub _ _ hl]
 refine⟨trivial,u3 n A f G age { σ with first:=sf',second:=ss',scores:=sc1 } R H2 l _ _ _ _ _ _ _ k rfl hl S2 fun H3 v S3=>h H3 S3⟩
structure Pk where
 tm:Int
 ply:Nat
 stage:Nat
 left:List Nat
 ready:List (Int×Nat)
 losing:List (Int×Nat)
def pFs (A:Ad) (f:Cf) (l r lo:Nat) (tm:Int) (ply stage:Nat):List (String×AV) :=
 [("game",.ref A.g),("left",.ref l),("table_move",.int tm),("killers",kilV A f),("history",hisV A f),("ply",.int ply),("stage",.int stage),("ready",.ref r),("losing",.ref lo)]
def Tups (R:AHeap):List Nat→List (Int×Nat)→Prop
 | [],[]=>True
 | t::ts,x::xs=>R t=some (.tup [.int x.1,.int x.2])∧Tups R ts xs
 | _,_=>False
theorem Tups.mono {R R':AHeap} (h:∀ t q,R t=some (.tup q)→R' t=some (.tup q)):∀ {ts xs},Tups R ts xs→Tups R' ts xs
 | [],[],_=>trivial
 | t::ts,x::xs,⟨h1,h2⟩=>⟨h _ _ h1,Tups.mono h h2⟩
 | [],_::_,h=>h.elim
 | _::_,[],h=>h.elim
theorem Tups.snoc {R:AHeap}:∀ {ts xs},Tups R ts xs→∀ {t:Nat} {x:Int×Nat},R t=some (.tup [.int x.1,.int x.2])→Tups R (ts++[t]) (xs++[x])
 | [],[],_,t,x,h=>⟨h,trivial⟩
 | t::ts,x::xs,⟨h1,h2⟩,_,_,h=>⟨h1,Tups.snoc h2 h⟩
 | [],_::_,h,_,_,_=>h.elim
 | _::_,[],h,_,_,_=>h.elim
theorem Tups.at {R:AHeap}:∀ {ts xs},Tups R ts xs→∀ {k:Nat} {x:Int×Nat},xs[k]? = some x→∃ t,ts[k]? = some t∧R t=some (.tup [.int x.1,.int x.2])
 | [],[],_,k,x,h=>by simp at h
 | t::ts,y::xs,⟨h1,h2⟩,0,x,h=>⟨t,rfl,by simp at h;rw [← h];exact h1⟩
 | t::ts,y::xs,⟨h1,h2⟩,k+1,x,h=>by simpa using Tups.at h2 (k:=k) (x:=x) (by simpa using h)
 | [],_::_,h,_,_,_=>h.elim
 | _::_,[],h,_,_,_=>h.elim
theorem Tups.len {R:AHeap}:∀ {ts xs},Tups R ts xs→ts.length=xs.length
 | [],[],_=>rfl
 | t::ts,y::xs,⟨h1,h2⟩=>by simp [Tups.len h2]
 | [],_::_,h=>h.elim
 | _::_,[],h=>h.elim
theorem Tups.erase {R:AHeap}:∀ {ts xs},Tups R ts xs→∀ k,Tups R (ts.eraseIdx k) (xs.eraseIdx k)
 | [],[],_,k=>by simp [Tups]
 | t::ts,y::xs,⟨h1,h2⟩,0=>by simpa using h2
 | t::ts,y::xs,⟨h1,h2⟩,k+1=>by simpa [Tups] using ⟨h1,Tups.erase h2 k⟩
 | [],_::_,h,_=>h.elim
 | _::_,[],h,_=>h.elim
def TupL (R:AHeap) (r:Nat) (xs:List (Int×Nat)):Prop:=∃ ts,R r=some (.list (refs ts))∧Tups R ts xs
theorem tup_put {R:AHeap} {a:Nat} {o:AO} (h:∀ q,R a≠some (.tup q)):∀ t q,R t=some (.tup q)→upd R a o t=some (.tup q) :=
 fun t q e=>upd_some e fun n=>h q (by rw [← n];exact e)
theorem TupL.put {R:AHeap} {r xs} (T:TupL R r xs) {a:Nat} {o:AO} (h:∀ q,R a≠some (.tup q)) (n:r≠a):TupL (upd R a o) r xs:=by
 obtain⟨ts,h1,h2⟩:=T
 exact⟨ts,upd_some h1 n,h2.mono (tup_put h)⟩
theorem none_tup {R:AHeap} {a:Nat} (h:R a=none):∀ q,R a≠some (.tup q):=fun q e=>by rw [h] at e;cases e
theorem list_tup {R:AHeap} {a:Nat} {xs} (h:R a=some (.list xs)):∀ q,R a≠some (.tup q):=fun q e=>by rw [h] at e;cases e
theorem obj_tup {R:AHeap} {a:Nat} {C fs} (h:R a=some (.obj C fs)):∀ q,R a≠some (.tup q):=fun q e=>by rw [h] at e;cases e
theorem ne_nl {R:AHeap} {a b:Nat} {o:AO} (h:R a=none) (h2:R b=some o):b≠a:=fun n=>by rw [n,h] at h2;cases h2
theorem ne_ol {R:AHeap} {a b:Nat} {C fs xs} (h:R a=some (.obj C fs)) (h2:R b=some (.list xs)):b≠a:=fun n=>by rw [n,h] at h2;cases h2
theorem TupL.snoc {R:AHeap} {r t:Nat} {ts xs} (h1:R r=some (.list (refs ts))) (h2:Tups R ts xs) (ht:R t=none) (x:Int×Nat) :
  TupL (upd (upd R t (.tup [.int x.1,.int x.2])) r (.list (refs (ts++[t])))) r (xs++[x]):=by
 have n:=ne_nl ht h1
 refine⟨ts++[t],upd_eq,Tups.snoc (h2.mono fun s q e=>?_) ?_⟩
 ·exact upd_some (tup_put (none_tup ht) s q e) fun n=>by rw [n,h1] at e;cases e
 ·rw [upd_ne n.symm];exact upd_eq
def pend (P:Pk):List Nat:=(if P.stage≤3 then P.left else [])++(P.ready.map (·.2)++if P.stage≤4 then P.losing.map (·.2) else [])
structure PR (A:Ad) (f:Cf) (p l r lo:Nat) (P:Pk) (B R:AHeap):Prop where
 obj:R p=some (.obj 464 (pFs A f l r lo P.tm P.ply P.stage))
 left:R l=some (.list (nats P.left))
 ready:TupL R r P.ready
 losing:P.stage≤4→TupL R lo P.losing∧B lo=none∧l≠lo∧r≠lo
 lr:l≠r
 bp:B p=none
 bl:B l=none
 br:B r=none
 sub:∀ a o,B a=some o→R a=some o
theorem PR.put {A f p l r lo P B R} (h:PR A f p l r lo P B R) {a:Nat} {xs ys:List AV} (ha:B a=some (.list xs)):PR A f p l r lo P (upd B a (.list ys)) (upd R a (.list ys)):=by
 have ra:=h.sub _ _ ha
 have n1:p≠a:=fun n=>by have:=h.bp;rw [n,ha] at this;cases this
 have n2:l≠a:=fun n=>by have:=h.bl;rw [n,ha] at this;cases this
 have n3:r≠a:=fun n=>by have:=h.br;rw [n,ha] at this;cases this
 refine⟨upd_some h.obj n1,upd_some h.left n2,h.ready.put (list_tup ra) n3,fun e=>?_,h.lr,(upd_ne n1).trans h.bp,(upd_ne n2).trans h.bl,(upd_ne n3).trans h.br,fun b o e=>?_⟩
 ·obtain⟨h1,h2,h3,h4⟩:=h.losing e
  have n4:lo≠a:=fun n=>by have:=h2;rw [n,ha] at this;cases this
  exact⟨h1.put (list_tup ra) n4,(upd_ne n4).trans h2,h3,h4⟩
 ·by_cases n:b=a
  ·subst n;rw [upd_eq] at e ⊢;exact e
  ·rw [upd_ne n] at e ⊢;exact h.sub b o e
theorem nats_all {l:List Nat}:(nats l).all isInt=true:=by unfold nats;simp [isInt]
theorem rem_nats {i:Int}:∀ {l:List Nat},(nats l).any (isThe i)=true→∃ (m:Nat) (l':List Nat),i=m∧(nats l).eraseP (isThe i)=nats l'∧l.Perm (m::l')
 | [],h=>by simp [nats] at h
 | x::l,h=>by
  by_cases c:(x:Int)=i
  ·refine⟨x,l,c.symm,?_,List.Perm.refl _⟩
   rw [nats_cons,List.eraseP_cons_of_pos (by simp [isThe,c])]
  ·have h':(nats l).any (isThe i)=true:=by simpa [nats_cons,isThe,c] using h
   obtain⟨m,l',h1,h2,h3⟩:=rem_nats h'
   refine⟨m,x::l',h1,?_,(List.Perm.cons x h3).trans (List.Perm.swap m x l')⟩
   rw [nats_cons,List.eraseP_cons_of_neg (by simp [isThe,c]),h2,nats_cons]
theorem in_nats {i:Int} {a:Nat} {l:List Nat} {H:AHeap} {Q:Bool→Prop} (h:H a=some (.list (nats l))):vCmp .inn (.int i) (.ref a) H Q=Q ((nats l).any (isThe i)):=by
 unfold vCmp inList;dsimp only;rw [h];simp [nats_all]
theorem nin_nats {i:Int} {a:Nat} {l:List Nat} {H:AHeap} {Q:Bool→Prop} (h:H a=some (.list (nats l))):vCmp .notin (.int i) (.ref a) H Q=Q (!(nats l).any (isThe i)):=by
 unfold vCmp inList;dsimp only;rw [h];simp [nats_all]
def FillK (A:Ad) (f:Cf) (G:Gm) (age:Int) (σ:Sg) (B:AHeap) (p r lo:Nat) (P P':Pk) (Q:EQ):Prop :=
 ∀ H' R' l' r',SR A f G age σ R' H'→R' p=some (.obj 464 (pFs A f l' r lo P.tm P.ply P.stage))→PR A f p l' r' lo P' B (upd R' p (.obj 464 (pFs A f l' r' lo P.tm P.ply (P.stage+1))))→Q (.ref r') H'
theorem TupL.obj {R:AHeap} {r p xs C fs C' fs'} (T:TupL R r xs) (h:R p=some (.obj C fs)):TupL (upd R p (.obj C' fs')) r xs:=by
 obtain⟨ts,h1,h2⟩:=T
 exact TupL.put ⟨ts,h1,h2⟩ (obj_tup h) (ne_ol h h1)
theorem TupL.nil {R:AHeap} {r:Nat}:TupL (upd R r (.list [])) r []:=⟨[],upd_eq,trivial⟩
theorem TupL.ne {R:AHeap} {r a:Nat} {xs} (T:TupL R r xs) (h:R a=none):r≠a:=by
 obtain⟨ts,h1,h2⟩:=T
 exact ne_nl h h1
theorem TupL.neO {R:AHeap} {r a:Nat} {xs C fs} (T:TupL R r xs) (h:R a=some (.obj C fs)):r≠a:=by
 obtain⟨ts,h1,h2⟩:=T
 exact ne_ol h h1
theorem sub_none {B R:AHeap} (h:∀ a o,B a=some o→R a=some o) {a:Nat} (n:R a=none):B a=none:=by
 cases e:B a with
 | none=>rfl
 | some o=>rw [h a o e] at n;cases n
theorem sub_put {B R:AHeap} (h:∀ a o,B a=some o→R a=some o) {a:Nat} {o:AO} (n:B a=none):∀ b q,B b=some q→upd R a o b=some q :=
 fun b q e=>upd_some (h b q e) fun z=>by rw [z,n] at e;cases e
theorem PR.end {A:Ad} {f:Cf} {p r lo l' r':Nat} {B R:AHeap} {P P':Pk} (hp:R p=some (.obj 464 (pFs A f l' r lo P.tm P.ply P.stage))) (e1:P'.tm=P.tm) (e2:P'.ply=P.ply) (e3:P'.stage=P.stage+1)
  (hl:R l'=some (.list (nats P'.left))) (hr:TupL R r' P'.ready) (hlo:P'.stage≤4→TupL R lo P'.losing∧B lo=none∧l'≠lo∧r'≠lo) (lr:l'≠r') (bp:B p=none) (bl:B l'=none) (br:B r'=none) (sub:∀ a o,B a=some o→R a=some o) :
  PR A f p l' r' lo P' B (upd R p (.obj 464 (pFs A f l' r' lo P.tm P.ply (P.stage+1)))) :=
 ⟨by rw [e1,e2,e3];exact upd_eq,upd_some hl (ne_ol hp hl),hr.obj hp,fun e=>⟨(hlo e).1.obj hp,(hlo e).2⟩,lr,bp,bl,br,sub_put sub bp⟩
theorem pk_get {A:Ad} {f:Cf} {p l r lo ply st:Nat} {tm:Int} {H:AHeap} (h:H p=some (.obj 464 (pFs A f l r lo tm ply st))) {n:String} {v:AV} (e:fget (pFs A f l r lo tm ply st) n=some v) (t:tT.att 464 n=true) (k:v≠.undef) {Q:AV→Prop}:vAttr tT (.ref p) n H Q=Q v :=
 a_get h t e k
theorem x_fill_table (P:Pk) (hs:P.stage=0) (hr:P.ready=[]) (hsm:P.left.length < 1000):∃ left' ready',(pend P).Perm (pend { P with stage:=1,left:=left',ready:=ready' }) ∧
  ∀ (n:Nat) (A:Ad) (f:Cf) (G:Gm) (age:Int) (σ:Sg) (B R H:AHeap) (p l r lo:Nat) (Q X:EQ),SR A f G age σ R H→PR A f p l r lo P B R →
   FillK A f G age σ B p r lo P { P with stage:=1,left:=left',ready:=ready' } Q→FW tT (n+1) false 447 [.ref p] H Q X:=by
 by_cases c:(nats P.left).any (isThe P.tm)=true
 ·obtain⟨m,l',i1,i2,i3⟩:=rem_nats c
  refine⟨l',[(0,m)],?_,fun n A f G age σ B R H p l r lo Q X S Z K=>⟨rfl,?_⟩⟩
  ·simp only [pend,hs,hr,Nat.zero_le,if_true,List.map_nil,List.nil_append,List.map_cons,show 1≤3 by omega,show 1≤4 by omega,List.singleton_append]
   exact(i3.append_right _).trans (by simpa using List.perm_middle.symm)
  show vSs tT (FW tT n) ir_Picker_fill_table false [.ref p] H _ _
  unfold ir_Picker_fill_table
  have hp:=S.sub _ _ Z.obj
  have hl:=S.sub _ _ Z.left
  have hp2:=Z.obj
  obtain⟨k1,k2,k3,k4⟩:=Z.losing (by omega)
  simp only [vSs,vS,vE,vEs,lget_0,pk_get hp (n:="table_move") rfl rfl (by simp),pk_get hp (n:="left") rfl rfl (by simp),nin_nats hl,t_bool,c,Bool.not_true,DF,
   m_list hl listM_remove,m_remove hl nats_all c]
  have S1:=S.put (o:=.list (nats l')) (a:=l) (.inl (by rw [Z.left];simp))
  rw [i2]
  have hp1:R p≠none:=by rw [Z.obj];simp
  have lp:=ne_ol Z.obj Z.left
  have Rp1:upd R l (.list (nats l')) p=some (.obj 464 (pFs A f l r lo P.tm P.ply P.stage)):=upd_some Z.obj lp.symm
  simp only [pk_get (S1.sub _ _ Rp1) (n:="table_move") rfl rfl (by simp)]
  intro t ht b hb
  have S2:=S1.put (o:=.tup [.int 0,.int P.tm]) (.inr ht)
  have S3:=S2.put (o:=.list [.ref t]) (.inr hb)
  have rt:=S1.none_R ht
  have rb:=S2.none_R hb
  have bt:B t=none:=sub_none (sub_put Z.sub Z.bl) rt
  have bb:B b=none:=sub_none (sub_put (sub_put Z.sub Z.bl) bt) rb
  have u1:upd (upd R l (.list (nats l'))) t (.tup [.int 0,.int P.tm]) p=some (.obj 464 (pFs A f l r lo P.tm P.ply P.stage)):=upd_some Rp1 (ne_nl rt Rp1)
  have u2:upd (upd R l (.list (nats l'))) t (.tup [.int 0,.int P.tm]) l=some (.list (nats l')):=upd_some upd_eq (ne_nl rt upd_eq)
  refine K _ _ l b S3 (upd_some u1 (ne_nl rb u1)) (PR.end (upd_some u1 (ne_nl rb u1)) rfl rfl (by rw [hs]) (upd_some u2 (ne_nl rb u2)) ?_ (fun _=>?_) (ne_nl rb u2) Z.bp Z.bl bb (sub_put (sub_put (sub_put Z.sub Z.bl) bt) bb))
  ·refine⟨[t],upd_eq,?_,trivial⟩
   have:upd (upd R l (.list (nats l'))) t (.tup [.int 0,.int P.tm]) t=some (.tup [.int 0,.int P.tm]):=upd_eq
   rw [i1] at this ⊢
   exact upd_some this (ne_nl rb (by rw [i1];exact this))
  ·have v1:=k1.put (o:=.list (nats l')) (list_tup Z.left) k3.symm
   have v2:=v1.put (o:=.tup [.int 0,.int P.tm]) (none_tup rt) (v1.ne rt)
   exact⟨v2.put (none_tup rb) (v2.ne rb),k2,k3,(v2.ne rb).symm⟩
 ·refine⟨P.left,[],?_,fun n A f G age σ B R H p l r lo Q X S Z K=>⟨rfl,?_⟩⟩
  ·simp [pend,hs,hr]
  show vSs tT (FW tT n) ir_Picker_fill_table false [.ref p] H _ _
  unfold ir_Picker_fill_table
  have hp:=S.sub _ _ Z.obj
  have hl:=S.sub _ _ Z.left
  obtain⟨k1,k2,k3,k4⟩:=Z.losing (by omega)
  have c':(nats P.left).any (isThe P.tm)=false:=by simpa using c
  simp only [vSs,vS,vE,vEs,lget_0,pk_get hp (n:="table_move") rfl rfl (by simp),pk_get hp (n:="left") rfl rfl (by simp),nin_nats hl,t_bool,c',Bool.not_false,if_true]
  intro b hb
  have rb:=S.none_R hb
  have bb:=sub_none Z.sub rb
  refine K _ _ l b (S.put (.inr hb)) (upd_some Z.obj (ne_nl rb Z.obj)) (PR.end (upd_some Z.obj (ne_nl rb Z.obj)) rfl rfl (by rw [hs]) (upd_some Z.left (ne_nl rb Z.left)) TupL.nil (fun _=>⟨k1.put (none_tup rb) (k1.ne rb),k2,k3,(k1.ne rb).symm⟩) (ne_nl rb Z.left) Z.bp Z.bl bb (sub_put Z.sub bb))
end Bn
namespace Bn
open Bm
def Lg (G:Gm) (x:Nat) (m:Nat):Prop:=1≤m∧m≤(G.kid x).length
structure GL (A:Ad) (f:Cf) (p l r lo g q:Nat) (P:Pk) (xs:List AV) (qs:List Nat) (gs ls:List (Int×Nat)) (B R:AHeap):Prop where
 obj:R p=some (.obj 464 (pFs A f l r lo P.tm P.ply P.stage))
 left:R l=some (.list xs)
 gd:TupL R g gs
 qt:R q=some (.list (nats qs))
 los:TupL R lo ls
 gq:g≠q
 glo:g≠lo
 qlo:q≠lo
 lg:l≠g
 lq:l≠q
 llo:l≠lo
 bp:B p=none
 bg:B g=none
 bq:B q=none
 bl:B l=none
 blo:B lo=none
 sub:∀ a o,B a=some o→R a=some o
theorem TupL.put2 {R:AHeap} {r t a:Nat} {xs o ys zs} (T:TupL R r xs) (ht:R t=none) (ha:R a=some (.list ys)) (n:r≠a):TupL (upd (upd R t o) a (.list zs)) r xs :=
 (T.put (none_tup ht) (T.ne ht)).put (list_tup (upd_some ha (ne_nl ht ha))) n
theorem put2 {R:AHeap} {t a b:Nat} {o o' q:AO} (ht:R t=none) (h:R b=some q) (n:b≠a):upd (upd R t o) a o' b=some q:=upd_some (upd_some h (ne_nl ht h)) n
theorem subO {B R:AHeap} (h:∀ a o,B a=some o→R a=some o) {t a:Nat} {o o':AO} (ht:R t=none) (ha:B a=none):∀ b q,B b=some q→upd (upd R t o) a o' b=some q :=
 sub_put (sub_put h (sub_none h ht)) ha
theorem TupL.neL {R:AHeap} {r p xs C fs} (T:TupL R r xs) (h:R p=some (.obj C fs)):p≠r:=fun n=>T.neO h n.symm
theorem GL.addQ {A f p l r lo g q P xs qs gs ls B R} (h:GL A f p l r lo g q P xs qs gs ls B R) (m:Nat):GL A f p l r lo g q P xs (qs++[m]) gs ls B (upd R q (.list (nats qs++[.int m]))):=by
 have e:nats qs++[AV.int m]=nats (qs++[m]):=by simp [nats]
 rw [e]
 exact⟨upd_some h.obj (ne_ol h.obj h.qt).symm,upd_some h.left h.lq,h.gd.put (list_tup h.qt) h.gq,upd_eq,h.los.put (list_tup h.qt) h.qlo.symm,h.gq,h.glo,h.qlo,h.lg,h.lq,h.llo,h.bp,h.bg,h.bq,h.bl,h.blo,sub_put h.sub h.bq⟩
theorem GL.addG {A f p l r lo g q P xs qs gs ls B R} (h:GL A f p l r lo g q P xs qs gs ls B R) {ts t:Nat} {tl:List Nat} (h1:R g=some (.list (refs tl))) (h2:Tups R tl gs) (ht:R t=none) (x:Int×Nat) :
  GL A f p l r lo g q P xs qs (gs++[x]) ls B (upd (upd R t (.tup [.int x.1,.int x.2])) g (.list (refs (tl++[t])))) :=
 ⟨put2 ht h.obj (ne_ol h.obj h1).symm,put2 ht h.left h.lg,TupL.snoc h1 h2 ht x,put2 ht h.qt h.gq.symm,h.los.put2 ht h1 h.glo.symm,h.gq,h.glo,h.qlo,h.lg,h.lq,h.llo,h.bp,h.bg,h.bq,h.bl,h.blo,subO h.sub ht h.bg⟩
theorem GL.addL {A f p l r lo g q P xs qs gs ls B R} (h:GL A f p l r lo g q P xs qs gs ls B R) {ts t:Nat} {tl:List Nat} (h1:R lo=some (.list (refs tl))) (h2:Tups R tl ls) (ht:R t=none) (x:Int×Nat) :
  GL A f p l r lo g q P xs qs gs (ls++[x]) B (upd (upd R t (.tup [.int x.1,.int x.2])) lo (.list (refs (tl++[t])))) :=
 ⟨put2 ht h.obj (ne_ol h.obj h1).symm,put2 ht h.left h.llo,h.gd.put2 ht h1 h.glo,put2 ht h.qt h.qlo,TupL.snoc h1 h2 ht x,h.gq,h.glo,h.qlo,h.lg,h.lq,h.llo,h.bp,h.bg,h.bq,h.bl,h.blo,subO h.sub ht h.blo⟩
theorem refs_snoc {tl:List Nat} {t:Nat}:refs tl++[AV.ref t]=refs (tl++[t]):=by simp [refs]
theorem good_loop (G:Gm) (O:GOk G) (x:Nat) (hN:x < G.kids.length):∀ (todo:List Nat),(∀ m∈todo,Lg G x m)→∀ (qs:List Nat) (gs ls:List (Int×Nat)),todo.length+qs.length+gs.length+ls.length < 1000 →
  ∃ (qs':List Nat) (gs' ls':List (Int×Nat)),(todo++(qs++(gs.map (·.2)++ls.map (·.2)))).Perm (qs'++(gs'.map (·.2)++ls'.map (·.2))) ∧
  ∀ (n:Nat) (A:Ad) (f:Cf) (age:Int) (σ:Sg) (B R H:AHeap) (p l r lo g q:Nat) (P:Pk) (xs:List AV) (v3 v4:AV) (Q:SQ) (X:SX),σ.path.getLast? = some x→SR A f G age σ R H→GL A f p l r lo g q P xs qs gs ls B R →
   (∀ H' R' v3 v4,SR A f G age σ R' H'→GL A f p l r lo g q P xs qs' gs' ls' B R'→Q .next [.ref p,.ref g,.ref q,v3,v4] H') →
   forL (.lst l xs) 3 (fun ρ H K=>vSs tT (FW tT (n+1)) ir_Picker_fill_good_loop0 false ρ H K X) (nats todo) [.ref p,.ref g,.ref q,v3,v4] H Q
 | [],hm,qs,gs,ls,hlen=>⟨qs,gs,ls,List.Perm.refl _,fun n A f age σ B R H p l r lo g q P xs v3 v4 Q X hx S Z h=>h H R v3 v4 S Z⟩
 | m::todo,hm,qs,gs,ls,hlen=>by
  obtain⟨m1,m2⟩:=hm m (by simp)
  simp only [List.length_cons] at hlen
  by_cases c:G.no x m=true
  ·by_cases d:G.ga x m≥0
   ·obtain⟨qs',gs',ls',pm,go⟩:=good_loop G O x hN todo (fun y hy=>hm y (by simp [hy])) qs (gs++[(G.ga x m,m)]) ls (by simp;omega)
    refine⟨qs',gs',ls',List.Perm.trans ?_ pm,fun n A f age σ B R H p l r lo g q P xs v3 v4 Q X hx S Z h=>?_⟩
    ·simp only [List.map_append,List.map_cons,List.map_nil,List.append_assoc,List.singleton_append,List.cons_append]
     have:=(List.perm_middle (a:=m) (l₁:=todo++(qs++gs.map (·.2))) (l₂:=ls.map (·.2))).symm
     simp only [List.append_assoc,List.nil_append,List.cons_append] at this ⊢;exact this
    ·obtain⟨tl,t1,t2⟩:=Z.gd
     simp only [nats_cons,forL,ir_Picker_fill_good_loop0,vSs,vS,vE,vEs,LS,pk_get (S.sub _ _ Z.obj) (n:="game") rfl rfl (by simp),m_obj (T:=tT) (f:=669) S.st.game.1 (n:="is_noisy") rfl rfl]
     refine g_is_noisy S O hx hN m1 m2 ?_
     simp only [t_bool,c,Bool.not_true,DF,pk_get (S.sub _ _ Z.obj) (n:="game") rfl rfl (by simp),m_obj (T:=tT) (f:=676) S.st.game.1 (n:="gain") rfl rfl,vS,vSs,vE,vEs,LG]
     refine g_gain S O hx hN m1 m2 ?_
     simp only [LS,c_ge,t_bool,d,DT,m_list (S.sub _ _ t1) listM_append]
     intro t ht
     have rt:=S.none_R ht
     have S1:=S.put (o:=.tup [.int (G.ga x m),.int m]) (.inr ht)
     have g1:upd H t (.tup [.int (G.ga x m),.int m]) g=some (.list (refs tl)):=S1.sub _ _ (upd_some t1 (ne_nl rt t1))
     have tlen:tl.length < 1000:=by rw [t2.len];omega
     simp only [m_append g1 (show(refs tl).length < lim by rw [refs_len];unfold lim;omega),refs_snoc]
     have S2:=S1.put (o:=.list (refs (tl++[t]))) (a:=g) (.inl (by rw [upd_ne (ne_nl rt t1),t1];simp))
     have Z2:=Z.addG (ts:=0) t1 t2 rt (G.ga x m,m)
     exact⟨S2.sub _ _ Z2.left,go n A f age σ B _ _ p l r lo g q P xs _ _ Q X hx S2 Z2 h⟩
   ·obtain⟨qs',gs',ls',pm,go⟩:=good_loop G O x hN todo (fun y hy=>hm y (by simp [hy])) qs gs (ls++[(G.ga x m,m)]) (by simp;omega)
    refine⟨qs',gs',ls',List.Perm.trans ?_ pm,fun n A f age σ B R H p l r lo g q P xs v3 v4 Q X hx S Z h=>?_⟩
    ·simp only [List.map_append,List.map_cons,List.map_nil,List.append_assoc,List.singleton_append,List.cons_append]
     have:=(List.perm_middle (a:=m) (l₁:=todo++(qs++(gs.map (·.2)++ls.map (·.2)))) (l₂:=[])).symm
     simp only [List.append_assoc,List.nil_append,List.append_nil,List.cons_append] at this ⊢;exact this
    ·obtain⟨tl,t1,t2⟩:=Z.los
     simp only [nats_cons,forL,ir_Picker_fill_good_loop0,vSs,vS,vE,vEs,LS,pk_get (S.sub _ _ Z.obj) (n:="game") rfl rfl (by simp),m_obj (T:=tT) (f:=669) S.st.game.1 (n:="is_noisy") rfl rfl]
     refine g_is_noisy S O hx hN m1 m2 ?_
     simp only [t_bool,c,Bool.not_true,DF,pk_get (S.sub _ _ Z.obj) (n:="game") rfl rfl (by simp),m_obj (T:=tT) (f:=676) S.st.game.1 (n:="gain") rfl rfl,vS,vSs,vE,vEs,LG]
     refine g_gain S O hx hN m1 m2 ?_
     simp only [LS,c_ge,t_bool,d,DF,pk_get (S.sub _ _ Z.obj) (n:="losing") rfl rfl (by simp),m_list (S.sub _ _ t1) listM_append]
     intro t ht
     have rt:=S.none_R ht
     have S1:=S.put (o:=.tup [.int (G.ga x m),.int m]) (.inr ht)
     have g1:upd H t (.tup [.int (G.ga x m),.int m]) lo=some (.list (refs tl)):=S1.sub _ _ (upd_some t1 (ne_nl rt t1))
     have tlen:tl.length < 1000:=by rw [t2.len];omega
     simp only [m_append g1 (show(refs tl).length < lim by rw [refs_len];unfold lim;omega),refs_snoc]
     have S2:=S1.put (o:=.list (refs (tl++[t]))) (a:=lo) (.inl (by rw [upd_ne (ne_nl rt t1),t1];simp))
     have Z2:=Z.addL (ts:=0) t1 t2 rt (G.ga x m,m)
     exact⟨S2.sub _ _ Z2.left,go n A f age σ B _ _ p l r lo g q P xs _ _ Q X hx S2 Z2 h⟩
  ·have c':G.no x m=false:=by simpa using c
   obtain⟨qs',gs',ls',pm,go⟩:=good_loop G O x hN todo (fun y hy=>hm y (by simp [hy])) (qs++[m]) gs ls (by simp;omega)
   refine⟨qs',gs',ls',List.Perm.trans ?_ pm,fun n A f age σ B R H p l r lo g q P xs v3 v4 Q X hx S Z h=>?_⟩
   ·simp only [List.append_assoc,List.singleton_append,List.cons_append]
    have:=(List.perm_middle (a:=m) (l₁:=todo++qs) (l₂:=gs.map (·.2)++ls.map (·.2))).symm
    simp only [List.append_assoc,List.nil_append,List.cons_append] at this ⊢;exact this
   ·simp only [nats_cons,forL,ir_Picker_fill_good_loop0,vSs,vS,vE,vEs,LS,pk_get (S.sub _ _ Z.obj) (n:="game") rfl rfl (by simp),m_obj (T:=tT) (f:=669) S.st.game.1 (n:="is_noisy") rfl rfl]
    refine g_is_noisy S O hx hN m1 m2 ?_
    simp only [t_bool,c',Bool.not_false,if_true,m_list (S.sub _ _ Z.qt) listM_append,m_append (S.sub _ _ Z.qt) (show(nats qs).length < lim by rw [nats_len];unfold lim;omega)]
    have Z2:=Z.addQ m
    have S2:=S.put (o:=.list (nats qs++[.int m])) (a:=q) (.inl (by rw [Z.qt];simp))
    exact⟨S2.sub _ _ Z2.left,go n A f age σ B _ _ p l r lo g q P xs _ _ Q X hx S2 Z2 h⟩
end Bn
namespace Bn
open Bm
theorem x_fill_good (G:Gm) (O:GOk G) (x:Nat) (hN:x < G.kids.length) (P:Pk) (hs:P.stage=1) (hr:P.ready=[]) (hm:∀ m∈P.left,Lg G x m) (hsm:P.left.length+P.losing.length < 1000) :
  ∃ left' ready' losing',(pend P).Perm (pend { P with stage:=2,left:=left',ready:=ready',losing:=losing' }) ∧
  ∀ (n:Nat) (A:Ad) (f:Cf) (age:Int) (σ:Sg) (B R H:AHeap) (p l r lo:Nat) (Q X:EQ),σ.path.getLast? = some x→SR A f G age σ R H→PR A f p l r lo P B R →
   FillK A f G age σ B p r lo P { P with stage:=2,left:=left',ready:=ready',losing:=losing' } Q→FW tT (n+2) false 454 [.ref p] H Q X:=by
 obtain⟨qs',gs',ls',pm,go⟩:=good_loop G O x hN P.left hm [] [] P.losing (by simpa using hsm)
 refine⟨qs',gs',ls',?_,fun n A f age σ B R H p l r lo Q X hx S Z K=>⟨rfl,?_⟩⟩
 ·simp only [pend,hs,hr,show 1≤3 by omega,show 1≤4 by omega,show 2≤3 by omega,show 2≤4 by omega,if_true,List.map_nil,List.nil_append]
  simpa using pm
 show vSs tT (FW tT (n+1)) ir_Picker_fill_good false [.ref p,.undef,.undef,.undef,.undef] H _ _
 unfold ir_Picker_fill_good
 obtain⟨k1,k2,k3,k4⟩:=Z.losing (by omega)
 simp only [vSs,vS,vE,vEs,lget_0,LT]
 intro g hg q hq
 have rg:=S.none_R hg
 have S1:=S.put (o:=.list []) (.inr hg)
 have rq:=S1.none_R hq
 have S2:=S1.put (o:=.list []) (.inr hq)
 have bg:=sub_none Z.sub rg
 have bq:=sub_none (sub_put Z.sub bg) rq
 have gq:g≠q:=ne_nl rq upd_eq
 have Z2:GL A f p l r lo g q P (nats P.left) [] [] P.losing B (upd (upd R g (.list [])) q (.list [])) :=
  ⟨upd_some (upd_some Z.obj (ne_nl rg Z.obj)) (ne_nl rq (upd_some Z.obj (ne_nl rg Z.obj))),upd_some (upd_some Z.left (ne_nl rg Z.left)) (ne_nl rq (upd_some Z.left (ne_nl rg Z.left))),
   TupL.nil.put (none_tup rq) gq,upd_eq,(k1.put (none_tup rg) (k1.ne rg)).put (none_tup rq) ((k1.put (none_tup rg) (k1.ne rg)).ne rq),gq,(k1.ne rg).symm,((k1.put (o:=.list []) (none_tup rg) (k1.ne rg)).ne rq).symm,
   ne_nl rg Z.left,ne_nl rq (upd_some Z.left (ne_nl rg Z.left)),k3,Z.bp,bg,bq,Z.bl,k2,sub_put (sub_put Z.sub bg) bq⟩
 simp only [vT,vE,lget_0,pk_get (S2.sub _ _ Z2.obj) (n:="left") rfl rfl (by simp),vOver,S2.sub _ _ Z2.left]
 refine⟨trivial,go n A f age σ B _ _ p l r lo g q P _ _ _ _ _ hx S2 Z2 fun H' R' v3 v4 S' Z'=>?_⟩
 have hp:=S'.sub _ _ Z'.obj
 have e:∀ v,fset (pFs A f l r lo P.tm P.ply P.stage) "left" (.ref v)=pFs A f v r lo P.tm P.ply P.stage:=fun _=>rfl
 simp only [vSs,vS,vE,LG,a_set hp (show tT.att 464 "left" = true from rfl) (show(pFs A f l r lo P.tm P.ply P.stage).length < 100 by show 9 < 100;decide),e]
 have S3:=S'.put (o:=.obj 464 (pFs A f q r lo P.tm P.ply P.stage)) (a:=p) (.inl (by rw [Z'.obj];simp))
 exact K _ _ q g S3 upd_eq (PR.end upd_eq rfl rfl (by rw [hs]) (upd_some Z'.qt (ne_ol Z'.obj Z'.qt)) (Z'.gd.obj Z'.obj) (fun _=>⟨Z'.los.obj Z'.obj,Z'.blo,Z'.qlo,Z'.glo⟩) Z'.gq.symm Z'.bp Z'.bq Z'.bg (sub_put Z'.sub Z'.bp))
structure KL (A:Ad) (f:Cf) (p l r lo g k:Nat) (P:Pk) (ks:List AV) (left:List Nat) (gs:List (Int×Nat)) (B R:AHeap):Prop where
 obj:R p=some (.obj 464 (pFs A f l r lo P.tm P.ply P.stage))
 left:R l=some (.list (nats left))
 gd:TupL R g gs
 los:TupL R lo P.losing
 kt:R k=some (.tup ks)
 glo:g≠lo
 lg:l≠g
 llo:l≠lo
 bp:B p=none
 bg:B g=none
 bl:B l=none
 blo:B lo=none
 sub:∀ a o,B a=some o→R a=some o
theorem ne_tl {R:AHeap} {a b:Nat} {xs ys} (h:R a=some (.list xs)) (h2:R b=some (.tup ys)):b≠a:=fun n=>by rw [n,h] at h2;cases h2
theorem kill_loop:∀ (todo:List Int) (left:List Nat) (gs:List (Int×Nat)),todo.length+gs.length < 1000→∃ (left':List Nat) (gs':List (Int×Nat)),(left++gs.map (·.2)).Perm (left'++gs'.map (·.2)) ∧
  ∀ (n:Nat) (A:Ad) (f:Cf) (G:Gm) (age:Int) (σ:Sg) (B R H:AHeap) (p l r lo g k:Nat) (P:Pk) (ks:List AV) (v2:AV) (Q:SQ) (X:SX),SR A f G age σ R H→KL A f p l r lo g k P ks left gs B R →
   (∀ H' R' v2,SR A f G age σ R' H'→KL A f p l r lo g k P ks left' gs' B R'→Q .next [.ref p,.ref g,v2] H') →
   forL (.tup k ks) 2 (fun ρ H K=>vSs tT (FW tT n) ir_Picker_fill_killers_loop0 false ρ H K X) (intsL todo) [.ref p,.ref g,v2] H Q
 | [],left,gs,hl=>⟨left,gs,List.Perm.refl _,fun n A f G age σ B R H p l r lo g k P ks v2 Q X S Z h=>h H R v2 S Z⟩
 | i::todo,left,gs,hl=>by
  simp only [List.length_cons] at hl
  by_cases c:(nats left).any (isThe i)=true
  ·obtain⟨m,l1,i1,i2,i3⟩:=rem_nats c
   obtain⟨left',gs',pm,go⟩:=kill_loop todo l1 (gs++[(0,m)]) (by simp;omega)
   refine⟨left',gs',List.Perm.trans ?_ pm,fun n A f G age σ B R H p l r lo g k P ks v2 Q X S Z h=>?_⟩
   ·refine(i3.append_right _).trans ?_
    have:=(List.perm_middle (a:=m) (l₁:=l1++gs.map (·.2)) (l₂:=[])).symm
    simp only [List.map_append,List.map_cons,List.map_nil,List.append_assoc,List.nil_append,List.append_nil,List.cons_append] at this ⊢;exact this
   ·obtain⟨tl,t1,t2⟩:=Z.gd
    have hl1:=S.sub _ _ Z.left
    have e0:intsL (i::todo)=AV.int i::intsL todo:=rfl
    simp only [e0,forL,ir_Picker_fill_killers_loop0,vSs,vS,vE,vEs,LS,pk_get (S.sub _ _ Z.obj) (n:="left") rfl rfl (by simp),in_nats hl1,t_bool,c,if_true,
     m_list hl1 listM_remove,m_remove hl1 nats_all c,i2]
    have S1:=S.put (o:=.list (nats l1)) (a:=l) (.inl (by rw [Z.left];simp))
    have g1:upd R l (.list (nats l1)) g=some (.list (refs tl)):=upd_some t1 Z.lg.symm
    simp only [m_list (S1.sub _ _ g1) listM_append]
    intro t ht
    have rt:=S1.none_R ht
    have S2:=S1.put (o:=.tup [.int 0,.int i]) (.inr ht)
    have g2:upd (upd R l (.list (nats l1))) t (.tup [.int 0,.int i]) g=some (.list (refs tl)):=upd_some g1 (ne_nl rt g1)
    have tlen:tl.length < 1000:=by rw [t2.len];omega
    simp only [m_append (S2.sub _ _ g2) (show(refs tl).length < lim by rw [refs_len];unfold lim;omega),refs_snoc]
    have S3:=S2.put (o:=.list (refs (tl++[t]))) (a:=g) (.inl (by rw [g2];simp))
    have o1:upd R l (.list (nats l1)) p=some (.obj 464 (pFs A f l r lo P.tm P.ply P.stage)):=upd_some Z.obj (ne_ol Z.obj Z.left).symm
    have k1:upd R l (.list (nats l1)) k=some (.tup ks):=upd_some Z.kt (ne_tl Z.left Z.kt)
    have q1:Tups (upd R l (.list (nats l1))) tl gs:=t2.mono (tup_put (list_tup Z.left))
    have sb:∀ a o,B a=some o→upd R l (.list (nats l1)) a=some o:=sub_put Z.sub Z.bl
    have Z3:KL A f p l r lo g k P ks l1 (gs++[(0,m)]) B (upd (upd (upd R l (.list (nats l1))) t (.tup [.int 0,.int i])) g (.list (refs (tl++[t])))) :=
     ⟨put2 rt o1 (ne_ol o1 g1).symm,put2 rt upd_eq Z.lg,by rw [i1];exact TupL.snoc g1 q1 rt (0,m),(Z.los.put (list_tup Z.left) Z.llo.symm).put2 rt g1 Z.glo.symm,put2 rt k1 (ne_tl g1 k1),
      Z.glo,Z.lg,Z.llo,Z.bp,Z.bg,Z.bl,Z.blo,subO sb rt Z.bg⟩
    exact⟨S3.sub _ _ Z3.kt,go n A f G age σ B _ _ p l r lo g k P ks _ Q X S3 Z3 h⟩
  ·have c':(nats left).any (isThe i)=false:=by simpa using c
   obtain⟨left',gs',pm,go⟩:=kill_loop todo left gs (by omega)
   refine⟨left',gs',pm,fun n A f G age σ B R H p l r lo g k P ks v2 Q X S Z h=>?_⟩
   have hl1:=S.sub _ _ Z.left
   have e0:intsL (i::todo)=AV.int i::intsL todo:=rfl
   simp only [e0,forL,ir_Picker_fill_killers_loop0,vSs,vS,vE,vEs,LS,pk_get (S.sub _ _ Z.obj) (n:="left") rfl rfl (by simp),in_nats hl1,t_bool,c',DF]
   exact⟨S.sub _ _ Z.kt,go n A f G age σ B R H p l r lo g k P ks _ Q X S Z h⟩
theorem x_fill_killers (kh:Bool) (sf ss:List Int) (h3:kh=true→sf.length=3∧ss.length=3) (P:Pk) (hs:P.stage=2) (hr:P.ready=[]) :
  ∃ left' ready',(pend P).Perm (pend { P with stage:=3,left:=left',ready:=ready' }) ∧
  ∀ (n:Nat) (A:Ad) (f:Cf) (G:Gm) (age:Int) (σ:Sg) (B R H:AHeap) (p l r lo:Nat) (Q X:EQ),f.kh=kh→σ.first=sf→σ.second=ss→SR A f G age σ R H→PR A f p l r lo P B R →
   FillK A f G age σ B p r lo P { P with stage:=3,left:=left',ready:=ready' } Q→FW tT (n+3) false 461 [.ref p] H Q X:=by
 obtain⟨left',gs',pm,go⟩:=kill_loop [(kpr kh sf ss P.ply).1,(kpr kh sf ss P.ply).2] P.left [] (by simp)
 refine⟨left',gs',?_,fun n A f G age σ B R H p l r lo Q X e1 e2 e3 S Z K=>⟨rfl,?_⟩⟩
 ·simp only [pend,hs,hr,show 2≤3 by omega,show 2≤4 by omega,show 3≤3 by omega,show 3≤4 by omega,if_true,List.map_nil,List.nil_append]
  rw [← List.append_assoc]
  refine List.Perm.append_right _ ?_
  simpa using pm
 show vSs tT (FW tT (n+2)) ir_Picker_fill_killers false [.ref p,.undef,.undef] H _ _
 unfold ir_Picker_fill_killers
 obtain⟨k1,k2,k3,k4⟩:=Z.losing (by omega)
 simp only [vSs,vS,vE,vEs,lget_0,LT]
 intro g hg
 have rg:=S.none_R hg
 have S1:=S.put (o:=.list []) (.inr hg)
 have bg:=sub_none Z.sub rg
 have o1:upd R g (.list []) p=some (.obj 464 (pFs A f l r lo P.tm P.ply P.stage)):=upd_some Z.obj (ne_nl rg Z.obj)
 simp only [vT,vE,vEs,lget_0,pk_get (S1.sub _ _ o1) (n:="killers") rfl rfl (show kilV A f≠.undef by unfold kilV;split <;> simp),pk_get (S1.sub _ _ o1) (n:="ply") rfl rfl (by simp)]
 refine x_killer_pair S1 (fun k=>by rw [e2,e3];exact h3 (by rw [← e1];exact k)) fun k hk=>?_
 have rk:=S1.none_R hk
 rw [e1,e2,e3]
 have S2:=S1.put (o:=.tup [.int (kpr kh sf ss P.ply).1,.int (kpr kh sf ss P.ply).2]) (.inr hk)
 have bk:=sub_none (sub_put Z.sub bg) rk
 have l1:upd R g (.list []) l=some (.list (nats P.left)):=upd_some Z.left (ne_nl rg Z.left)
 have lo1:=k1.put (o:=.list []) (none_tup rg) (k1.ne rg)
 have hkt:∀ H:AHeap,upd H k (.tup [.int (kpr kh sf ss P.ply).1,.int (kpr kh sf ss P.ply).2]) k=some (.tup [.int (kpr kh sf ss P.ply).1,.int (kpr kh sf ss P.ply).2]):=fun _=>upd_eq
 simp only [vOver,hkt]
 have gk:g≠k:=ne_nl rk upd_eq
 refine⟨trivial,go (n+2) A f G age σ B _ _ p l r lo g k P _ _ _ _ S2 ⟨upd_some o1 (ne_nl rk o1),upd_some l1 (ne_nl rk l1),TupL.nil.put (none_tup rk) gk,lo1.put (none_tup rk) (lo1.ne rk),upd_eq,(k1.ne rg).symm,ne_nl rg Z.left,k3,Z.bp,bg,Z.bl,k2,sub_put (sub_put Z.sub bg) bk⟩ fun H' R' v2 S' Z'=>?_⟩
 simp only [vSs,vS,vE,LG]
 exact K _ _ l g S' Z'.obj (PR.end Z'.obj rfl rfl (by rw [hs]) Z'.left Z'.gd (fun _=>⟨Z'.los,Z'.blo,Z'.llo,Z'.glo⟩) Z'.lg Z'.bp Z'.bl Z'.bg Z'.sub)
end Bn
namespace Bn
open Bm
theorem quiet_comp (n:Nat) (A:Ad) (f:Cf) (G:Gm) (age:Int) (σ:Sg) (B:AHeap) (p l r lo:Nat) (P:Pk) (s:Nat) (hs:s≤1) (xs:List AV) (g:Nat→Int) (hg:∀ m,g m=if f.kh=true then sget σ.scores ((s:Int)*65536+(m:Int)) else 0) (v2:AV) (K:List AV→AHeap→Prop) :
  ∀ (todo:List Nat) (R H:AHeap) (ts:List Nat) (acc:List (Int×Nat)),SR A f G age σ R H→R p=some (.obj 464 (pFs A f l r lo P.tm P.ply P.stage))→R l=some (.list xs)→Tups R ts acc→(P.stage≤4→TupL R lo P.losing)→(∀ a o,B a=some o→R a=some o) →
   (∀ H' R' ts',SR A f G age σ R' H'→R' p=some (.obj 464 (pFs A f l r lo P.tm P.ply P.stage))→R' l=some (.list xs)→Tups R' ts' (acc++todo.map fun m=>(g m,m))→(P.stage≤4→TupL R' lo P.losing)→(∀ a o,B a=some o→R' a=some o)→K (refs ts') H') →
   compL (.lst l xs) (fun v H K=>vE tT false (FW tT (n+2) false) (.tup (.cons (.call 414 (.cons (.attr (.loc 1) "history") (.cons (.loc 3) (.cons (.loc 0) .nil)))) (.cons (.loc 0) .nil))) [v,.ref p,v2,.int s] H K (fun _ _=>False)) (nats todo) (refs ts) H K
 | [],R,H,ts,acc,S,hp,hl,ht,hlo,hB,h=>by
  simp only [List.map_nil,List.append_nil] at h
  exact h H R ts S hp hl ht hlo hB
 | m::todo,R,H,ts,acc,S,hp,hl,ht,hlo,hB,h=>by
  simp only [nats_cons,compL,vE,vEs,LG,pk_get (S.sub _ _ hp) (n:="history") rfl rfl (show hisV A f≠.undef by unfold hisV;split <;> simp)]
  refine x_past_score S hs ?_
  rw [← hg m]
  intro t h0
  have rt:=S.none_R h0
  have S1:=S.put (o:=.tup [.int (g m),.int m]) (.inr h0)
  have l1:=upd_some (o:=.tup [.int (g m),.int m]) hl (ne_nl rt hl)
  refine⟨S1.sub _ _ l1,?_⟩
  rw [refs_snoc]
  refine quiet_comp n A f G age σ B p l r lo P s hs xs g hg v2 K todo _ _ (ts++[t]) (acc++[(g m,m)]) S1 (upd_some hp (ne_nl rt hp)) l1 (Tups.snoc (ht.mono (tup_put (none_tup rt))) upd_eq) (fun e=>(hlo e).put (none_tup rt) ((hlo e).ne rt)) (sub_put hB (sub_none hB rt)) ?_
  simpa only [List.map_cons,List.append_assoc,List.singleton_append] using h
theorem x_fill (G:Gm) (O:GOk G) (f:Cf) (σ:Sg) (x:Nat) (hx:σ.path.getLast? = some x) (hN:x < G.kids.length) (h3:f.kh=true→σ.first.length=3∧σ.second.length=3) (P:Pk) (hs:P.stage≤4) (hr:P.ready=[]) (hm:∀ m∈pend P,Lg G x m) (hsm:P.left.length+P.losing.length < 1000) :
  ∃ left' ready' losing',(pend P).Perm (pend { P with stage:=P.stage+1,left:=left',ready:=ready',losing:=losing' })∧left'.length+losing'.length < 1000 ∧
  ∀ (n:Nat) (A:Ad) (most age:Int) (B R H:AHeap) (p l r lo:Nat) (Q X:EQ),SR A { f with most:=most } G age σ R H→PR A { f with most:=most } p l r lo P B R →
   FillK A { f with most:=most } G age σ B p r lo P { P with stage:=P.stage+1,left:=left',ready:=ready',losing:=losing' } Q→FW tT (n+4) false 440 [.ref p,.int P.stage] H Q X:=by
 have hcase:P.stage=0∨P.stage=1∨P.stage=2∨P.stage=3∨P.stage=4:=by omega
 have hl0:0 < σ.path.length:=by cases h:σ.path with
  | nil=>rw [h] at hx;cases hx
  | cons=>simp
 rcases hcase with h | h | h | h | h
 ·obtain⟨left',ready',pm,go⟩:=x_fill_table P h hr (by omega)
  have e:pend P=P.left++P.losing.map (·.2):=by simp [pend,h,hr]
  have e2:pend { P with stage:=1,left:=left',ready:=ready' }=left'++(ready'.map (·.2)++P.losing.map (·.2)):=by simp [pend]
  have hlen:=pm.length_eq
  rw [e,e2] at hlen
  simp only [List.length_append,List.length_map] at hlen
  refine⟨left',ready',P.losing,by rw [h];exact pm,by omega,fun n A most age B R H p l r lo Q X S Z K=>⟨rfl,?_⟩⟩
  show vSs tT (FW tT (n+3)) ir_Picker_fill false [.ref p,.int P.stage,.undef] H _ _
  rw [h] at K ⊢
  unfold ir_Picker_fill
  simp only [vSs,vS,vE,vEs,LG,c_eq,t_bool,show((0:Nat):Int)=0 from rfl,DT,m_obj (T:=tT) (f:=447) (S.sub _ _ Z.obj) (n:="fill_table") rfl rfl]
  exact go (n+2) A { f with most:=most } G age σ B R H p l r lo _ _ S Z K
 ·obtain⟨left',ready',losing',pm,go⟩:=x_fill_good G O x hN P h hr (fun m hm'=>hm m (by simp [pend,h,hm'])) hsm
  have e:pend P=P.left++P.losing.map (·.2):=by simp [pend,h,hr]
  have e2:pend { P with stage:=2,left:=left',ready:=ready',losing:=losing' }=left'++(ready'.map (·.2)++losing'.map (·.2)):=by simp [pend]
  have hlen:=pm.length_eq
  rw [e,e2] at hlen
  simp only [List.length_append,List.length_map] at hlen
  refine⟨left',ready',losing',by rw [h];exact pm,by omega,fun n A most age B R H p l r lo Q X S Z K=>⟨rfl,?_⟩⟩
  show vSs tT (FW tT (n+3)) ir_Picker_fill false [.ref p,.int P.stage,.undef] H _ _
  rw [h] at K ⊢
  unfold ir_Picker_fill
  simp only [vSs,vS,vE,vEs,LG,c_eq,t_bool,show((1:Nat):Int)=1 from rfl,show ¬ ((1:Int)=0) by decide,DF,DT,m_obj (T:=tT) (f:=454) (S.sub _ _ Z.obj) (n:="fill_good") rfl rfl]
  exact go (n+1) A { f with most:=most } age σ B R H p l r lo _ _ hx S Z K
 ·obtain⟨left',ready',pm,go⟩:=x_fill_killers f.kh σ.first σ.second h3 P h hr
  have e:pend P=P.left++P.losing.map (·.2):=by simp [pend,h,hr]
  have e2:pend { P with stage:=3,left:=left',ready:=ready' }=left'++(ready'.map (·.2)++P.losing.map (·.2)):=by simp [pend]
  have hlen:=pm.length_eq
  rw [e,e2] at hlen
  simp only [List.length_append,List.length_map] at hlen
  refine⟨left',ready',P.losing,by rw [h];exact pm,by omega,fun n A most age B R H p l r lo Q X S Z K=>⟨rfl,?_⟩⟩
  show vSs tT (FW tT (n+3)) ir_Picker_fill false [.ref p,.int P.stage,.undef] H _ _
  rw [h] at K ⊢
  unfold ir_Picker_fill
  simp only [vSs,vS,vE,vEs,LG,c_eq,t_bool,show((2:Nat):Int)=2 from rfl,show ¬ ((2:Int)=0) by decide,show ¬ ((2:Int)=1) by decide,DF,DT,m_obj (T:=tT) (f:=461) (S.sub _ _ Z.obj) (n:="fill_killers") rfl rfl]
  exact go n A { f with most:=most } G age σ B R H p l r lo _ _ rfl rfl rfl S Z K
 ·have hs1:(σ.path.length - 1)%2≤1:=by omega
  refine⟨P.left,P.left.map fun(m:Nat)=>(if f.kh=true then sget σ.scores ((((σ.path.length - 1)%2:Nat):Int)*65536+(m:Int)) else 0,m),P.losing,?_,hsm,fun n A most age B R H p l r lo Q X S Z K=>⟨rfl,?_⟩⟩
  ·have e:(fun x:Int×Nat=>x.2) ∘ (fun(m:Nat)=>((if f.kh=true then sget σ.scores ((((σ.path.length - 1)%2:Nat):Int)*65536+(m:Int)) else 0),m))=id:=rfl
   simp only [pend,h,hr,show 3≤3 by omega,show 3≤4 by omega,show ¬ (3+1≤3) by omega,show(3+1≤4) by omega,if_true,if_false,List.map_map,e,List.map_id,List.map_nil,List.nil_append]
   exact List.Perm.refl _
  show vSs tT (FW tT (n+3)) ir_Picker_fill false [.ref p,.int P.stage,.undef] H _ _
  unfold ir_Picker_fill
  obtain⟨k1,k2,k3,k4⟩:=Z.losing (by omega)
  simp only [vSs,vS,vE,vEs,LG,c_eq,t_bool,h,show((3:Nat):Int)=3 from rfl,show ¬ ((3:Int)=0) by decide,show ¬ ((3:Int)=1) by decide,show ¬ ((3:Int)=2) by decide,DF,DT,
   pk_get (S.sub _ _ Z.obj) (n:="game") rfl rfl (by simp),m_obj (T:=tT) (f:=683) S.st.game.1 (n:="side") rfl rfl]
  refine g_side S hl0 ?_
  simp only [vT,vE,LS,pk_get (S.sub _ _ Z.obj) (n:="left") rfl rfl (by simp),vOver,S.sub _ _ Z.left]
  refine⟨trivial,?_⟩
  have:=quiet_comp (n+1) A { f with most:=most } G age σ B p l r lo P _ hs1 (nats P.left) (fun(m:Nat)=>(if f.kh=true then sget σ.scores ((((σ.path.length - 1)%2:Nat):Int)*65536+(m:Int)) else 0)) (fun m=>rfl) (.int ((3:Nat):Int)) (fun ws H=>∀ a,H a=none→Q (.ref a) (upd H a (.list ws))) P.left R H [] [] S Z.obj Z.left trivial (fun _=>k1) Z.sub ?_
  ·exact this
  ·intro H' R' ts' S' Z1 Z2 Z3 Z4 Z5 a ha
   have ra:=S'.none_R ha
   have u1:=Z4 (by omega)
   have u2:=upd_some (o:=AO.list (refs ts')) Z1 (ne_nl ra Z1)
   exact K _ _ l a (S'.put (.inr ha)) u2 (PR.end u2 rfl rfl rfl (upd_some Z2 (ne_nl ra Z2)) ⟨ts',upd_eq,Z3.mono (tup_put (none_tup ra))⟩
    (fun _=>⟨u1.put (none_tup ra) (u1.ne ra),k2,k3,(u1.ne ra).symm⟩) (ne_nl ra Z2) Z.bp Z.bl (sub_none Z5 ra) (sub_put Z5 (sub_none Z5 ra)))
 ·refine⟨P.left,P.losing,P.losing,?_,hsm,fun n A most age B R H p l r lo Q X S Z K=>⟨rfl,?_⟩⟩
  ·simp [pend,h,hr]
  show vSs tT (FW tT (n+3)) ir_Picker_fill false [.ref p,.int P.stage,.undef] H _ _
  unfold ir_Picker_fill
  obtain⟨k1,k2,k3,k4⟩:=Z.losing (by omega)
  simp only [vSs,vS,vE,vEs,LG,c_eq,t_bool,h,show((4:Nat):Int)=4 from rfl,show ¬ ((4:Int)=0) by decide,show ¬ ((4:Int)=1) by decide,show ¬ ((4:Int)=2) by decide,show ¬ ((4:Int)=3) by decide,DF,
   pk_get (S.sub _ _ Z.obj) (n:="losing") rfl rfl (by simp)]
  refine K H R l lo S Z.obj (PR.end Z.obj rfl rfl rfl Z.left k1 (fun e=>?_) k3 Z.bp Z.bl k2 Z.sub)
  have:P.stage+1≤4:=e
  omega
theorem refs_erase:∀ {ts:List Nat} {k:Nat},(refs ts).eraseIdx k=refs (ts.eraseIdx k)
 | [],k=>rfl
 | a::ts,0=>rfl
 | a::ts,k+1=>congrArg (AV.ref a::·) (@refs_erase ts k)
theorem best_loop (xs:List (Int×Nat)):∀ (w s b:Nat),s+w=xs.length→b < xs.length→∃ k,k < xs.length ∧
  ∀ (n:Nat) (H:AHeap) (r:Nat) (ts:List Nat) (v2:AV) (Q:SQ) (X:SX),H r=some (.list (refs ts))→Tups H ts xs→(∀ v,Q .next [.ref r,.int k,v] H) →
   forL .rng 2 (fun ρ H K=>vSs tT (FW tT n) ir_take_best_loop0 false ρ H K X) (nats (List.range' s w)) [.ref r,.int b,v2] H Q
 | 0,s,b,h,hb=>⟨b,hb,fun n H r ts v2 Q X h1 h2 hq=>hq v2⟩
 | w+1,s,b,h,hb=>by
  obtain⟨x,hx⟩:=getSome (l:=xs) (k:=s) (by omega)
  obtain⟨y,hy⟩:=getSome (l:=xs) (k:=b) hb
  have step:∀ (k b':Nat),(b'=if x.1 > y.1 then s else b)→(∀ (n:Nat) (H:AHeap) (r:Nat) (ts:List Nat) (v2:AV) (Q:SQ) (X:SX),H r=some (.list (refs ts))→Tups H ts xs→(∀ v,Q .next [.ref r,.int k,v] H) →
     forL .rng 2 (fun ρ H K=>vSs tT (FW tT n) ir_take_best_loop0 false ρ H K X) (nats (List.range' (s+1) w)) [.ref r,.int b',v2] H Q) →
    ∀ (n:Nat) (H:AHeap) (r:Nat) (ts:List Nat) (v2:AV) (Q:SQ) (X:SX),H r=some (.list (refs ts))→Tups H ts xs→(∀ v,Q .next [.ref r,.int k,v] H) →
     forL .rng 2 (fun ρ H K=>vSs tT (FW tT n) ir_take_best_loop0 false ρ H K X) (nats (List.range' s (w+1))) [.ref r,.int b,v2] H Q:=by
   intro k b' hb' go n H r ts v2 Q X h1 h2 hq
   obtain⟨t,t1,t2⟩:=h2.at hx
   obtain⟨u,u1,u2⟩:=h2.at hy
   have go1:=go n H r ts (.int s) Q X h1 h2 hq
   simp only [List.range'_succ,nats_cons,forL,ir_take_best_loop0,vSs,vS,vE,LS,
    i_list h1 (place_nat (i:=(s:Int)) (k:=s) (by rw [refs_len,h2.len];omega) rfl) (refs_get t1),i_list h1 (place_nat (i:=(b:Int)) (k:=b) (by rw [refs_len,h2.len];omega) rfl) (refs_get u1),
    i_tup t2 (place_nat (i:=0) (k:=0) (by simp) rfl) rfl,i_tup u2 (place_nat (i:=0) (k:=0) (by simp) rfl) rfl,c_gt,t_bool,decide_eq_true_eq]
   by_cases c:x.1 > y.1
   ·rw [if_pos c] at hb';subst hb'
    rw [if_pos c];exact⟨trivial,go1⟩
   ·rw [if_neg c] at hb';subst hb'
    rw [if_neg c];exact⟨trivial,go1⟩
  by_cases c:x.1 > y.1
  ·obtain⟨k,k1,go⟩:=best_loop xs w (s+1) s (by omega) (by omega)
   exact⟨k,k1,step k s (by rw [if_pos c]) go⟩
  ·obtain⟨k,k1,go⟩:=best_loop xs w (s+1) b (by omega) hb
   exact⟨k,k1,step k b (by rw [if_neg c]) go⟩
theorem x_take_best (xs:List (Int×Nat)) (h0:xs≠[]) (h1:xs.length < 1000):∃ k x,xs[k]? = some x ∧
  ∀ (n:Nat) (H:AHeap) (r:Nat) (ts:List Nat) (Q X:EQ),H r=some (.list (refs ts))→Tups H ts xs→Q (.int x.2) (upd H r (.list (refs (ts.eraseIdx k))))→FW tT (n+1) false 475 [.ref r] H Q X:=by
 have hl:0 < xs.length:=List.length_pos_iff.2 h0
 obtain⟨k,k1,go⟩:=best_loop xs (xs.length - 1) 1 0 (by omega) hl
 obtain⟨x,hx⟩:=getSome k1
 refine⟨k,x,hx,fun n H r ts Q X hr ht hq=>⟨rfl,?_⟩⟩
 show vSs tT (FW tT n) ir_take_best false [.ref r,.undef,.undef] H _ _
 unfold ir_take_best
 have hlen:ts.length=xs.length:=ht.len
 simp only [vSs,vS,vT,vE,LS,hr,refs_len,hlen,r_nat (K:=_) (lo:=1) (hi:=(xs.length:Int)) (s:=1) (w:=xs.length - 1) rfl (show((xs.length:Nat):Int)=((1:Nat):Int)+((xs.length - 1:Nat):Int) by omega) (by omega) (by omega)]
 refine⟨trivial,go n H r ts _ _ _ hr ht fun v=>?_⟩
 obtain⟨t,t1,t2⟩:=ht.at hx
 have tr:=ne_tl hr t2
 simp only [vSs,vS,vE,vEs,LG,m_list hr listM_pop,m_popi hr (place_nat (i:=(k:Int)) (k:=k) (by rw [refs_len,hlen];exact k1) rfl),refs_get t1]
 have e:(refs ts).eraseIdx k=refs (ts.eraseIdx k):=refs_erase
 rw [e]
 have e1:∀ H:AHeap,H t=some (.tup [.int x.1,.int x.2])→∀ Q,vIdx (.ref t) (.int 1) H Q=Q (.int x.2):=fun H h Q=>i_tup h (place_nat (i:=1) (k:=1) (by simp) rfl) rfl
 rw [e1 _ (upd_some t2 tr)]
 exact hq
theorem pend_nil {P:Pk} (h:P.stage=5) (hr:P.ready=[]):pend P=[]:=by simp [pend,h,hr]
theorem t_list {l:Nat} {xs:List AV} {H:AHeap} {Q:Bool→Prop} (h:H l=some (.list xs)):truthy (.ref l) H Q=Q (!xs.isEmpty):=by
 unfold truthy;dsimp only;rw [h]
theorem pick_loop (G:Gm) (O:GOk G) (f:Cf) (σ:Sg) (x:Nat) (hx:σ.path.getLast? = some x) (hN:x < G.kids.length) (h3:f.kh=true→σ.first.length=3∧σ.second.length=3) :
  ∀ (k:Nat) (P:Pk),P.stage+k=5→(∀ m∈pend P,Lg G x m)→P.left.length+P.losing.length < 1000 →
  ∃ P':Pk,P'.tm=P.tm∧P'.ply=P.ply∧P'.stage≤5∧(pend P).Perm (pend P')∧P'.left.length+P'.losing.length < 1000∧(P'.ready=[]→P'.stage=5) ∧
  ∀ (n:Nat) (A:Ad) (most age:Int) (B R H:AHeap) (p l r lo:Nat) (Q:SQ) (X:SX),SR A { f with most:=most } G age σ R H→PR A { f with most:=most } p l r lo P B R →
   (P'.ready=[]→∀ H' R' l' r',SR A { f with most:=most } G age σ R' H'→PR A { f with most:=most } p l' r' lo P' B R'→Q (.ret (.int 0)) [.ref p] H') →
   (P'.ready≠[]→∀ H' R' l' r',SR A { f with most:=most } G age σ R' H'→PR A { f with most:=most } p l' r' lo P' B R'→Q .next [.ref p] H') →
   whileL (fun ρ H K=>vE tT false (FW tT (n+4) false) (.not (.attr (.loc 0) "ready")) ρ H (fun v H=>truthy v H fun r=>K r H) (fun n H=>X n ρ H)) (fun ρ H K=>vSs tT (FW tT (n+4)) ir_Picker_next_loop0 false ρ H K X) (k+1) [.ref p] H Q
 | k,P,hk,hm,hsm=>by
  by_cases c:P.ready=[]
  ·cases k with
   | zero =>
    refine⟨P,rfl,rfl,by omega,List.Perm.refl _,hsm,fun _=>by omega,fun n A most age B R H p l r lo Q X S Z h1 h2=>?_⟩
    obtain⟨ts,t1,t2⟩:=Z.ready
    have hts:ts=[]:=by have:=t2.len;rw [c] at this;simpa using this
    rw [hts] at t1
    unfold whileL
    simp only [vE,lget_0,pk_get (S.sub _ _ Z.obj) (n:="ready") rfl rfl (by simp),t_list (S.sub _ _ t1),t_bool,ir_Picker_next_loop0,vSs,vS,pk_get (S.sub _ _ Z.obj) (n:="stage") rfl rfl (by simp),c_eq,show((P.stage:Int)=5) by omega,DT]
    simpa [refs] using h1 c H R l r S Z
   | succ k =>
    obtain⟨left',ready',losing',pm,hsm',go⟩:=x_fill G O f σ x hx hN h3 P (by omega) c hm hsm
    obtain⟨P',a1,a2,a3,a4,a5,a6,go2⟩:=pick_loop G O f σ x hx hN h3 k { P with stage:=P.stage+1,left:=left',ready:=ready',losing:=losing' } (by show P.stage+1+k=5;omega) (fun m hm'=>hm m (pm.mem_iff.2 hm')) hsm'
    refine⟨P',a1,a2,a3,pm.trans a4,a5,a6,fun n A most age B R H p l r lo Q X S Z h1 h2=>?_⟩
    obtain⟨ts,t1,t2⟩:=Z.ready
    have hts:ts=[]:=by have:=t2.len;rw [c] at this;simpa using this
    rw [hts] at t1
    unfold whileL
    simp only [vE,vEs,lget_0,pk_get (S.sub _ _ Z.obj) (n:="ready") rfl rfl (by simp),t_list (S.sub _ _ t1),t_bool,ir_Picker_next_loop0,vSs,vS,pk_get (S.sub _ _ Z.obj) (n:="stage") rfl rfl (by simp),c_eq,show ¬ ((P.stage:Int)=5) by omega,DF,
     show(!(!(refs []).isEmpty))=true from rfl,if_true,m_obj (T:=tT) (f:=440) (S.sub _ _ Z.obj) (n:="fill") rfl rfl]
    refine go n A most age B R H p l r lo _ _ S Z fun H' R' l' r' S' o1 Z'=>?_
    have e1:∀ v,fset (pFs A { f with most:=most } l' r lo P.tm P.ply P.stage) "ready" (.ref v)=pFs A { f with most:=most } l' v lo P.tm P.ply P.stage:=fun _=>rfl
    have e2:∀ v,fset (pFs A { f with most:=most } l' r' lo P.tm P.ply P.stage) "stage" (.int v)=[("game",.ref A.g),("left",.ref l'),("table_move",.int P.tm),("killers",kilV A f),("history",hisV A f),("ply",.int P.ply),("stage",.int v),("ready",.ref r'),("losing",.ref lo)]:=fun _=>rfl
    have o2:upd H' p (.obj 464 (pFs A { f with most:=most } l' r' lo P.tm P.ply P.stage)) p=some (.obj 464 (pFs A { f with most:=most } l' r' lo P.tm P.ply P.stage)):=upd_eq
    simp only [a_set (S'.sub _ _ o1) (show tT.att 464 "ready" = true from rfl) (show(pFs A { f with most:=most } l' r lo P.tm P.ply P.stage).length < 100 by show 9 < 100;decide),e1,
     pk_get o2 (n:="stage") rfl rfl (by simp),b_add,a_set o2 (show tT.att 464 "stage" = true from rfl) (show(pFs A { f with most:=most } l' r' lo P.tm P.ply P.stage).length < 100 by show 9 < 100;decide),e2]
    have S2:=S'.put (o:=.obj 464 (pFs A { f with most:=most } l' r' lo P.tm P.ply (P.stage+1))) (a:=p) (.inl (by rw [o1];simp))
    have e3:∀ H:AHeap,∀ o o',upd (upd H p o) p o'=upd H p o':=fun H o o'=>by
     funext b;unfold upd;split <;> rfl
    rw [e3]
    exact go2 n A most age B _ _ p l' r' lo Q X S2 Z' h1 h2
  ·refine⟨P,rfl,rfl,by omega,List.Perm.refl _,hsm,fun z=>absurd z c,fun n A most age B R H p l r lo Q X S Z h1 h2=>?_⟩
   obtain⟨ts,t1,t2⟩:=Z.ready
   have hts:(refs ts).isEmpty=false:=by
    have:=t2.len
    cases ts with
    | nil=>exact absurd (List.length_eq_zero_iff.1 this.symm) c
    | cons=>rfl
   unfold whileL
   simp only [vE,lget_0,pk_get (S.sub _ _ Z.obj) (n:="ready") rfl rfl (by simp),t_list (S.sub _ _ t1),t_bool,hts,Bool.not_false,Bool.not_true,DF]
   exact h2 c H R l r S Z
theorem perm_erase {xs:List (Int×Nat)}:∀ {k:Nat} {x:Int×Nat},xs[k]? = some x→(xs.map (·.2)).Perm (x.2::(xs.eraseIdx k).map (·.2)):=by
 induction xs with
 | nil=>intro k x h;simp at h
 | cons y xs ih =>
  intro k x h
  cases k with
  | zero=>simp at h;subst h;exact List.Perm.refl _
  | succ k =>
   have:=ih (k:=k) (x:=x) (by simpa using h)
   exact(List.Perm.cons y.2 this).trans (List.Perm.swap x.2 y.2 _)
theorem x_next (G:Gm) (O:GOk G) (f:Cf) (σ:Sg) (x:Nat) (hx:σ.path.getLast? = some x) (hN:x < G.kids.length) (h3:f.kh=true→σ.first.length=3∧σ.second.length=3) (P:Pk) (hs:P.stage≤5) (hm:∀ m∈pend P,Lg G x m) (hsm:P.left.length+P.losing.length < 1000) (hsz:(pend P).length < 1000) :
  ∃ (m:Nat) (P':Pk),P'.stage≤5∧P'.left.length+P'.losing.length < 1000∧(m=0→pend P=[])∧(m≠0→(pend P).Perm (m::pend P')) ∧
  ∀ (n:Nat) (A:Ad) (most age:Int) (B R H:AHeap) (p l r lo:Nat) (Q X:EQ),SR A { f with most:=most } G age σ R H→PR A { f with most:=most } p l r lo P B R →
   (∀ H' R' l' r',SR A { f with most:=most } G age σ R' H'→(m≠0→PR A { f with most:=most } p l' r' lo P' B R')→(∀ a o,B a=some o→R' a=some o)→Q (.int m) H') →
   FW tT (n+5) false 435 [.ref p] H Q X:=by
 obtain⟨P1,a1,a2,a3,a4,a5,a6,go⟩:=pick_loop G O f σ x hx hN h3 (5 - P.stage) P (by omega) hm hsm
 by_cases c:P1.ready=[]
 ·refine⟨0,P1,a3,a5,fun _=>List.length_eq_zero_iff.1 (by rw [a4.length_eq,pend_nil (a6 c) c];rfl),fun z=>absurd rfl z,fun n A most age B R H p l r lo Q X S Z h=>⟨rfl,?_⟩⟩
  show vSs tT (FW tT (n+4)) ir_Picker_next false [.ref p] H _ _
  unfold ir_Picker_next
  rw [vSs,vS]
  refine⟨5 - P.stage+1,go n A most age B R H p l r lo _ _ S Z (fun _ H' R' l' r' S' Z'=>?_) fun z=>absurd c z⟩
  exact h H' R' l' r' S' (fun z=>absurd rfl z) Z'.sub
 ·have hp:(pend P1).length < 1000:=by rw [← a4.length_eq];exact hsz
  obtain⟨k,y,hy,go2⟩:=x_take_best P1.ready c (by unfold pend at hp;simp only [List.length_append,List.length_map] at hp;omega)
  have pm:(pend P1).Perm (y.2::pend { P1 with ready:=P1.ready.eraseIdx k }):=by
   unfold pend
   refine(List.Perm.append_left _ ((perm_erase hy).append_right _)).trans ?_
   exact List.perm_middle
  have hy1:1≤y.2:=(hm y.2 (a4.mem_iff.2 (pm.mem_iff.2 (by simp)))).1
  refine⟨y.2,{ P1 with ready:=P1.ready.eraseIdx k },a3,a5,fun z=>by omega,fun _=>a4.trans pm,fun n A most age B R H p l r lo Q X S Z h=>⟨rfl,?_⟩⟩
  show vSs tT (FW tT (n+4)) ir_Picker_next false [.ref p] H _ _
  unfold ir_Picker_next
  rw [vSs,vS]
  refine⟨5 - P.stage+1,go n A most age B R H p l r lo _ _ S Z (fun z=>absurd z c) fun _ H' R' l' r' S' Z'=>?_⟩
  obtain⟨ts,t1,t2⟩:=Z'.ready
  simp only [vSs,vS,vE,vEs,lget_0,pk_get (S'.sub _ _ Z'.obj) (n:="ready") rfl rfl (by simp)]
  refine go2 _ H' r' ts _ _ (S'.sub _ _ t1) ?_ ?_
  ·exact t2.mono fun t q e=>S'.sub _ _ e
  ·have S2:=S'.put (o:=.list (refs (ts.eraseIdx k))) (a:=r') (.inl (by rw [t1];simp))
   have nr:=ne_ol Z'.obj t1
   have Z2:PR A { f with most:=most } p l' r' lo { P1 with ready:=P1.ready.eraseIdx k } B (upd R' r' (.list (refs (ts.eraseIdx k)))):=by
    refine⟨upd_some Z'.obj nr.symm,upd_some Z'.left Z'.lr,⟨_,upd_eq,(t2.erase k).mono (tup_put (list_tup t1))⟩,fun e=>?_,Z'.lr,Z'.bp,Z'.bl,Z'.br,sub_put Z'.sub Z'.br⟩
    obtain⟨b1,b2,b3,b4⟩:=Z'.losing e
    exact⟨b1.put (list_tup t1) b4.symm,b2,b3,b4⟩
   exact h _ _ l' r' S2 (fun _=>Z2) Z2.sub
end Bn
namespace Bn
open Bm
theorem upd_upd {H:AHeap} {a:Nat} {o o':AO}:upd (upd H a o) a o'=upd H a o':=by
 funext b;unfold upd;split <;> rfl
section
variable {A:Ad} {f:Cf} {G:Gm} {age:Int} {σ:Sg} {R H:AHeap}
theorem psu {a:Nat} (fs:List (String×AV)) {n:String} {v:AV} {Q:AHeap→Prop} {H:AHeap} (hc:tT.att 464 n=true) (hl:fs.length < 100):vSetA tT (.ref a) n v (upd H a (.obj 464 fs)) Q=Q (upd H a (.obj 464 (fset fs n v))):=by
 rw [a_set upd_eq hc hl,upd_upd]
theorem psw {a b:Nat} {o:AO} (fs:List (String×AV)) {n:String} {v:AV} {Q:AHeap→Prop} {H:AHeap} (hb:a≠b) (hc:tT.att 464 n=true) (hl:fs.length < 100):vSetA tT (.ref a) n v (upd (upd H a (.obj 464 fs)) b o) Q=Q (upd (upd (upd H a (.obj 464 fs)) b o) a (.obj 464 (fset fs n v))):=by
 rw [a_set (upd_some upd_eq hb) hc hl]
theorem x_picker_init (S:SR A f G age σ R H) {a ml:Nat} (ha:H a=none) {mv:List Nat} (hm:H ml=some (.list (nats mv))) (tm:Int) (ply:Nat) {n:Nat} {Q X:EQ}
  (h:∀ H' R' l r lo,SR A f G age σ R' H'→PR A f a l r lo ⟨tm,ply,0,mv,[],[]⟩ R R'→Q .none H') :
  FW tT (n+1) false 428 [.ref a,.ref A.g,.ref ml,.int tm,kilV A f,hisV A f,.int ply] (upd H a (.obj 464 [])) Q X:=by
 refine⟨rfl,?_⟩
 show vSs tT (FW tT n) ir_Picker_init false [.ref a,.ref A.g,.ref ml,.int tm,kilV A f,hisV A f,.int ply] _ _ _
 unfold ir_Picker_init
 have hk:∀ (K:AV→Prop) (H:AHeap) (X:EQ),vE tT false (FW tT n false) (.loc 0) [kilV A f] H (fun v _=>K v) X=K (kilV A f):=fun K H X=>by
  simp only [vE,lget_0];unfold kilV;by_cases c:f.kh=true <;> simp [c]
 have hh:∀ (K:AV→Prop) (H:AHeap) (X:EQ),vE tT false (FW tT n false) (.loc 0) [hisV A f] H (fun v _=>K v) X=K (hisV A f):=fun K H X=>by
  simp only [vE,lget_0];unfold hisV;by_cases c:f.kh=true <;> simp [c]
 simp only [vE,lget_0,forall_const] at hk hh
 have m1:∀ o,upd H a o ml=some (.list (nats mv)):=fun o=>upd_some hm (ne_nl ha hm)
 have ra:=S.none_R ha
 have t (n:String) (e:tT.att 464 n=true):=e
 have z1:∀ {H:AHeap} {fs},upd H a (.obj 464 fs) a=some (.obj 464 fs):=upd_eq
 have f1:fset [] "game" (AV.ref A.g)=[("game",.ref A.g)]:=rfl
 simp only [vSs,vS,vE,vEs,LG,psu [] (n:="game") rfl (by simp),f1,m1]
 refine⟨trivial,fun l hl=>?_⟩
 have S1:=S.put (o:=.obj 464 [("game",.ref A.g)]) (.inr ha)
 have rl:=S1.none_R hl
 have S2:=S1.put (o:=.list (nats mv)) (.inr hl)
 have la:l≠a:=fun e=>by rw [e,upd_eq] at hl;cases hl
 have p2:upd (upd H a (.obj 464 [("game",.ref A.g)])) l (.list (nats mv)) a=some (.obj 464 [("game",.ref A.g)]):=upd_some upd_eq la.symm
 have g1:fset [("game",AV.ref A.g)] "left" (.ref l)=[("game",AV.ref A.g),("left",.ref l)]:=rfl
 have g2:fset [("game",AV.ref A.g),("left",.ref l)] "table_move" (.int tm)=[("game",AV.ref A.g),("left",.ref l),("table_move",.int tm)]:=rfl
 have g3:fset [("game",AV.ref A.g),("left",.ref l),("table_move",.int tm)] "killers" (kilV A f)=[("game",AV.ref A.g),("left",.ref l),("table_move",.int tm),("killers",kilV A f)]:=rfl
 have g4:fset [("game",AV.ref A.g),("left",.ref l),("table_move",.int tm),("killers",kilV A f)] "history" (hisV A f)=[("game",AV.ref A.g),("left",.ref l),("table_move",.int tm),("killers",kilV A f),("history",hisV A f)]:=rfl
 have g5:fset [("game",AV.ref A.g),("left",.ref l),("table_move",.int tm),("killers",kilV A f),("history",hisV A f)] "ply" (.int ply)=[("game",AV.ref A.g),("left",.ref l),("table_move",.int tm),("killers",kilV A f),("history",hisV A f),("ply",.int ply)]:=rfl
 have g6:fset [("game",AV.ref A.g),("left",.ref l),("table_move",.int tm),("killers",kilV A f),("history",hisV A f),("ply",.int ply)] "stage" (.int 0)=[("game",AV.ref A.g),("left",.ref l),("table_move",.int tm),("killers",kilV A f),("history",hisV A f),("ply",.int ply),("stage",.int 0)]:=rfl
 simp only [hk,hh,psw (o:=.list (nats mv)) [("game",AV.ref A.g)] (n:="left") la.symm rfl (by simp),g1,psu [("game",AV.ref A.g),("left",.ref l)] (n:="table_move") rfl (by simp),g2,psu [("game",AV.ref A.g),("left",.ref l),("table_move",.int tm)] (n:="killers") rfl (by simp),g3,psu [("game",AV.ref A.g),("left",.ref l),("table_move",.int tm),("killers",kilV A f)] (n:="history") rfl (by simp),g4,psu [("game",AV.ref A.g),("left",.ref l),("table_move",.int tm),("killers",kilV A f),("history",hisV A f)] (n:="ply") rfl (by simp),g5,psu [("game",AV.ref A.g),("left",.ref l),("table_move",.int tm),("killers",kilV A f),("history",hisV A f),("ply",.int ply)] (n:="stage") rfl (by simp),g6]
 have S3:=S2.put (o:=.obj 464 [("game",.ref A.g),("left",.ref l),("table_move",.int tm),("killers",kilV A f),("history",hisV A f),("ply",.int ply),("stage",.int 0)]) (a:=a) (.inl (by rw [upd_ne la.symm,upd_eq];simp))
 intro r hr
 have rr:=S3.none_R hr
 have S4:=S3.put (o:=.list []) (.inr hr)
 have ar:a≠r:=fun e=>by rw [← e,upd_eq] at hr;cases hr
 have p3:∀ (H:AHeap) fs,upd (upd H a (.obj 464 fs)) r (.list []) a=some (.obj 464 fs):=fun H fs=>upd_some upd_eq ar
 have g7:fset [("game",AV.ref A.g),("left",.ref l),("table_move",.int tm),("killers",kilV A f),("history",hisV A f),("ply",.int ply),("stage",.int 0)] "ready" (.ref r)=[("game",AV.ref A.g),("left",.ref l),("table_move",.int tm),("killers",kilV A f),("history",hisV A f),("ply",.int ply),("stage",.int 0),("ready",.ref r)]:=rfl
 simp only [psw (o:=.list []) [("game",AV.ref A.g),("left",.ref l),("table_move",.int tm),("killers",kilV A f),("history",hisV A f),("ply",.int ply),("stage",.int 0)] (n:="ready") ar rfl (by simp),g7]
 have S5:=S4.put (o:=.obj 464 [("game",AV.ref A.g),("left",.ref l),("table_move",.int tm),("killers",kilV A f),("history",hisV A f),("ply",.int ply),("stage",.int 0),("ready",.ref r)]) (a:=a) (.inl (by rw [p3];simp))
 intro lo hlo
 have rlo:=S5.none_R hlo
 have S6:=S5.put (o:=.list []) (.inr hlo)
 have alo:a≠lo:=fun e=>by rw [← e,upd_eq] at hlo;cases hlo
 have p4:∀ (H:AHeap) fs,upd (upd H a (.obj 464 fs)) lo (.list []) a=some (.obj 464 fs):=fun H fs=>upd_some upd_eq alo
 have g8:fset [("game",AV.ref A.g),("left",.ref l),("table_move",.int tm),("killers",kilV A f),("history",hisV A f),("ply",.int ply),("stage",.int 0),("ready",.ref r)] "losing" (.ref lo)=pFs A f l r lo tm ply 0:=rfl
 simp only [psw (o:=.list []) [("game",AV.ref A.g),("left",.ref l),("table_move",.int tm),("killers",kilV A f),("history",hisV A f),("ply",.int ply),("stage",.int 0),("ready",.ref r)] (n:="losing") alo rfl (by simp),g8]
 have S7:=S6.put (o:=.obj 464 (pFs A f l r lo tm ply 0)) (a:=a) (.inl (by rw [p4];simp))
 have lr:l≠r:=fun e=>by rw [← e,upd_ne la,upd_eq] at rr;cases rr
 have llo:l≠lo:=fun e=>by rw [← e,upd_ne la,upd_ne lr,upd_ne la,upd_eq] at rlo;cases rlo
 have rlo':r≠lo:=fun e=>by rw [← e,upd_ne ar.symm,upd_eq] at rlo;cases rlo
 have bl:R l=none:=by rw [upd_ne la] at rl;exact rl
 have br:R r=none:=by
  have:=rr;rw [upd_ne ar.symm,upd_ne lr.symm,upd_ne ar.symm] at this;exact this
 have blo:R lo=none:=by
  have:=rlo;rw [upd_ne alo.symm,upd_ne rlo'.symm,upd_ne alo.symm,upd_ne llo.symm,upd_ne alo.symm] at this;exact this
 refine h _ _ l r lo S7 ⟨upd_eq,?_,⟨[],?_,trivial⟩,fun _=>⟨⟨[],?_,trivial⟩,blo,llo,rlo'⟩,lr,ra,bl,br,?_⟩
 ·rw [upd_ne la,upd_ne llo,upd_ne la,upd_ne lr,upd_ne la,upd_eq]
 ·rw [upd_ne ar.symm,upd_ne rlo',upd_ne ar.symm,upd_eq];rfl
 ·rw [upd_ne alo.symm,upd_eq];rfl
 ·exact sub_put (sub_put (sub_put (sub_put (sub_put (sub_put (sub_put (fun _ _ e=>e) ra) bl) ra) br) ra) blo) ra
theorem x_tick (S:SR A f G age σ R H) {n:Nat} {Q X:EQ} (h0:f.most > 0→σ.nodes≥f.most→X (.int σ.nodes) H)
  (h1:¬ (f.most > 0∧σ.nodes≥f.most)→∀ H',SR A f G age { σ with nodes:=σ.nodes+1 } R H'→Q .none H'):FW tT (n+1) false 134 [.ref A.c] H Q X:=by
 refine⟨rfl,?_⟩
 show vSs tT (FW tT n) ir_SearchContext_tick false [.ref A.c] H _ _
 unfold ir_SearchContext_tick
 simp only [vSs,vS,vE,lget_0,ctx_at S (n:="max_nodes") rfl rfl (by simp),ctx_at S (n:="nodes") rfl rfl (by simp),c_gt,c_ge,t_bool,b_add,nodes_set S,decide_eq_true_eq,isInt]
 by_cases g1:f.most > 0
 ·by_cases g2:σ.nodes≥f.most
  ·simpa [g1,g2] using h0 g1 g2
  ·simpa [g1,g2] using h1 (fun q=>g2 q.2) _ (S.setCtx _ _)
 ·simpa [g1] using h1 (fun q=>g1 q.1) _ (S.setCtx _ _)
def Gm.nz (G:Gm) (x:Nat):List Nat:=(G.mv x).filter fun m=>G.no x m
theorem noisy_comp (S:SR A f G age σ R H) (O:GOk G) {x:Nat} (hx:σ.path.getLast? = some x) (hN:x < G.kids.length) {n l:Nat} {xs:List AV} (hl:H l=some (.list xs)) {K:List AV→AHeap→Prop}:∀ (todo acc:List Nat),(∀ m∈todo,Lg G x m)→K (nats (acc++todo.filter fun m=>G.no x m)) H →
  compIfL (.lst l xs) (fun v H K=>vE tT false (FW tT (n+1) false) (.meth (.loc 1) "is_noisy" (.cons (.loc 0) .nil)) [v,.ref A.g] H (fun x H=>truthy x H fun b=>K b H) (fun _ _=>False)) (fun v H K=>vE tT false (FW tT (n+1) false) (.loc 0) [v,.ref A.g] H K (fun _ _=>False)) (nats todo) (nats acc) H K
 | [],acc,hm,h=>by simpa [nats,compIfL] using h
 | m::todo,acc,hm,h=>by
  obtain⟨m1,m2⟩:=hm m (by simp)
  simp only [nats_cons,compIfL,vE,vEs,LG,m_obj (T:=tT) (f:=669) S.st.game.1 (n:="is_noisy") rfl rfl]
  refine g_is_noisy S O hx hN m1 m2 ?_
  simp only [t_bool]
  by_cases c:G.no x m=true
  ·rw [if_pos c]
   refine⟨hl,?_⟩
   have e:nats acc++[AV.int m]=nats (acc++[m]):=by simp [nats]
   rw [e]
   refine noisy_comp S O hx hN hl todo (acc++[m]) (fun y hy=>hm y (by simp [hy])) ?_
   simpa [c] using h
  ·rw [if_neg c]
   refine⟨hl,noisy_comp S O hx hN hl todo acc (fun y hy=>hm y (by simp [hy])) ?_⟩
   simpa [c] using h
theorem mv_lg {G:Gm} {x m:Nat}:m∈G.mv x↔Lg G x m:=by
 unfold Gm.mv Lg
 simp only [List.mem_map,List.mem_range]
 constructor
 ·rintro ⟨k,h1,h2⟩;omega
 ·rintro ⟨h1,h2⟩;exact⟨m - 1,by omega,by omega⟩
theorem g_noisy (S:SR A f G age σ R H) (O:GOk G) {x:Nat} (hx:σ.path.getLast? = some x) (hN:x < G.kids.length) {n:Nat} {Q X:EQ} (h:∀ H1 a,SR A f G age σ R H1→H1 a=none→Q (.ref a) (upd H1 a (.list (nats (G.nz x))))):FW tT (n+2) false 620 [.ref A.g] H Q X:=by
 refine⟨rfl,?_⟩
 show vSs tT (FW tT (n+1)) ir_TreeGame_noisy false [.ref A.g] H _ _
 unfold ir_TreeGame_noisy
 simp only [vSs,vS,vE,vT,vEs,lget_0,m_obj (T:=tT) (f:=615) S.st.game.1 (n:="moves") rfl rfl]
 refine g_moves S O hx hN fun a ha=>?_
 have S1:=S.new (o:=.list (nats (G.mv x))) ha
 have e1:upd H a (.list (nats (G.mv x))) a=some (.list (nats (G.mv x))):=upd_eq
 simp only [vOver,e1]
 exact⟨trivial,noisy_comp S1 O hx hN e1 (G.mv x) [] (fun m hm=>mv_lg.1 hm) fun b hb=>h _ b S1 hb⟩
end
end Bn
namespace Bn
open Bm
def fmx:Int→List Int→Int
 | b,[]=>b
 | b,a::l=>fmx (max b a) l
theorem fmx_max {a:Int}:∀ {l:List Int} {b:Int},fmx (max a b) l=max a (fmx b l)
 | [],b=>rfl
 | x::l,b=>by
  simp only [fmx]
  rw [show max (max a b) x=max a (max b x) by omega]
  exact fmx_max
theorem fmx_perm {l l':List Int} (h:l.Perm l'):∀ b,fmx b l=fmx b l':=by
 induction h with
 | nil=>intro b;rfl
 | cons x _ ih=>intro b;exact ih _
 | swap x y l=>intro b;simp only [fmx];rw [show max (max b y) x=max (max b x) y by omega]
 | trans _ _ h1 h2=>intro b;rw [h1,h2]
theorem fmx_low (l:List Int):∃ r,∀ b,-100000≤b→fmx b l=max b r:=⟨fmx (-100000) l,fun b h=>by
 have:=fmx_max (a:=b) (b:=-100000) (l:=l)
 rwa [show max b (-100000)=b by omega] at this⟩
theorem fmx_le {l:List Int} {a b:Int} (h:a∈l∨a=b):a≤fmx b l:=by
 induction l generalizing b with
 | nil =>
  rcases h with h | h
  ·simp at h
  ·subst h;exact Int.le_refl _
 | cons x l ih =>
  simp only [fmx]
  rcases h with h | h
  ·simp only [List.mem_cons] at h
   rcases h with h | h
   ·rw [show max b x=max x b by omega,fmx_max];omega
   ·exact ih (.inl h)
  ·rw [fmx_max,h];omega
def Gm.to (G:Gm) (x m:Nat):Nat:=((G.kid x)[m - 1]?).getD 0
def Gm.q (G:Gm):Nat→Nat→Nat→Int
 | 0,p,x=>if 0 < p∧G.dr x=true then 0 else if G.ck x=true∧G.kid x=[] then(p:Int) - 32000 else G.val x
 | c+1,p,x=>if 0 < p∧G.dr x=true then 0 else if G.ck x=true then(if G.kid x=[] then(p:Int) - 32000 else fmx (-32001) ((G.mv x).map fun m=>-G.q c (p+1) (G.to x m)))
   else fmx (G.val x) ((G.nz x).map fun m=>-G.q c (p+1) (G.to x m))
def Gm.F (G:Gm) (c:Nat):Nat→Nat→Nat→Int
 | 0,p,x=>G.q c p x
 | d+1,p,x=>if 0 < p∧G.dr x=true then 0 else if G.kid x=[] then(if G.ck x=true then(p:Int) - 32000 else 0) else fmx (-32001) ((G.mv x).map fun m=>-G.F c d (p+1) (G.to x m))
def NV (p D:Nat) (v:Int):Prop:=(-20000≤v∧v≤20000)∨(32000 - (p:Int) - D≤v∧v≤31999 - (p:Int))∨((p:Int) - 32000≤v∧v≤(p:Int) - 32000+D)
theorem NV.neg {p D v} (h:NV (p+1) D v):NV p (D+1) (-v):=by unfold NV at h ⊢;omega
theorem NV.up {p D D' v} (h:NV p D v) (hd:D≤D'):NV p D' v:=by unfold NV at h ⊢;omega
theorem NV.max {p D a b} (h:NV p D a) (h2:NV p D b):NV p D (max a b):=by
 rcases Int.le_total a b with c | c
 ·rwa [Int.max_eq_right c]
 ·rwa [Int.max_eq_left c]
theorem NV.ge {p D v} (h:NV p D v) (hp:p+D≤100):(p:Int) - 32000≤v:=by unfold NV at h;omega
theorem NV.le {p D v} (h:NV p D v) (hp:p+D≤100):v≤31999 - (p:Int):=by unfold NV at h;omega
theorem NV.fmx {p D:Nat} (hp:p+D≤100):∀ {l:List Int} {b:Int},(∀ a∈l,NV p D a)→(NV p D b∨(b = -32001∧l≠[]))→NV p D (Bn.fmx b l)
 | [],b,h,hb=>by
  rcases hb with hb | hb
  ·exact hb
  ·exact absurd rfl hb.2
 | x::l,b,h,hb=>by
  have hx:=h x (by simp)
  refine NV.fmx (l:=l) hp (fun a m=>h a (by simp [m])) (.inl ?_)
  rcases hb with hb | hb
  ·exact hb.max hx
  ·have:=hx.ge hp
   rw [hb.1,show Max.max (-32001) x=x by omega];exact hx
theorem mv_nil {G:Gm} {x:Nat}:G.mv x=[]↔G.kid x=[]:=by unfold Gm.mv;simp
theorem val_rng {G:Gm} (O:GOk G) (x:Nat):-20000≤G.val x∧G.val x≤20000:=by
 unfold Gm.val
 cases h:G.vals[x]? with
 | none=>simp
 | some v=>exact O.valR v (List.mem_of_getElem? h)
theorem q_NV {G:Gm} (O:GOk G):∀ (c p x:Nat),p+c≤50→NV p (c+1) (G.q c p x)
 | 0,p,x,h=>by
  have:=val_rng O x
  unfold Gm.q
  split
  ·unfold NV;omega
  ·split
   ·unfold NV;omega
   ·unfold NV;omega
 | c+1,p,x,h=>by
  have hv:=val_rng O x
  have ih:∀ m,NV p (c+1+1) (-G.q c (p+1) (G.to x m)):=fun m=>(q_NV O c (p+1) (G.to x m) (by omega)).neg
  unfold Gm.q
  split
  ·unfold NV;omega
  ·split
   ·split
    ·unfold NV;omega
    ·rename_i hk
     refine NV.fmx (by omega) (fun a ha=>?_) (.inr ⟨rfl,fun e=>hk (mv_nil.1 (List.map_eq_nil_iff.1 e))⟩)
     obtain⟨m,_,rfl⟩:=List.mem_map.1 ha
     exact ih m
   ·refine NV.fmx (by omega) (fun a ha=>?_) (.inl (by unfold NV;omega))
    obtain⟨m,_,rfl⟩:=List.mem_map.1 ha
    exact ih m
theorem F_NV {G:Gm} (O:GOk G) (c:Nat):∀ (d p x:Nat),p+d+c≤50→NV p (d+c+1) (G.F c d p x)
 | 0,p,x,h=>by unfold Gm.F;exact(q_NV O c p x (by omega)).up (by omega)
 | d+1,p,x,h=>by
  have ih:∀ m,NV p (d+1+c+1) (-G.F c d (p+1) (G.to x m)):=fun m=>by
   have:=(F_NV O c d (p+1) (G.to x m) (by omega)).neg
   exact this.up (by omega)
  unfold Gm.F
  split
  ·unfold NV;omega
  ·split
   ·split
    ·unfold NV;omega
    ·unfold NV;omega
   ·rename_i hk
    refine NV.fmx (by omega) (fun a ha=>?_) (.inr ⟨rfl,fun e=>hk (mv_nil.1 (List.map_eq_nil_iff.1 e))⟩)
    obtain⟨m,_,rfl⟩:=List.mem_map.1 ha
    exact ih m
theorem mv_some {G:Gm} {x:Nat} (h:G.kid x≠[]):1∈G.mv x:=mv_lg.2 ⟨Nat.le_refl _,by
 cases e:G.kid x with
 | nil=>exact absurd e h
 | cons=>simp⟩
theorem q_low {G:Gm} (O:GOk G) (c p x:Nat) (h:p+c≤50) (e:G.q c p x=(p:Int) - 32000):G.kid x=[]:=by
 have hv:=val_rng O x
 cases c with
 | zero =>
  unfold Gm.q at e
  split at e
  ·omega
  ·split at e
   ·rename_i h2;exact h2.2
   ·omega
 | succ c =>
  unfold Gm.q at e
  split at e
  ·omega
  ·split at e
   ·split at e
    ·assumption
    ·rename_i hk
     have m1:-G.q c (p+1) (G.to x 1)∈(G.mv x).map fun m=>-G.q c (p+1) (G.to x m):=List.mem_map.2 ⟨1,mv_some hk,rfl⟩
     have:=fmx_le (b:=-32001) (.inl m1)
     have:=(q_NV O c (p+1) (G.to x 1) (by omega)).le (by omega)
     omega
   ·have:=fmx_le (l:=(G.nz x).map fun m=>-G.q c (p+1) (G.to x m)) (b:=G.val x) (.inr rfl)
    omega
theorem F_low {G:Gm} (O:GOk G) (c d p x:Nat) (h:p+d+c≤50) (e:G.F c d p x=(p:Int) - 32000):G.kid x=[]:=by
 cases d with
 | zero=>exact q_low O c p x (by omega) e
 | succ d =>
  unfold Gm.F at e
  split at e
  ·omega
  ·split at e
   ·assumption
   ·rename_i hk
    have m1:-G.F c d (p+1) (G.to x 1)∈(G.mv x).map fun m=>-G.F c d (p+1) (G.to x m):=List.mem_map.2 ⟨1,mv_some hk,rfl⟩
    have:=fmx_le (b:=-32001) (.inl m1)
    have:=(F_NV O c d (p+1) (G.to x 1) (by omega)).le (by omega)
    omega
def rl (p p':Nat) (v v':Int):Prop:=(-20000≤v∧v≤20000∧v'=v)∨(31754≤v∧31754≤v'∧v+p=v'+p')∨(v≤-31754∧v'≤-31754∧v - p=v' - p')
theorem rl.neg {p p' v v'} (h:rl (p+1) (p'+1) v v'):rl p p' (-v) (-v'):=by unfold rl at h ⊢;omega
theorem rl.max {p p' a a' b b'} (h:rl p p' a a') (h2:rl p p' b b'):rl p p' (max a b) (max a' b'):=by unfold rl at h h2 ⊢;omega
theorem rl.fmx {p p':Nat} {g g':Nat→Int}:∀ {ms:List Nat} {b b':Int},(∀ m∈ms,rl p p' (g m) (g' m)∧-32000≤g m∧-32000≤g' m)→(rl p p' b b'∨(b = -32001∧b' = -32001∧ms≠[]))→rl p p' (Bn.fmx b (ms.map g)) (Bn.fmx b' (ms.map g'))
 | [],b,b',h,hb=>by
  rcases hb with hb | hb
  ·exact hb
  ·exact absurd rfl hb.2.2
 | x::ms,b,b',h,hb=>by
  obtain⟨h1,h2,h3⟩:=h x (by simp)
  refine rl.fmx (ms:=ms) (fun m hm=>h m (by simp [hm])) (.inl ?_)
  rcases hb with hb | hb
  ·exact hb.max h1
  ·rw [hb.1,hb.2.1,show Max.max (-32001) (g x)=g x by omega,show Max.max (-32001) (g' x)=g' x by omega];exact h1
theorem q_rl {G:Gm} (O:GOk G):∀ (c p p' x:Nat),p+c≤50→p'+c≤50→0 < p→0 < p'→rl p p' (G.q c p x) (G.q c p' x)
 | 0,p,p',x,h,h',k,k'=>by
  have:=val_rng O x
  simp only [Gm.q,k,k',true_and]
  split
  ·unfold rl;omega
  ·split
   ·unfold rl;omega
   ·unfold rl;omega
 | c+1,p,p',x,h,h',k,k'=>by
  have hv:=val_rng O x
  have ih:∀ m,rl p p' (-G.q c (p+1) (G.to x m)) (-G.q c (p'+1) (G.to x m))∧-32000≤-G.q c (p+1) (G.to x m)∧-32000≤-G.q c (p'+1) (G.to x m):=fun m=>by
   refine⟨(q_rl O c (p+1) (p'+1) (G.to x m) (by omega) (by omega) (by omega) (by omega)).neg,?_,?_⟩
   ·have:=(q_NV O c (p+1) (G.to x m) (by omega)).le (by omega);omega
   ·have:=(q_NV O c (p'+1) (G.to x m) (by omega)).le (by omega);omega
  simp only [Gm.q,k,k',true_and]
  split
  ·unfold rl;omega
  ·split
   ·split
    ·unfold rl;omega
    ·rename_i hk
     exact rl.fmx (fun m _=>ih m) (.inr ⟨rfl,rfl,fun e=>hk (mv_nil.1 e)⟩)
   ·exact rl.fmx (fun m _=>ih m) (.inl (by unfold rl;omega))
theorem F_rl {G:Gm} (O:GOk G) (c:Nat):∀ (d p p' x:Nat),p+d+c≤50→p'+d+c≤50→0 < p→0 < p'→rl p p' (G.F c d p x) (G.F c d p' x)
 | 0,p,p',x,h,h',k,k'=>by unfold Gm.F;exact q_rl O c p p' x (by omega) (by omega) k k'
 | d+1,p,p',x,h,h',k,k'=>by
  have ih:∀ m,rl p p' (-G.F c d (p+1) (G.to x m)) (-G.F c d (p'+1) (G.to x m))∧-32000≤-G.F c d (p+1) (G.to x m)∧-32000≤-G.F c d (p'+1) (G.to x m):=fun m=>by
   refine⟨(F_rl O c d (p+1) (p'+1) (G.to x m) (by omega) (by omega) (by omega) (by omega)).neg,?_,?_⟩
   ·have:=(F_NV O c d (p+1) (G.to x m) (by omega)).le (by omega);omega
   ·have:=(F_NV O c d (p'+1) (G.to x m) (by omega)).le (by omega);omega
  simp only [Gm.F,k,k',true_and]
  split
  ·unfold rl;omega
  ·split
   ·split <;> (unfold rl;omega)
   ·rename_i hk
    exact rl.fmx (fun m _=>ih m) (.inr ⟨rfl,rfl,fun e=>hk (mv_nil.1 e)⟩)
def toT (v:Int) (p:Nat):Int:=if v≥31754 then v+p else if v≤-31754 then v - p else v
def frT (v:Int) (p:Nat):Int:=if v≥31754 then v - p else if v≤-31754 then v+p else v
def okp (x p:Nat):Prop:=x=0↔p=0
def Gm.Tf (G:Gm) (c d x:Nat):Int:=if x=0 then G.F c d 0 0 else toT (G.F c d 1 x) 1
theorem toT_NV {p D v} (h:NV p D v) (hp:p+D≤100):NV 0 D (toT v p):=by unfold NV at h ⊢;unfold toT;omega
theorem frT_NV {p D v} (h:NV 0 D v) (hp:p+D≤100):NV p D (frT v p):=by unfold NV at h ⊢;unfold frT;omega
theorem fr_to {p D v} (h:NV p D v) (hp:p+D≤100):frT (toT v p) p=v:=by unfold NV at h;unfold toT frT;omega
theorem to_fr {p D v} (h:NV 0 D v) (hp:p+D≤100):toT (frT v p) p=v:=by unfold NV at h;unfold toT frT;omega
theorem frT_mono {p D v w} (h:NV 0 D v) (h2:NV 0 D w) (hp:p+D≤100) (hl:v≤w):frT v p≤frT w p:=by unfold NV at h h2;unfold frT;omega
theorem toT_mono {p D v w} (h:NV p D v) (h2:NV p D w) (hp:p+D≤100) (hl:v≤w):toT v p≤toT w p:=by unfold NV at h h2;unfold toT;omega
theorem Tf_NV {G:Gm} (O:GOk G) (c d x:Nat) (h:d+c≤20):NV 0 (d+c+1) (G.Tf c d x):=by
 unfold Gm.Tf
 split
 ·exact F_NV O c d 0 0 (by omega)
 ·exact toT_NV (F_NV O c d 1 x (by omega)) (by omega)
theorem F_fr {G:Gm} (O:GOk G) (c d x p:Nat) (hp:okp x p) (h:d+c≤20) (h2:p≤20):G.F c d p x=frT (G.Tf c d x) p:=by
 unfold okp at hp
 unfold Gm.Tf
 by_cases z:x=0
 ·have:p=0:=hp.1 z
  subst this;subst z
  simp only [if_true]
  unfold frT;split
  ·omega
  ·split <;> omega
 ·have k:0 < p:=by
   rcases Nat.eq_zero_or_pos p with e | e
   ·exact absurd (hp.2 e) z
   ·exact e
  rw [if_neg z]
  have r:=F_rl O c d 1 p x (by omega) (by omega) (by omega) k
  have n1:=F_NV O c d 1 x (by omega)
  have n2:=F_NV O c d p x (by omega)
  unfold rl at r;unfold NV at n1 n2;unfold toT frT;omega
def Vt (G:Gm) (c:Nat) (key v d b:Int):Prop:=∃ x dn:Nat,key=(x:Int)+1∧d=(dn:Int)∧dn+c≤20∧NV 0 (dn+c+1) v∧((b=3∧v=G.Tf c dn x)∨(b=2∧v≤G.Tf c dn x)∨(b=1∧G.Tf c dn x≤v))
theorem Vt.get {G:Gm} (O:GOk G) {c x d p:Nat} {v b:Int} (h:Vt G c ((x+1:Nat):Int) v (d:Int) b) (hp:okp x p) (h2:p≤20):NV p (d+c+1) (frT v p)∧((b=3∧frT v p=G.F c d p x)∨(b=2∧frT v p≤G.F c d p x)∨(b=1∧G.F c d p x≤frT v p)):=by
 obtain⟨x',dn,e1,e2,e3,e4,e5⟩:=h
 have:x'=x:=by omega
 subst this
 have:dn=d:=by omega
 subst this
 have nt:=Tf_NV O c dn x' e3
 rw [F_fr O c dn x' p hp e3 h2]
 refine⟨frT_NV e4 (by omega),?_⟩
 rcases e5 with ⟨a,b⟩ | ⟨a,b⟩ | ⟨a,b⟩
 ·exact .inl ⟨a,by rw [b]⟩
 ·exact .inr (.inl ⟨a,frT_mono e4 nt (by omega) b⟩)
 ·exact .inr (.inr ⟨a,frT_mono nt e4 (by omega) b⟩)
theorem Vt.put {G:Gm} (O:GOk G) {c x d p:Nat} {v b:Int} (hp:okp x p) (h2:p≤20) (h3:d+c≤20) (hv:NV p (d+c+1) v) (h:(b=3∧v=G.F c d p x)∨(b=2∧v≤G.F c d p x)∨(b=1∧G.F c d p x≤v)):Vt G c ((x+1:Nat):Int) (toT v p) (d:Int) b:=by
 have nt:=Tf_NV O c d x h3
 have ef:=F_fr O c d x p hp h3 h2
 have nf:=F_NV O c d p x (by omega)
 have et:toT (G.F c d p x) p=G.Tf c d x:=by rw [ef];exact to_fr nt (by omega)
 refine⟨x,d,by omega,rfl,h3,toT_NV hv (by omega),?_⟩
 rcases h with ⟨a,b⟩ | ⟨a,b⟩ | ⟨a,b⟩
 ·exact .inl ⟨a,by rw [b,et]⟩
 ·exact .inr (.inl ⟨a,by rw [← et];exact toT_mono hv nf (by omega) b⟩)
 ·exact .inr (.inr ⟨a,by rw [← et];exact toT_mono nf hv (by omega) b⟩)
def Res (F α β v:Int):Prop:=(v≤α→F≤v)∧(β≤v→v≤F)∧(α < v→v < β→v=F)
theorem Res.neg {F α β v} (h:Res F (-β) (-α) v):Res (-F) α β (-v):=by unfold Res at h ⊢;omega
theorem Res.eq {F α β:Int}:Res F α β F:=by unfold Res;omega
theorem lp_cut {best α β Fm v:Int} {l:List Int} (h1:-32001≤best) (h0:best≤α) (hr:Res Fm α β v) (h:β≤v) (hab:α < β):Res (fmx best (Fm::l)) α β v:=by
 obtain⟨r,hr'⟩:=fmx_low l
 unfold Res at hr ⊢
 simp only [fmx]
 rw [hr' _ (by omega)]
 omega
theorem lp_up {best α β Fm w v:Int} {l:List Int} (h1:-32001≤best) (h0:best≤α) (hr:Res Fm α β w) (hw:best < w) (hwb:w < β) (hl:Res (fmx w l) (max α w) β v):Res (fmx best (Fm::l)) α β v:=by
 obtain⟨r,hr'⟩:=fmx_low l
 unfold Res at hr hl ⊢
 simp only [fmx]
 rw [hr' _ (by omega)] at hl ⊢
 omega
theorem lp_same {best α β Fm w v:Int} {l:List Int} (h1:-32001≤best) (h0:best≤α) (hr:Res Fm α β w) (hw:w≤best) (hl:Res (fmx best l) α β v):Res (fmx best (Fm::l)) α β v:=by
 obtain⟨r,hr'⟩:=fmx_low l
 unfold Res at hr hl ⊢
 simp only [fmx]
 rw [hr' _ (by omega)] at hl ⊢
 omega
def Lead (G:Gm) (c:Nat):Nat→Nat→Nat→List Int→Int→Prop
 | d,p,x,[],_=>d=0∨G.kid x=[]∨(0 < p∧G.dr x=true)
 | 0,_,_,_::_,_=>False
 | d+1,p,x,m::r,v=>∃ m':Nat,m=(m':Int)∧Lg G x m'∧¬ (0 < p∧G.dr x=true)∧G.F c d (p+1) (G.to x m') = -v∧Lead G c d (p+1) (G.to x m') r (-v)
theorem Lead.len {G:Gm} {c:Nat}:∀ {d p x:Nat} {r:List Int} {v:Int},Lead G c d p x r v→r.length≤d
 | d,p,x,[],v,h=>by simp
 | 0,p,x,_::_,v,h=>h.elim
 | d+1,p,x,m::r,v,h=>by
  obtain⟨m',_,_,_,_,h⟩:=h
  have:=Lead.len h
  simp;omega
end Bn
namespace Bn
open Bm
structure SOk (G:Gm) (c:Nat) (f:Cf) (σ:Sg):Prop where
 tb:∀ cl w,f.tab=some (cl,w)→TS f cl w σ.slots∧TOk (Vt G c) σ.slots
 kh:f.kh=true→σ.first.length=3∧σ.second.length=3∧HOk σ.scores
 ll:σ.lines.length≤4
structure At (σ:Sg) (p x:Nat):Prop where
 len:σ.path.length=p+1
 last:σ.path.getLast? = some x
 unw:Unw σ
structure Fr (σ σ':Sg):Prop where
 path:σ'.path=σ.path
 made:σ'.made=σ.made
 nodes:σ.nodes≤σ'.nodes
theorem At.fr {σ σ' p x} (h:At σ p x) (f:Fr σ σ'):At σ' p x:=⟨by rw [f.path];exact h.len,by rw [f.path];exact h.last,⟨by rw [f.path];exact h.unw.hd,by rw [f.path,f.made];exact h.unw.md⟩⟩
theorem Fr.trans {a b c:Sg} (h:Fr a b) (k:Fr b c):Fr a c:=⟨k.path.trans h.path,k.made.trans h.made,Int.le_trans h.nodes k.nodes⟩
def Runs (f:Cf) (G:Gm) (age:Int) (fn k:Nat) (args:Ad→List AV) (σ σ':Sg) (v:AV):Prop :=
 ∀ (N:Nat),k≤N→∀ (A:Ad) (most:Int) (R H:AHeap) (Q X:EQ),(most≤0∨σ.nodes≤most)→SR A { f with most:=most } G age σ R H →
  ((most≤0∨σ'.nodes≤most)→∀ H',SR A { f with most:=most } G age σ' R H'→Q v H') →
  (0 < most→most < σ'.nodes→∀ σ'' H',Unw σ''→σ''.nodes=most→SR A { f with most:=most } G age σ'' R H'→X (.int most) H') →
  FW tT N false fn (args A) H Q X
theorem to_some {G:Gm} {x m:Nat} (h:Lg G x m):(G.kid x)[m - 1]? = some (G.to x m):=by
 obtain⟨y,hy⟩:=getSome (l:=G.kid x) (k:=m - 1) (by have:=h.1;have:=h.2;omega)
 unfold Gm.to;rw [hy];rfl
theorem to_lt {G:Gm} (O:GOk G) {x m:Nat} (h:Lg G x m):G.to x m < G.kids.length∧0 < G.to x m:=by
 have e:=to_some h
 unfold Gm.kid at e
 cases hk:G.kids[x]? with
 | none=>rw [hk] at e;simp at e
 | some k =>
  rw [hk] at e
  have:=(O.kidR x k hk).2 (G.to x m) (List.mem_of_getElem? e)
  omega
def Sg.dn (σ:Sg) (y:Nat):Sg:={ σ with path:=σ.path++[y],made:=σ.made+1 }
def Sg.bk (σ' σ:Sg):Sg:={ σ' with path:=σ.path,made:=σ'.made - 1 }
theorem At.dn {σ p x} (h:At σ p x) (y:Nat):At (σ.dn y) (p+1) y:=by
 refine⟨by simp [Sg.dn,h.len],by simp [Sg.dn],⟨?_,?_⟩⟩
 ·have:=h.unw.hd
  unfold Sg.dn;dsimp only
  cases hp:σ.path with
  | nil=>have:=h.len;rw [hp] at this;cases this
  | cons a r=>rw [hp] at this;simpa using this
 ·have:=h.unw.md
  unfold Sg.dn;simp only [List.length_append,List.length_cons,List.length_nil];omega
theorem Fr.bk {σ σ':Sg} {y:Nat} (h:Fr (σ.dn y) σ'):Fr σ (σ'.bk σ):=⟨rfl,by have:=h.made;unfold Sg.dn at this;unfold Sg.bk;dsimp only at this ⊢;omega,h.nodes⟩
theorem SOk.dn {G c f σ} (h:SOk G c f σ) (y:Nat):SOk G c f (σ.dn y):=⟨h.tb,h.kh,h.ll⟩
theorem SOk.bk {G c f σ'} (h:SOk G c f σ') (σ:Sg):SOk G c f (σ'.bk σ):=⟨h.tb,h.kh,h.ll⟩
theorem At.ne {σ p x} (h:At σ p x):σ.path≠[]:=fun e=>by have:=h.len;rw [e] at this;cases this
def QS (G:Gm) (c0:Nat) (f:Cf) (age:Int) (c:Nat):Prop:=∀ (σ:Sg) (p x:Nat) (α β:Int),SOk G c0 f σ→At σ p x→x < G.kids.length→p+c≤20→α < β→-32001≤α→β≤32001 →
 ∃ v σ',SOk G c0 f σ'∧Fr σ σ'∧σ'.lines=σ.lines∧Res (G.q c p x) α β v∧NV p (c+1) v∧σ.nodes < σ'.nodes ∧
  ∀ pl ql:Int,pl=p→ql=c→Runs f G age 482 (2*c+8) (fun A=>[.ref A.c,.int α,.int β,.int pl,.int ql]) σ σ' (.int v)
def todo (m:Nat) (P:Pk):List Nat:=if m=0 then [] else m::pend P
theorem x_next' (G:Gm) (O:GOk G) (f:Cf) (σ:Sg) (x:Nat) (hx:σ.path.getLast? = some x) (hN:x < G.kids.length) (h3:f.kh=true→σ.first.length=3∧σ.second.length=3) (P:Pk) (hs:P.stage≤5) (hm:∀ m∈pend P,Lg G x m) (hsm:P.left.length+P.losing.length < 1000) (hsz:(pend P).length < 1000) :
  ∃ (m:Nat) (P':Pk),(m≠0→P'.stage≤5∧P'.left.length+P'.losing.length < 1000∧(pend P').length < 1000)∧(pend P).Perm (todo m P') ∧
  ∀ (n:Nat) (A:Ad) (most age:Int) (B R H:AHeap) (p l r lo:Nat) (Q X:EQ),SR A { f with most:=most } G age σ R H→PR A { f with most:=most } p l r lo P B R →
   (∀ H' R' l' r',SR A { f with most:=most } G age σ R' H'→(m≠0→PR A { f with most:=most } p l' r' lo P' B R')→(∀ a o,B a=some o→R' a=some o)→Q (.int m) H') →
   FW tT (n+5) false 435 [.ref p] H Q X:=by
 obtain⟨m,P',a1,a2,a3,a4,go⟩:=x_next G O f σ x hx hN h3 P hs hm hsm hsz
 refine⟨m,P',fun z=>⟨a1,a2,?_⟩,?_,go⟩
 ·have:=(a4 z).length_eq;simp only [List.length_cons] at this;omega
 ·unfold todo
  by_cases z:m=0
  ·rw [if_pos z,a3 z]
  ·rw [if_neg z];exact a4 z
def aft (W:List AV→AHeap→SQ→Prop) (Q:SQ):SQ:=fun fl ρ' H'=>match fl with
 | .next | .cont=>W ρ' H' Q
 | .brk=>Q .next ρ' H'
 | .ret v=>Q (.ret v) ρ' H'
theorem while_step {test body k ρ H Q}:whileL test body (k+1) ρ H Q=test ρ H (fun b H₁=>if b=true then body ρ H₁ (aft (whileL test body k) Q) else Q .next ρ H₁):=by
 rw [whileL]
 congr 1
theorem aft_next {W Q ρ H}:aft W Q .next ρ H=W ρ H Q:=rfl
theorem aft_ret {W Q ρ H v}:aft W Q (.ret v) ρ H=Q (.ret v) ρ H:=rfl
theorem aft_brk {W Q ρ H}:aft W Q .brk ρ H=Q .next ρ H:=rfl
def qW (n:Nat) (X:SX):Nat→List AV→AHeap→SQ→Prop:=whileL (fun ρ H K=>vE tT false (FW tT (n+8) false) (.cmp .ne (.loc 8) (.c (.int 0))) ρ H (fun v H=>truthy v H fun r=>K r H) (fun n H=>X n ρ H)) (fun ρ H K=>vSs tT (FW tT (n+8)) ir_quiesce_moves_loop0 false ρ H K X)
def ql_rest:ISs:=match ir_quiesce_moves_loop0 with
 | .cons _ (.cons _ (.cons _ r))=>r
 | _=>.nil
theorem ql_eq:ir_quiesce_moves_loop0=.cons (.expr (.call 148 (.cons (.loc 0) (.cons (.loc 8) .nil)))) (.cons (.asg 9 (.neg (.call 482 (.cons (.loc 0) (.cons (.neg (.loc 4)) (.cons (.neg (.loc 3)) (.cons (.bin .add (.loc 5) (.c (.int 1))) (.cons (.bin .sub (.loc 6) (.c (.int 1))) .nil)))))))) (.cons (.expr (.call 155 (.cons (.loc 0) .nil))) ql_rest)):=rfl
theorem q_loop (G:Gm) (O:GOk G) (c0:Nat) (f:Cf) (age:Int) (c:Nat) (ih:QS G c0 f age c) (p x:Nat) (hN:x < G.kids.length) (hpc:p+c≤19) (β:Int) (hβ:β≤32001) :
  ∀ (k:Nat) (σ:Sg) (m:Nat) (P:Pk) (best α:Int),(todo m P).length≤k→SOk G c0 f σ→At σ p x→(∀ y∈todo m P,Lg G x y)→(m≠0→P.stage≤5∧P.left.length+P.losing.length < 1000∧(pend P).length < 1000)→best≤α→α < β→-32001≤best→(NV p (c+2) best∨(best = -32001∧todo m P≠[])) →
  ∃ v σ',SOk G c0 f σ'∧Fr σ σ'∧σ'.lines=σ.lines∧Res (fmx best ((todo m P).map fun m=>-G.q c (p+1) (G.to x m))) α β v∧NV p (c+2) v ∧
  ∀ (n:Nat),2*c≤n→∀ (A:Ad) (most:Int) (B R H:AHeap) (pk l r lo:Nat) (v1 v9:AV) (pl ql:Int) (Q:SQ) (X:SX),pl=p→ql=(c:Int)+1→(most≤0∨σ.nodes≤most)→SR A { f with most:=most } G age σ R H→(m≠0→PR A { f with most:=most } pk l r lo P B R)→(∀ a o,B a=some o→R a=some o) →
   ((most≤0∨σ'.nodes≤most)→∀ H',SR A { f with most:=most } G age σ' B H'→(∀ ρ,lget ρ 2=.int v→Q .next ρ H')∧(∀ ρ,Q (.ret (.int v)) ρ H')) →
   (0 < most→most < σ'.nodes→∀ σ'' ρ H',Unw σ''→σ''.nodes=most→SR A { f with most:=most } G age σ'' B H'→X (.int most) ρ H') →
   qW n X (k+1) [.ref A.c,v1,.int best,.int α,.int β,.int pl,.int ql,.ref pk,.int m,v9] H Q
 | k,σ,m,P,best,α,hk,I,T,hm,hP,h0,hab,h1,hnv=>by
  by_cases z:m=0
  ·have e:todo m P=[]:=by unfold todo;rw [if_pos z]
   have hb:NV p (c+2) best:=by
    rcases hnv with h | h
    ·exact h
    ·exact absurd e h.2
   refine⟨best,σ,I,⟨rfl,rfl,Int.le_refl _⟩,rfl,by rw [e];exact Res.eq,hb,fun n hn A most B R H pk l r lo v1 v9 pl ql Q X e1 e2 hmo S Z hB h2 h3=>?_⟩
   unfold qW;rw [while_step]
   simp only [vE,LG,c_ne,t_bool,z,show((0:Nat):Int)=0 from rfl,decide_true,Bool.not_true,DF]
   exact(h2 hmo H (S.drop hB)).1 _ rfl
  ·have e:todo m P=m::pend P:=by unfold todo;rw [if_neg z]
   rw [e] at hk hm hnv
   cases k with
   | zero=>simp at hk
   | succ k =>
   obtain⟨hP1,hP2,hP3⟩:=hP z
   have lg:=hm m (by simp)
   have hy:=to_some lg
   obtain⟨y1,y2⟩:=to_lt O lg
   generalize hyy:G.to x m=y at hy y1 y2
   obtain⟨v',σ2,I2,F2,L2,R2,V2,N2,run⟩:=ih (σ.dn y) (p+1) y (-β) (-α) (I.dn y) (T.dn y) y1 (by omega) (by omega) (by omega) (by omega)
   have I3:=I2.bk σ
   have F3:=F2.bk
   have T3:=T.fr F3
   obtain⟨m2,P2,b1,b2,nxt⟩:=x_next' G O f (σ2.bk σ) x T3.last hN (fun h=>⟨(I3.kh h).1,(I3.kh h).2.1⟩) P hP1 (fun y hy=>hm y (by simp [hy])) hP2 hP3
   have hlen:(todo m2 P2).length≤k:=by rw [← b2.length_eq];simpa using hk
   have hm2:∀ y∈todo m2 P2,Lg G x y:=fun y hy=>hm y (by simp [b2.mem_iff.2 hy])
   have vr:=R2.neg
   have vn:NV p (c+2) (-v'):=V2.neg
   have vlo:=vn.ge (by omega)
   rw [← hyy] at vr
   have fperm:∀ b,fmx b ((pend P).map fun m=>-G.q c (p+1) (G.to x m))=fmx b ((todo m2 P2).map fun m=>-G.q c (p+1) (G.to x m)):=fmx_perm (b2.map _)
   obtain⟨v,σ',J1,J2,J3,J4,J5,cont⟩:∃ v σ',SOk G c0 f σ'∧Fr (σ2.bk σ) σ'∧σ'.lines=(σ2.bk σ).lines∧Res (fmx best ((m::pend P).map fun m=>-G.q c (p+1) (G.to x m))) α β v∧NV p (c+2) v ∧
     ∀ (n:Nat),2*c≤n→∀ (A:Ad) (most:Int) (B R H:AHeap) (pk l r lo:Nat) (v1:AV) (pl ql:Int) (Q:SQ) (X:SX),pl=p→ql=(c:Int)+1→(most≤0∨(σ2.bk σ).nodes≤most)→SR A { f with most:=most } G age (σ2.bk σ) R H→PR A { f with most:=most } pk l r lo P B R →
      ((most≤0∨σ'.nodes≤most)→∀ H',SR A { f with most:=most } G age σ' B H'→(∀ ρ,lget ρ 2=.int v→Q .next ρ H')∧(∀ ρ,Q (.ret (.int v)) ρ H')) →
      (0 < most→most < σ'.nodes→∀ σ'' ρ H',Unw σ''→σ''.nodes=most→SR A { f with most:=most } G age σ'' B H'→X (.int most) ρ H') →
      vSs tT (FW tT (n+8)) ql_rest false [.ref A.c,v1,.int best,.int α,.int β,.int pl,.int ql,.ref pk,.int m,.int (-v')] H (aft (qW n X (k+1)) Q) X:=by
    by_cases c1:-v' > best
    ·by_cases c2:-v'≥β
     ·refine⟨-v',σ2.bk σ,I3,⟨rfl,rfl,Int.le_refl _⟩,rfl,?_,vn,fun n hn A most B R H pk l r lo v1 pl ql Q X e1 e2 hmo S Z h2 h3=>?_⟩
      ·rw [List.map_cons];exact lp_cut h1 h0 vr c2 hab
      ·simp only [ql_rest,ir_quiesce_moves_loop0,vSs,vS,vE,vEs,LS,c_gt,c_ge,t_bool,c1,c2,DT,aft_ret]
       exact(h2 hmo H (S.drop Z.sub)).2 _
     ·obtain⟨v,σ',J1,J2,J3,J4,J5,go⟩:=q_loop G O c0 f age c ih p x hN hpc β hβ k (σ2.bk σ) m2 P2 (-v') (max α (-v')) hlen I3 T3 hm2 b1 (by omega) (by omega) (by omega) (.inl vn)
      refine⟨v,σ',J1,J2,J3,?_,J5,fun n hn A most B R H pk l r lo v1 pl ql Q X e1 e2 hmo S Z h2 h3=>?_⟩
      ·rw [List.map_cons];refine lp_up h1 h0 vr c1 (by omega) ?_;rw [fperm];exact J4
      ·simp only [ql_rest,ir_quiesce_moves_loop0,vSs,vS,vE,vEs,LS,c_gt,c_ge,t_bool,c1,c2,DT,DF,true_and,m_obj (T:=tT) (f:=435) (S.sub _ _ Z.obj) (n:="next") rfl rfl]
       refine nxt (n+3) A most age B R H pk l r lo _ _ S Z fun H' R' l' r' S' Z' hB'=>?_
       rw [aft_next]
       exact go n hn A most B R' H' pk l' r' lo v1 _ pl ql Q X e1 e2 hmo S' Z' hB' h2 h3
    ·obtain⟨v,σ',J1,J2,J3,J4,J5,go⟩:=q_loop G O c0 f age c ih p x hN hpc β hβ k (σ2.bk σ) m2 P2 best α hlen I3 T3 hm2 b1 h0 hab h1 (.inl (by
      rcases hnv with h | h
      ·exact h
      ·omega))
     refine⟨v,σ',J1,J2,J3,?_,J5,fun n hn A most B R H pk l r lo v1 pl ql Q X e1 e2 hmo S Z h2 h3=>?_⟩
     ·rw [List.map_cons];refine lp_same h1 h0 vr (by omega) ?_;rw [fperm];exact J4
     ·simp only [ql_rest,ir_quiesce_moves_loop0,vSs,vS,vE,vEs,LS,c_gt,c_ge,t_bool,c1,DT,DF,true_and,m_obj (T:=tT) (f:=435) (S.sub _ _ Z.obj) (n:="next") rfl rfl]
      refine nxt (n+3) A most age B R H pk l r lo _ _ S Z fun H' R' l' r' S' Z' hB'=>?_
      rw [aft_next]
      exact go n hn A most B R' H' pk l' r' lo v1 _ pl ql Q X e1 e2 hmo S' Z' hB' h2 h3
   refine⟨v,σ',J1,F3.trans J2,J3.trans L2,by rw [e];exact J4,J5,fun n hn A most B R H pk l r lo v1 v9 pl ql Q X e1 e2 hmo S Z hB h2 h3=>?_⟩
   have hnn:=J2.nodes
   unfold qW;rw [while_step]
   simp only [vE,LG,c_ne,t_bool,show ¬ ((m:Int)=0) by omega,decide_false,Bool.not_false,if_true]
   rw [ql_eq]
   simp only [vSs,vS,vE,vEs,LS]
   refine x_step_into S O T.last hN (by rw [T.len];omega) lg.1 hy fun H1 S1=>?_
   simp only [b_add,b_sub]
   refine run (pl+1) (ql - 1) (by omega) (by omega) (n+8) (by omega) A most R H1 _ _ hmo S1 (fun hm2 H2 S2=>?_) (fun q1 q2 σ'' H'' u1 u2 u3=>?_)
   ·simp only [LS]
    refine x_step_back S2 (F2.path) T.ne fun H3 S3=>?_
    exact cont n hn A most B R H3 pk l r lo v1 pl ql Q X e1 e2 hm2 S3 (Z z) h2 h3
   ·exact h3 q1 (Int.lt_of_lt_of_le q2 hnn) σ'' _ H'' u1 u2 (u3.drop hB)
theorem pend_new {tm:Int} {p:Nat} {mv:List Nat}:pend ⟨tm,p,0,mv,[],[]⟩=mv:=by simp [pend]
theorem x_quiesce_moves (G:Gm) (O:GOk G) (c0:Nat) (f:Cf) (age:Int) (c:Nat) (ih:QS G c0 f age c) (p x:Nat) (hN:x < G.kids.length) (hpc:p+c≤19) (mv:List Nat) (hmv:∀ y∈mv,Lg G x y) (hl:mv.length < 1000) (σ:Sg) (best α β:Int) (hβ:β≤32001) (I:SOk G c0 f σ) (T:At σ p x) (h0:best≤α) (hab:α < β) (h1:-32001≤best) (hnv:NV p (c+2) best∨(best = -32001∧mv≠[])) :
  ∃ v σ',SOk G c0 f σ'∧Fr σ σ'∧σ'.lines=σ.lines∧Res (fmx best (mv.map fun m=>-G.q c (p+1) (G.to x m))) α β v∧NV p (c+2) v ∧
  ∀ (n:Nat),2*c≤n→∀ (A:Ad) (most:Int) (R H:AHeap) (ml:Nat) (pl ql:Int) (Q X:EQ),pl=p→ql=(c:Int)+1→(most≤0∨σ.nodes≤most)→SR A { f with most:=most } G age σ R H→H ml=some (.list (nats mv)) →
   ((most≤0∨σ'.nodes≤most)→∀ H',SR A { f with most:=most } G age σ' R H'→Q (.int v) H') →
   (0 < most→most < σ'.nodes→∀ σ'' H',Unw σ''→σ''.nodes=most→SR A { f with most:=most } G age σ'' R H'→X (.int most) H') →
   FW tT (n+9) false 489 [.ref A.c,.ref ml,.int best,.int α,.int β,.int pl,.int ql] H Q X:=by
 obtain⟨m,P,b1,b2,nxt⟩:=x_next' G O f σ x T.last hN (fun h=>⟨(I.kh h).1,(I.kh h).2.1⟩) ⟨0,p,0,mv,[],[]⟩ (by simp) (by rw [pend_new];exact hmv) (by simpa using hl) (by rw [pend_new];exact hl)
 rw [pend_new] at b2
 obtain⟨v,σ',J1,J2,J3,J4,J5,go⟩:=q_loop G O c0 f age c ih p x hN hpc β hβ (todo m P).length σ m P best α (Nat.le_refl _) I T (fun y hy=>hmv y (b2.mem_iff.2 hy)) b1 h0 hab h1 (by
  rcases hnv with h | ⟨h,h'⟩
  ·exact .inl h
  ·exact .inr ⟨h,fun e=>h' (by rw [e] at b2;exact b2.eq_nil)⟩)
 refine⟨v,σ',J1,J2,J3,?_,J5,fun n hn A most R H ml pl ql Q X e1 e2 hmo S hml h2 h3=>⟨rfl,?_⟩⟩
 ·rw [fmx_perm (b2.map _)];exact J4
 show vSs tT (FW tT (n+8)) ir_quiesce_moves false [.ref A.c,.ref ml,.int best,.int α,.int β,.int pl,.int ql,.undef,.undef,.undef] H _ _
 unfold ir_quiesce_moves
 subst e1
 have hk:kilV A { f with most:=most }≠.undef:=by unfold kilV;split <;> simp
 have hh:hisV A { f with most:=most }≠.undef:=by unfold hisV;split <;> simp
 simp only [vSs,vS,vE,vEs,LG,ctx_at S (n:="game") rfl rfl (by simp),ctx_at S (n:="killers") rfl rfl hk,ctx_at S (n:="history") rfl rfl hh,show tT.ini 464=some 428 from rfl]
 intro pk hpk
 refine x_picker_init (n:=n+7) S hpk hml 0 p fun H1 R1 l r lo S1 Z1=>?_
 simp only [LS,m_obj (T:=tT) (f:=435) (S1.sub _ _ Z1.obj) (n:="next") rfl rfl]
 refine nxt (n+3) A most age R R1 H1 pk l r lo _ _ S1 Z1 fun H2 R2 l2 r2 S2 Z2 hB=>?_
 refine⟨_,go n hn A most R R2 H2 pk l2 r2 lo _ _ p ql _ _ rfl e2 hmo S2 Z2 hB (fun q1 H' S'=>⟨fun ρ hρ=>?_,fun ρ=>?_⟩) (fun q1 q2 σ'' ρ H' u1 u2 u3=>h3 q1 q2 σ'' H' u1 u2 u3)⟩
 ·simp only [vSs,vS,vE,hρ];exact h2 q1 H' S'
 ·exact h2 q1 H' S'
def q_rest:ISs:=match ir_quiesce with
 | .cons _ (.cons _ (.cons _ r))=>r
 | _=>.nil
theorem q_eq:ir_quiesce=.cons (.expr (.meth (.loc 0) "tick" .nil)) (.cons (.asg 5 (.attr (.loc 0) "game")) (.cons (.ite (.and (.cmp .gt (.loc 3) (.c (.int 0))) (.meth (.loc 5) "is_draw" .nil)) (.cons (.ret (.c (.int 0))) .nil) .nil) q_rest)):=rfl
def Sg.tk (σ:Sg):Sg:={ σ with nodes:=σ.nodes+1 }
theorem SOk.tk {G c f σ} (h:SOk G c f σ):SOk G c f σ.tk:=⟨h.tb,h.kh,h.ll⟩
theorem Fr.tk {σ:Sg}:Fr σ σ.tk:=⟨rfl,rfl,by unfold Sg.tk;dsimp only;omega⟩
theorem q_head (G:Gm) (O:GOk G) (f:Cf) (age:Int) (σ σ':Sg) (p x:Nat) (T:At σ p x) (hN:x < G.kids.length) (hn':σ.nodes < σ'.nodes) {n:Nat} {A:Ad} {most:Int} {R H:AHeap} {α β pl ql:Int} {Q X:EQ} (e1:pl=p) (hmo:most≤0∨σ.nodes≤most) (S:SR A { f with most:=most } G age σ R H)
  (hd:0 < p→G.dr x=true→(most≤0∨σ.tk.nodes≤most)→∀ H',SR A { f with most:=most } G age σ.tk R H'→Q (.int 0) H')
  (hr:¬ (0 < p∧G.dr x=true)→(most≤0∨σ.tk.nodes≤most)→∀ H',SR A { f with most:=most } G age σ.tk R H'→vSs tT (FW tT (n+1)) q_rest false [.ref A.c,.int α,.int β,.int pl,.int ql,.ref A.g,.undef,.undef] H' (fun fl _ H'=>match fl with | .ret v=>Q v H' | .next=>Q .none H' | _=>False) (fun k _ H'=>X k H'))
  (hx:0 < most→most < σ'.nodes→∀ σ'' H',Unw σ''→σ''.nodes=most→SR A { f with most:=most } G age σ'' R H'→X (.int most) H') :
  FW tT (n+2) false 482 [.ref A.c,.int α,.int β,.int pl,.int ql] H Q X:=by
 refine⟨rfl,?_⟩
 show vSs tT (FW tT (n+1)) ir_quiesce false [.ref A.c,.int α,.int β,.int pl,.int ql,.undef,.undef,.undef] H _ _
 rw [q_eq]
 simp only [vSs,vS,vE,vEs,LS,m_obj (T:=tT) (f:=134) S.dy.ctx (n:="tick") rfl rfl]
 refine x_tick S (fun q1 q2=>?_) (fun q H1 S1=>?_)
 ·have q1':0 < most:=q1
  have q2':σ.nodes≥most:=q2
  have e:σ.nodes=most:=by omega
  rw [e]
  exact hx q1' (by omega) σ H T.unw e S
 have hm1:most≤0∨σ.tk.nodes≤most:=by
  have:¬ (most > 0∧σ.nodes≥most):=q
  unfold Sg.tk;dsimp only;omega
 simp only [ctx_at S1 (n:="game") rfl rfl (by simp),LS,c_gt,t_bool]
 by_cases hp:0 < p
 ·simp only [show pl > 0 by omega,DT,m_obj (T:=tT) (f:=662) S1.st.game.1 (n:="is_draw") rfl rfl]
  refine g_is_draw S1 O (show σ.tk.path.getLast? = some x from T.last) hN ?_
  simp only [t_bool]
  by_cases d:G.dr x=true
  ·rw [if_pos d];exact hd hp d hm1 H1 S1
  ·rw [if_neg d];exact hr (fun z=>d z.2) hm1 H1 S1
 ·simp only [show ¬ (pl > 0) by omega,DF,t_bool]
  exact hr (fun z=>hp z.1) hm1 H1 S1
theorem t_nats {l:Nat} {xs:List Nat} {H:AHeap} {Q:Bool→Prop} (h:H l=some (.list (nats xs))):truthy (.ref l) H Q=Q (!xs.isEmpty):=by
 rw [t_list h];cases xs <;> rfl
theorem x_quiesce (G:Gm) (O:GOk G) (c0:Nat) (f:Cf) (age:Int):∀ c,QS G c0 f age c
 | 0,σ,p,x,α,β,I,T,hN,hpc,hab,hα,hβ=>by
  refine⟨G.q 0 p x,σ.tk,I.tk,Fr.tk,rfl,Res.eq,q_NV O 0 p x (by omega),by unfold Sg.tk;dsimp only;omega,fun pl ql e1 e2 N hNk A most R H Q X hmo S h2 h3=>?_⟩
  obtain⟨n,rfl⟩:∃ n,N=n+4:=⟨N - 4,by omega⟩
  refine q_head G O f age σ σ.tk p x T hN (by unfold Sg.tk;dsimp only;omega) e1 hmo S (fun d1 d2 hm1 H1 S1=>?_) (fun d hm1 H1 S1=>?_) h3
  ·have e:G.q 0 p x=0:=by unfold Gm.q;rw [if_pos ⟨d1,d2⟩]
   rw [e] at h2;exact h2 hm1 H1 S1
  ·have Tl:σ.tk.path.getLast? = some x:=T.last
   simp only [q_rest,ir_quiesce,vSs,vS,vE,vEs,LG,m_obj (T:=tT) (f:=655) S1.st.game.1 (n:="in_check") rfl rfl]
   refine g_in_check S1 O Tl hN ?_
   simp only [t_bool]
   by_cases ck:G.ck x=true
   ·rw [if_pos ck]
    simp only [m_obj (T:=tT) (f:=615) S1.st.game.1 (n:="moves") rfl rfl]
    refine g_moves S1 O Tl hN fun a ha=>?_
    have S2:=S1.new (o:=.list (nats (G.mv x))) ha
    have hm:upd H1 a (.list (nats (G.mv x))) a=some (.list (nats (G.mv x))):=upd_eq
    simp only [LS,t_nats hm,t_bool]
    by_cases hk:G.kid x=[]
    ·have e:G.q 0 p x=(p:Int) - 32000:=by unfold Gm.q;rw [if_neg d,if_pos ⟨ck,hk⟩]
     rw [mv_nil.2 hk]
     simp only [show(!(!([]:List Nat).isEmpty))=true from rfl,if_true]
     refine mated_in_ok ?_
     rw [e1,← e]
     rw [mv_nil.2 hk] at S2
     exact h2 hm1 _ S2
    ·have hmv:(!(!(G.mv x).isEmpty))=false:=by
      cases hh:G.mv x with
      | nil=>exact absurd (mv_nil.1 hh) hk
      | cons=>rfl
     have e:G.q 0 p x=G.val x:=by unfold Gm.q;rw [if_neg d,if_neg fun z=>hk z.2]
     simp only [hmv,DF,c_le,t_bool,show ql≤0 by omega,DT,m_obj (T:=tT) (f:=641) S2.st.game.1 (n:="value") rfl rfl]
     refine g_value S2 O Tl hN ?_
     rw [← e];exact h2 hm1 _ S2
   ·rw [if_neg ck]
    have e:G.q 0 p x=G.val x:=by unfold Gm.q;rw [if_neg d,if_neg fun z=>ck z.1]
    simp only [m_obj (T:=tT) (f:=641) S1.st.game.1 (n:="value") rfl rfl]
    refine g_value S1 O Tl hN ?_
    simp only [LS,c_le,t_bool,show ql≤0 by omega,DT]
    rw [← e];exact h2 hm1 _ S1
 | c+1,σ,p,x,α,β,I,T,hN,hpc,hab,hα,hβ=>by
  have ih:=x_quiesce G O c0 f age c
  have hv:=val_rng O x
  have T1:At σ.tk p x:=⟨T.len,T.last,⟨T.unw.hd,T.unw.md⟩⟩
  have Tl:σ.tk.path.getLast? = some x:=T.last
  have lt:σ.nodes < σ.tk.nodes:=by unfold Sg.tk;dsimp only;omega
  by_cases d:0 < p∧G.dr x=true
  ·have e:G.q (c+1) p x=0:=by unfold Gm.q;rw [if_pos d]
   refine⟨0,σ.tk,I.tk,Fr.tk,rfl,by rw [e];exact Res.eq,by unfold NV;omega,lt,fun pl ql e1 e2 N hNk A most R H Q X hmo S h2 h3=>?_⟩
   obtain⟨n,rfl⟩:∃ n,N=n+2:=⟨N - 2,by omega⟩
   exact q_head G O f age σ σ.tk p x T hN lt e1 hmo S (fun d1 d2 hm1 H1 S1=>h2 hm1 H1 S1) (fun d'=>absurd d d') h3
  by_cases ck:G.ck x=true
  ·by_cases hk:G.kid x=[]
   ·have e:G.q (c+1) p x=(p:Int) - 32000:=by unfold Gm.q;rw [if_neg d,if_pos ck,if_pos hk]
    refine⟨(p:Int) - 32000,σ.tk,I.tk,Fr.tk,rfl,by rw [e];exact Res.eq,by unfold NV;omega,lt,fun pl ql e1 e2 N hNk A most R H Q X hmo S h2 h3=>?_⟩
    obtain⟨n,rfl⟩:∃ n,N=n+4:=⟨N - 4,by omega⟩
    refine q_head G O f age σ σ.tk p x T hN lt e1 hmo S (fun d1 d2=>absurd ⟨d1,d2⟩ d) (fun d hm1 H1 S1=>?_) h3
    simp only [q_rest,ir_quiesce,vSs,vS,vE,vEs,LG,m_obj (T:=tT) (f:=655) S1.st.game.1 (n:="in_check") rfl rfl]
    refine g_in_check S1 O Tl hN ?_
    simp only [t_bool,ck,if_true,m_obj (T:=tT) (f:=615) S1.st.game.1 (n:="moves") rfl rfl]
    refine g_moves S1 O Tl hN fun a ha=>?_
    have S2:=S1.new (o:=.list (nats (G.mv x))) ha
    have hm:upd H1 a (.list (nats (G.mv x))) a=some (.list (nats (G.mv x))):=upd_eq
    simp only [LS,t_nats hm,t_bool]
    rw [mv_nil.2 hk] at S2 ⊢
    simp only [show(!(!([]:List Nat).isEmpty))=true from rfl,if_true]
    refine mated_in_ok ?_
    rw [e1]
    exact h2 hm1 _ S2
   ·have hmv:(!(!(G.mv x).isEmpty))=false:=by
     cases hh:G.mv x with
     | nil=>exact absurd (mv_nil.1 hh) hk
     | cons=>rfl
    have hlen:(G.mv x).length < 1000:=by have:=kid_le O x;unfold Gm.mv;simp;omega
    have e:G.q (c+1) p x=fmx (-32001) ((G.mv x).map fun m=>-G.q c (p+1) (G.to x m)):=by rw [Gm.q,if_neg d,if_pos ck,if_neg hk]
    obtain⟨v,σ',J1,J2,J3,J4,J5,go⟩:=x_quiesce_moves G O c0 f age c ih p x hN (by omega) (G.mv x) (fun y hy=>mv_lg.1 hy) hlen σ.tk (-32001) α β hβ I.tk T1 hα hab (by omega) (.inr ⟨rfl,fun z=>hk (mv_nil.1 z)⟩)
    have hnn:=J2.nodes
    refine⟨v,σ',J1,Fr.tk.trans J2,J3,by rw [e];exact J4,J5,by omega,fun pl ql e1 e2 N hNk A most R H Q X hmo S h2 h3=>?_⟩
    obtain⟨n,rfl⟩:∃ n,N=n+10:=⟨N - 10,by omega⟩
    refine q_head G O f age σ σ' p x T hN (by omega) e1 hmo S (fun d1 d2=>absurd ⟨d1,d2⟩ d) (fun d hm1 H1 S1=>?_) h3
    simp only [q_rest,ir_quiesce,vSs,vS,vE,vEs,LG,m_obj (T:=tT) (f:=655) S1.st.game.1 (n:="in_check") rfl rfl]
    refine g_in_check S1 O Tl hN ?_
    simp only [t_bool,ck,if_true,m_obj (T:=tT) (f:=615) S1.st.game.1 (n:="moves") rfl rfl]
    refine g_moves S1 O Tl hN fun a ha=>?_
    have S2:=S1.new (o:=.list (nats (G.mv x))) ha
    have hm:upd H1 a (.list (nats (G.mv x))) a=some (.list (nats (G.mv x))):=upd_eq
    simp only [LS,t_nats hm,t_bool,hmv,DF,c_le,show ¬ (ql≤0) by omega,decide_false]
    exact go n (by omega) A most R _ a pl ql _ _ e1 (by omega) hm1 S2 hm h2 h3
  ·have ef:G.q (c+1) p x=fmx (G.val x) ((G.nz x).map fun m=>-G.q c (p+1) (G.to x m)):=by rw [Gm.q,if_neg d,if_neg ck]
   by_cases hb:G.val x≥β
   ·refine⟨G.val x,σ.tk,I.tk,Fr.tk,rfl,?_,by unfold NV;omega,lt,fun pl ql e1 e2 N hNk A most R H Q X hmo S h2 h3=>?_⟩
    ·rw [ef]
     have:=fmx_le (l:=(G.nz x).map fun m=>-G.q c (p+1) (G.to x m)) (b:=G.val x) (.inr rfl)
     unfold Res;omega
    obtain⟨n,rfl⟩:∃ n,N=n+4:=⟨N - 4,by omega⟩
    refine q_head G O f age σ σ.tk p x T hN lt e1 hmo S (fun d1 d2=>absurd ⟨d1,d2⟩ d) (fun d hm1 H1 S1=>?_) h3
    simp only [q_rest,ir_quiesce,vSs,vS,vE,vEs,LG,m_obj (T:=tT) (f:=655) S1.st.game.1 (n:="in_check") rfl rfl]
    refine g_in_check S1 O Tl hN ?_
    simp only [t_bool,ck,DF,m_obj (T:=tT) (f:=641) S1.st.game.1 (n:="value") rfl rfl]
    refine g_value S1 O Tl hN ?_
    simp only [LS,c_le,c_ge,t_bool,show ¬ (ql≤0) by omega,DF,hb,DT]
    exact h2 hm1 _ S1
   ·have hlen:(G.nz x).length < 1000:=by
     have:=kid_le O x
     have h2:(G.nz x).length≤(G.mv x).length:=List.length_filter_le _ _
     unfold Gm.mv at h2;simp only [List.length_map,List.length_range] at h2;omega
    obtain⟨v,σ',J1,J2,J3,J4,J5,go⟩:=x_quiesce_moves G O c0 f age c ih p x hN (by omega) (G.nz x) (fun y hy=>mv_lg.1 (List.mem_filter.1 hy).1) hlen σ.tk (G.val x) (max α (G.val x)) β hβ I.tk T1 (by omega) (by omega) (by omega) (.inl (by unfold NV;omega))
    have hnn:=J2.nodes
    refine⟨v,σ',J1,Fr.tk.trans J2,J3,?_,J5,by omega,fun pl ql e1 e2 N hNk A most R H Q X hmo S h2 h3=>?_⟩
    ·rw [ef]
     have:=fmx_le (l:=(G.nz x).map fun m=>-G.q c (p+1) (G.to x m)) (b:=G.val x) (.inr rfl)
     unfold Res at J4 ⊢;omega
    obtain⟨n,rfl⟩:∃ n,N=n+10:=⟨N - 10,by omega⟩
    refine q_head G O f age σ σ' p x T hN (by omega) e1 hmo S (fun d1 d2=>absurd ⟨d1,d2⟩ d) (fun d hm1 H1 S1=>?_) h3
    simp only [q_rest,ir_quiesce,vSs,vS,vE,vEs,LG,m_obj (T:=tT) (f:=655) S1.st.game.1 (n:="in_check") rfl rfl]
    refine g_in_check S1 O Tl hN ?_
    simp only [t_bool,ck,DF,m_obj (T:=tT) (f:=641) S1.st.game.1 (n:="value") rfl rfl]
    refine g_value S1 O Tl hN ?_
    simp only [LS,c_le,c_ge,t_bool,show ¬ (ql≤0) by omega,DF,hb,m_obj (T:=tT) (f:=620) S1.st.game.1 (n:="noisy") rfl rfl]
    refine g_noisy S1 O Tl hN fun H2 a S2 ha=>?_
    simp only [true_and]
    exact go n (by omega) A most R _ a pl ql _ _ e1 (by omega) hm1 (S2.new ha) upd_eq h2 h3
end Bn
namespace Bn
open Bm
theorem x_mate_in {n:Nat} {hd:Bool} {p:Int} {H:AHeap} {Q X:EQ} (h:Q (.int (32000 - p)) H):FW tT (n+1) hd 99 [.int p] H Q X:=⟨rfl,h⟩
theorem x_from {v pl:Int} {p:Nat} (e:pl=p) {n:Nat} {hd:Bool} {H:AHeap} {Q X:EQ} (h:Q (.int (frT v p)) H):FW tT (n+1) hd 113 [.int v,.int pl] H Q X:=by
 subst e
 refine⟨rfl,?_⟩
 show vSs tT (FW tT n) ir_from_table hd [.int v,.int p] H _ _
 unfold ir_from_table
 unfold frT at h
 by_cases c1:v≥31754
 ·simpa [vSs,vS,vE,LG,c_ge,c_le,t_bool,b_sub,b_add,c1] using h
 ·by_cases c2:v≤-31754
  ·simpa [vSs,vS,vE,LG,c_ge,c_le,t_bool,b_sub,b_add,c1,c2] using h
  ·simpa [vSs,vS,vE,LG,c_ge,c_le,t_bool,b_sub,b_add,c1,c2] using h
theorem x_to {v pl:Int} {p:Nat} (e:pl=p) {n:Nat} {hd:Bool} {H:AHeap} {Q X:EQ} (h:Q (.int (toT v p)) H):FW tT (n+1) hd 106 [.int v,.int pl] H Q X:=by
 subst e
 refine⟨rfl,?_⟩
 show vSs tT (FW tT n) ir_to_table hd [.int v,.int p] H _ _
 unfold ir_to_table
 unfold toT at h
 by_cases c1:v≥31754
 ·simpa [vSs,vS,vE,LG,c_ge,c_le,t_bool,b_sub,b_add,c1] using h
 ·by_cases c2:v≤-31754
  ·simpa [vSs,vS,vE,LG,c_ge,c_le,t_bool,b_sub,b_add,c1,c2] using h
  ·simpa [vSs,vS,vE,LG,c_ge,c_le,t_bool,b_sub,b_add,c1,c2] using h
def cutB (v d b want α β:Int):Bool:=decide (d=want)&&(decide (b=3)||(decide (b=2)&&decide (v≥β))||(decide (b=1)&&decide (v≤α)))
theorem x_cutoff {v d b want α β:Int} {n:Nat} {hd:Bool} {H:AHeap} {Q X:EQ} (h:Q (.bool (cutB v d b want α β)) H):FW tT (n+1) hd 295 [.int v,.int d,.int b,.int want,.bool true,.int α,.int β] H Q X:=by
 refine⟨rfl,?_⟩
 show vSs tT (FW tT n) ir_cutoff hd [.int v,.int d,.int b,.int want,.bool true,.int α,.int β] H _ _
 unfold ir_cutoff
 unfold cutB at h
 by_cases c1:d=want
 ·subst c1
  by_cases b3:b=3
  ·simpa [vSs,vS,vE,LG,c_ge,c_le,c_lt,c_ne,c_eq,t_bool,b3] using h
  ·by_cases b2:b=2
   ·simpa [vSs,vS,vE,LG,c_ge,c_le,c_lt,c_ne,c_eq,t_bool,b2] using h
   ·by_cases b1:b=1
    ·simpa [vSs,vS,vE,LG,c_ge,c_le,c_lt,c_ne,c_eq,t_bool,b1] using h
    ·simpa [vSs,vS,vE,LG,c_ge,c_le,c_lt,c_ne,c_eq,t_bool,b1,b2,b3] using h
 ·simpa [vSs,vS,vE,LG,c_ge,c_le,c_lt,c_ne,c_eq,t_bool,c1] using h
def ov (o:Option Int):AV:=match o with
 | none=>.none
 | some v=>.int v
theorem tabV_some {A:Ad} {f:Cf} {x:Nat×Nat} (h:f.tab=some x):tabV A f=.ref A.t:=by unfold tabV;rw [h];rfl
theorem tabV_none {A:Ad} {f:Cf} (h:f.tab=none):tabV A f=.none:=by unfold tabV;rw [h];rfl
theorem tab_cases (f:Cf):f.tab=none∨∃ cw,f.tab=some cw:=by cases f.tab <;> simp
theorem x_look_up (G:Gm) (O:GOk G) (c:Nat) (f:Cf) (σ:Sg) (p x d:Nat) (α β:Int) (hab:α < β) (I:SOk G c f σ) (hp:okp x p) (h2:p≤20) (hdc:d+c≤20) :
  ∃ (tm:Int) (o:Option Int),(∀ v,o=some v→Res (G.F c d p x) α β v∧NV p (d+c+1) v) ∧
  ∀ (n:Nat) (A:Ad) (most age:Int) (R H:AHeap) (key dl pl:Int) (Q X:EQ),key=(x:Int)+1→dl=d→pl=p→SR A { f with most:=most } G age σ R H →
   (∀ H1 a,SR A { f with most:=most } G age σ R H1→H1 a=none→Q (.ref a) (upd H1 a (.tup [.int tm,ov o]))) →
   FW tT (n+3) false 517 [.ref A.c,.int key,.int α,.int β,.int dl,.int pl] H Q X:=by
 rcases tab_cases f with htab | ⟨⟨cl,w⟩,htab⟩
 ·
  refine⟨0,none,by simp,fun n A most age R H key dl pl Q X e1 e2 e3 S h=>⟨rfl,?_⟩⟩
  show vSs tT (FW tT (n+2)) ir_look_up false [.ref A.c,.int key,.int α,.int β,.int dl,.int pl,.undef,.undef] H _ _
  unfold ir_look_up
  have tv:tabV A { f with most:=most }=.none:=tabV_none htab
  have:=fun Q=>ctx_at S (n:="table") (v:=tabV A { f with most:=most }) rfl rfl (by rw [tv];simp) (Q:=Q)
  rw [tv] at this
  simp only [vSs,vS,vE,vEs,LG,this,is_none,t_bool,if_true]
  intro a ha
  exact h H a S ha
 ·
  obtain⟨ts,tk⟩:=I.tb cl w htab
  obtain⟨r,r1,r2⟩:=x_probe ts tk (x+1)
  have att:∀ {A:Ad} {most age:Int} {R H:AHeap},SR A { f with most:=most } G age σ R H→∀ Q,vAttr tT (.ref A.c) "table" H Q=Q (.ref A.t):=fun {A most age R H} S Q=>by
   have tv:tabV A { f with most:=most }=.ref A.t:=tabV_some (x:=(cl,w)) htab
   have:=ctx_at S (n:="table") (v:=tabV A { f with most:=most }) rfl rfl (by rw [tv];simp) (Q:=Q)
   rw [tv] at this;exact this
  have key0:∀ {key:Int},key=(x:Int)+1→key=((x+1:Nat):Int):=fun h=>by omega
  cases hr:r with
  | none =>
   refine⟨0,none,by simp,fun n A most age R H key dl pl Q X e1 e2 e3 S h=>⟨rfl,?_⟩⟩
   rw [key0 e1]
   show vSs tT (FW tT (n+2)) ir_look_up false [.ref A.c,.int ((x+1:Nat):Int),.int α,.int β,.int dl,.int pl,.undef,.undef] H _ _
   unfold ir_look_up
   simp only [vSs,vS,vE,vEs,LG,att S,is_ref,t_bool,DF,m_obj (T:=tT) (f:=253) (S.st.tab cl w htab).1 (n:="probe") rfl rfl]
   refine r2 n A most G age σ R H _ _ rfl S (fun _=>?_) (fun m v d b H1 a z=>by rw [hr] at z;cases z)
   simp only [LS,is_none,t_bool,if_true]
   intro a ha
   exact h H a S ha
  | some row =>
   obtain⟨m,v,dd,b⟩:=row
   obtain⟨m0,m1,hV⟩:=r1 m v dd b hr
   have run:∀ (o:Option Int),(o=if cutB (frT v p) dd b d α β=true then some (frT v p) else none)→∀ (n:Nat) (A:Ad) (most age:Int) (R H:AHeap) (key dl pl:Int) (Q X:EQ),key=(x:Int)+1→dl=d→pl=p→SR A { f with most:=most } G age σ R H →
     (∀ H1 a,SR A { f with most:=most } G age σ R H1→H1 a=none→Q (.ref a) (upd H1 a (.tup [.int m,ov o]))) →
     FW tT (n+3) false 517 [.ref A.c,.int key,.int α,.int β,.int dl,.int pl] H Q X:=by
    intro o ho n A most age R H key dl pl Q X e1 e2 e3 S h
    rw [key0 e1]
    refine⟨rfl,?_⟩
    show vSs tT (FW tT (n+2)) ir_look_up false [.ref A.c,.int ((x+1:Nat):Int),.int α,.int β,.int dl,.int pl,.undef,.undef] H _ _
    unfold ir_look_up
    simp only [vSs,vS,vE,vEs,LG,att S,is_ref,t_bool,DF,m_obj (T:=tT) (f:=253) (S.st.tab cl w htab).1 (n:="probe") rfl rfl]
    refine r2 n A most G age σ R H _ _ rfl S (fun z=>by rw [hr] at z;cases z) (fun m' v' d' b' H1 a z S1 ha=>?_)
    rw [hr] at z;cases z
    have S2:=S1.new (o:=.tup [.int m,.int v,.int dd,.int b]) ha
    have hu:upd H1 a (.tup [.int m,.int v,.int dd,.int b]) a=some (.tup [.int m,.int v,.int dd,.int b]):=upd_eq
    simp only [LS,is_ref,t_bool,DF,i_tup hu (i:=1) (k:=1) rfl rfl]
    refine x_from e3 ?_
    simp only [LS,i_tup hu (i:=2) (k:=2) rfl rfl,i_tup hu (i:=3) (k:=3) rfl rfl,ctx_at S2 (n:="is_exact") rfl rfl (by simp)]
    refine x_cutoff ?_
    subst e2
    simp only [t_bool]
    by_cases c:cutB (frT v p) dd b d α β=true
    ·rw [if_pos c] at ho ⊢;subst ho
     simp only [i_tup hu (i:=0) (k:=0) rfl rfl]
     intro a' ha'
     exact h _ a' S2 ha'
    ·rw [if_neg c] at ho ⊢;subst ho
     simp only [i_tup hu (i:=0) (k:=0) rfl rfl]
     intro a' ha'
     exact h _ a' S2 ha'
   refine⟨m,_,?_,run _ rfl⟩
   intro w hw
   by_cases c:cutB (frT v p) dd b d α β=true
   ·rw [if_pos c] at hw;cases hw
    unfold cutB at c
    simp only [Bool.and_eq_true,Bool.or_eq_true,decide_eq_true_eq] at c
    obtain⟨c1,c2⟩:=c
    subst c1
    obtain⟨g1,g2⟩:=hV.get O hp h2
    refine⟨?_,g1⟩
    unfold Res
    omega
   ·rw [if_neg c] at hw;cases hw
theorem x_keep (G:Gm) (O:GOk G) (c:Nat) (f:Cf) (age:Int) (hag:0≤age∧age < 64) (σ:Sg) (p x d bm:Nat) (best start β:Int) (I:SOk G c f σ) (hp:okp x p) (h2:p≤20) (hdc:d+c≤20) (hx:x < 50) (hbm:bm≤2) (hs:start < β) (hnv:NV p (d+c+1) best) (hr:Res (G.F c d p x) start β best) :
  ∃ sl',SOk G c f { σ with slots:=sl' } ∧
  ∀ (n:Nat) (A:Ad) (most:Int) (R H:AHeap) (key dl pl:Int) (Q X:EQ),key=(x:Int)+1→dl=d→pl=p→SR A { f with most:=most } G age σ R H →
   (∀ H',SR A { f with most:=most } G age { σ with slots:=sl' } R H'→Q .none H') →
   FW tT (n+5) false 524 [.ref A.c,.int key,.int bm,.int best,.int start,.int β,.int dl,.int pl] H Q X:=by
 rcases tab_cases f with htab | ⟨⟨cl,w⟩,htab⟩
 ·
  refine⟨σ.slots,I,fun n A most R H key dl pl Q X e1 e2 e3 S h=>⟨rfl,?_⟩⟩
  show vSs tT (FW tT (n+4)) ir_keep_value false [.ref A.c,.int key,.int bm,.int best,.int start,.int β,.int dl,.int pl,.undef] H _ _
  unfold ir_keep_value
  have tv:tabV A { f with most:=most }=.none:=tabV_none htab
  have:=fun Q=>ctx_at S (n:="table") (v:=tabV A { f with most:=most }) rfl rfl (by rw [tv];simp) (Q:=Q)
  rw [tv] at this
  simp only [vSs,vS,vE,vEs,LG,this,is_none,t_bool,if_true]
  exact h H S
 ·
  obtain⟨ts,tk⟩:=I.tb cl w htab
  have hb:∃ b:Int,(b=if best≥β then 2 else if best≤start then 1 else 3)∧(1≤b∧b≤3)∧Vt G c ((x+1:Nat):Int) (toT best p) (d:Int) b:=by
   refine⟨_,rfl,?_,?_⟩
   ·split
    ·omega
    ·split <;> omega
   ·refine Vt.put O hp h2 hdc hnv ?_
    unfold Res at hr
    split
    ·right;left;omega
    ·split
     ·right;right;omega
     ·left;omega
  obtain⟨b,hb1,hb2,hb3⟩:=hb
  have nt:NV 0 (d+c+1) (toT best p):=toT_NV hnv (by omega)
  have nlo:=nt.ge (by omega)
  have nhi:=nt.le (by omega)
  obtain⟨sl',t1,t2,go⟩:=x_save ts tk (x+1) (m:=(bm:Int)) (v:=toT best p) (d:=(d:Int)) (b:=b) (age:=age) ⟨by omega,by omega,by omega,by omega,by omega,by omega,by omega,by omega,by omega,by omega,hag.1,hag.2⟩ hb3
  refine⟨sl',⟨fun cl' w' e=>?_,I.kh,I.ll⟩,fun n A most R H key dl pl Q X e1 e2 e3 S h=>⟨rfl,?_⟩⟩
  ·rw [htab] at e;cases e;exact⟨t1,t2⟩
  have e1':key=((x+1:Nat):Int):=by omega
  rw [e1']
  show vSs tT (FW tT (n+4)) ir_keep_value false [.ref A.c,.int ((x+1:Nat):Int),.int bm,.int best,.int start,.int β,.int dl,.int pl,.undef] H _ _
  unfold ir_keep_value
  have att:∀ Q,vAttr tT (.ref A.c) "table" H Q=Q (.ref A.t):=fun Q=>by
   have tv:tabV A { f with most:=most }=.ref A.t:=tabV_some (x:=(cl,w)) htab
   have:=ctx_at S (n:="table") (v:=tabV A { f with most:=most }) rfl rfl (by rw [tv];simp) (Q:=Q)
   rw [tv] at this;exact this
  subst e2
  have fin:∀ K:EQ,(∀ H',SR A { f with most:=most } G age { σ with slots:=sl' } R H'→K .none H')→FW tT (n+4) false 260 [.ref A.t,.int ((x+1:Nat):Int),.int bm,.int (toT best p),.int d,.int b] H K X:=fun K hK=>go n A most G σ R H K X rfl S hK
  by_cases c1:best≥β
  ·rw [if_pos c1] at hb1;subst hb1
   simp only [vSs,vS,vE,vEs,LS,att,is_ref,t_bool,DF,c_ge,c1,DT,m_obj (T:=tT) (f:=260) (S.st.tab cl w htab).1 (n:="save") rfl rfl]
   refine x_to e3 ?_
   exact fin _ h
  ·rw [if_neg c1] at hb1
   by_cases c2:best≤start
   ·rw [if_pos c2] at hb1;subst hb1
    simp only [vSs,vS,vE,vEs,LS,att,is_ref,t_bool,DF,c_ge,c_le,c1,c2,decide_true,decide_false,if_true,m_obj (T:=tT) (f:=260) (S.st.tab cl w htab).1 (n:="save") rfl rfl]
    refine x_to e3 ?_
    exact fin _ h
   ·rw [if_neg c2] at hb1;subst hb1
    simp only [vSs,vS,vE,vEs,LS,att,is_ref,t_bool,DF,c_ge,c_le,c1,c2,decide_true,decide_false,if_true,m_obj (T:=tT) (f:=260) (S.st.tab cl w htab).1 (n:="save") rfl rfl]
    refine x_to e3 ?_
    exact fin _ h
end Bn
namespace Bn
open Bm
structure Out (G:Gm) (c:Nat) (f:Cf) (σ σ':Sg) (p x d:Nat) (α β:Int) (pv:Bool) (v:Int):Prop where
 ok:SOk G c f σ'
 fr:Fr σ σ'
 lt:σ.nodes < σ'.nodes
 res:Res (G.F c d p x) α β v
 nv:NV p (d+c+1) v
 keep:∀ i,i < p→σ'.lines[i]? = σ.lines[i]?
 row:∃ row,σ'.lines[p]? = some row∧row.length≤d∧(v=(p:Int) - 32000→row=[])∧(pv=true→α < v→v < β→Lead G c d p x row v)
def SS (G:Gm) (c:Nat) (f:Cf) (age:Int) (d:Nat):Prop:=∀ (σ:Sg) (p x:Nat) (α β:Int) (pv:Bool),SOk G c f σ→At σ p x→okp x p→x < G.kids.length→p+d≤3→p+d+c≤20→α < β→-32001≤α→β≤32001→p≤σ.lines.length →
 ∃ v σ',Out G c f σ σ' p x d α β pv v∧∀ dl pl:Int,dl=d→pl=p→Runs f G age 496 (3*d+2*c+12) (fun A=>[.ref A.c,.int α,.int β,.int dl,.int pl,.bool pv]) σ σ' (.int v)
structure CO (G:Gm) (c:Nat) (f:Cf) (σ σ':Sg) (p y d:Nat) (α β:Int) (pv:Bool) (v:Int):Prop where
 ok:SOk G c f σ'
 fr:Fr σ σ'
 lt:σ.nodes < σ'.nodes
 res:Res (-G.F c d (p+1) y) α β v
 nv:NV p (d+c+2) v
 lo:(p:Int) - 31998≤v
 keep:∀ i,i < p+1→σ'.lines[i]? = σ.lines[i]?
 row:∃ row,σ'.lines[p+1]? = some row∧row.length≤d∧(v=31999 - (p:Int)→row=[])∧(pv=true→α < v→v < β→Lead G c d (p+1) y row (-v))
theorem x_child (G:Gm) (O:GOk G) (c:Nat) (f:Cf) (age:Int) (d:Nat) (ih:SS G c f age d) (σ:Sg) (p y:Nat) (α β:Int) (pv first:Bool) (I:SOk G c f σ) (T:At σ (p+1) y) (hp:okp y (p+1)) (hN:y < G.kids.length) (h3:p+1+d≤3) (hc:p+1+d+c≤20) (hab:α < β) (hα:-32001≤α) (hβ:β≤32001) (hl:p+1≤σ.lines.length) :
  ∃ v σ',CO G c f σ σ' p y d α β pv v∧∀ dl pl:Int,dl=(d:Int)+1→pl=p→Runs f G age 510 (3*d+2*c+13) (fun A=>[.ref A.c,.int α,.int β,.int dl,.int pl,.bool pv,.bool first]) σ σ' (.int v):=by
 cases first with
 | true =>
  obtain⟨v1,σ',o,run⟩:=ih σ (p+1) y (-β) (-α) pv I T hp hN h3 hc (by omega) (by omega) (by omega) hl
  obtain⟨row,r1,r2,r3,r4⟩:=o.row
  have hle:=o.nv.le (by omega)
  refine⟨-v1,σ',⟨o.ok,o.fr,o.lt,o.res.neg,o.nv.neg,by omega,o.keep,row,r1,r2,fun e=>r3 (by omega),fun e1 e2 e3=>by rw [Int.neg_neg];exact r4 e1 (by omega) (by omega)⟩,fun dl pl e1 e2 N hN A most R H Q X hmo S h2 h3=>?_⟩
  obtain⟨n,rfl⟩:∃ n,N=n+1:=⟨N - 1,by omega⟩
  refine⟨rfl,?_⟩
  show vSs tT (FW tT n) ir_search_child false [.ref A.c,.int α,.int β,.int dl,.int pl,.bool pv,.bool true,.undef] H _ _
  unfold ir_search_child
  simp only [vSs,vS,vE,vEs,LG,t_bool,if_true,b_sub,b_add]
  exact run (dl - 1) (pl+1) (by omega) (by omega) n (by omega) A most R H _ _ hmo S h2 h3
 | false =>
  obtain⟨v1,σ1,o,run⟩:=ih σ (p+1) y (-α - 1) (-α) false I T hp hN h3 hc (by omega) (by omega) (by omega) hl
  obtain⟨row,r1,r2,r3,r4⟩:=o.row
  have hle:=o.nv.le (by omega)
  by_cases hin:α < -v1∧-v1 < β
  ·have hl1:p+1≤σ1.lines.length:=by have:=len_of r1;omega
   obtain⟨v2,σ2,o2,run2⟩:=ih σ1 (p+1) y (-β) (-α) pv o.ok (T.fr o.fr) hp hN h3 hc (by omega) (by omega) (by omega) hl1
   obtain⟨row2,q1,q2,q3,q4⟩:=o2.row
   have hle2:=o2.nv.le (by omega)
   have hlt1:=o.lt
   have hlt2:=o2.lt
   refine⟨-v2,σ2,⟨o2.ok,o.fr.trans o2.fr,by omega,o2.res.neg,o2.nv.neg,by omega,fun i hi=>(o2.keep i hi).trans (o.keep i hi),row2,q1,q2,fun e=>q3 (by omega),fun e1 e2 e3=>by rw [Int.neg_neg];exact q4 e1 (by omega) (by omega)⟩,fun dl pl e1 e2 N hN A most R H Q X hmo S h2 h3=>?_⟩
   obtain⟨n,rfl⟩:∃ n,N=n+1:=⟨N - 1,by omega⟩
   refine⟨rfl,?_⟩
   show vSs tT (FW tT n) ir_search_child false [.ref A.c,.int α,.int β,.int dl,.int pl,.bool pv,.bool false,.undef] H _ _
   unfold ir_search_child
   simp only [vSs,vS,vE,vEs,LG,t_bool,DF,b_sub,b_add]
   refine run (dl - 1) (pl+1) (by omega) (by omega) n (by omega) A most R H _ _ hmo S (fun hm1 H1 S1=>?_) (fun u1 u2=>h3 u1 (by omega))
   simp only [LS,c_lt,t_bool,hin.1,hin.2,DT]
   refine run2 (dl - 1) (pl+1) (by omega) (by omega) n (by omega) A most R H1 _ _ hm1 S1 (fun hm2 H2 S2=>?_) h3
   simp only [LS]
   exact h2 hm2 H2 S2
  ·have hr:=o.res
   refine⟨-v1,σ1,⟨o.ok,o.fr,o.lt,by unfold Res at hr ⊢;omega,o.nv.neg,by omega,o.keep,row,r1,r2,fun e=>r3 (by omega),fun e1 e2 e3=>absurd ⟨e2,e3⟩ hin⟩,fun dl pl e1 e2 N hN A most R H Q X hmo S h2 h3=>?_⟩
   obtain⟨n,rfl⟩:∃ n,N=n+1:=⟨N - 1,by omega⟩
   refine⟨rfl,?_⟩
   show vSs tT (FW tT n) ir_search_child false [.ref A.c,.int α,.int β,.int dl,.int pl,.bool pv,.bool false,.undef] H _ _
   unfold ir_search_child
   simp only [vSs,vS,vE,vEs,LG,t_bool,DF,b_sub,b_add]
   refine run (dl - 1) (pl+1) (by omega) (by omega) n (by omega) A most R H _ _ hmo S (fun hm1 H1 S1=>?_) (fun u1 u2=>h3 u1 u2)
   simp only [LS,c_lt,t_bool]
   by_cases h1:α < -v1
   ·have h4:¬ (-v1 < β):=fun z=>hin ⟨h1,z⟩
    simp only [h1,h4,decide_true,decide_false,if_true,DF,t_bool]
    exact h2 hm1 H1 S1
   ·simp only [h1,DF,t_bool]
    exact h2 hm1 H1 S1
def s_pv:IS:=.ite (.loc 8) (.cons (.expr (.call 176 (.cons (.loc 0) (.cons (.loc 7) (.cons (.loc 17) .nil))))) .nil) .nil
def s_rw:IS:=.ite (.and (.not (.loc 18)) (.and (.cmp .isnot (.attr (.loc 0) "history") (.c .none)) (.cmp .isnot (.attr (.loc 0) "killers") (.c .none)))) (.cons (.expr (.call 400 (.cons (.attr (.loc 0) "history") (.cons (.attr (.loc 0) "killers") (.cons (.loc 10) (.cons (.loc 7) (.cons (.loc 6) (.cons (.loc 17) (.cons (.loc 15) .nil))))))))) .nil) .nil
def s_cut:IS:=.ite (.cmp .ge (.loc 19) (.loc 5)) (.cons s_rw (.cons .brk .nil)) .nil
def sl_tail:ISs:=.cons (.ite (.not (.loc 18)) (.cons (.expr (.meth (.loc 15) "append" (.cons (.loc 17) .nil))) .nil) .nil) (.cons (.asg 17 (.meth (.loc 11) "next" .nil)) .nil)
def sl_rest:ISs:=.cons (.asg 16 (.c (.bool false))) (.cons (.ite (.cmp .gt (.loc 19) (.loc 13)) (.cons (.asg 13 (.loc 19)) .nil) .nil) (.cons (.ite (.cmp .gt (.loc 19) (.loc 4)) (.cons (.asg 14 (.loc 17)) (.cons s_pv (.cons s_cut (.cons (.asg 4 (.loc 19)) .nil)))) .nil) sl_tail))
theorem sl_eq:ir_search_moves_loop0=.cons (.asg 18 (.meth (.loc 9) "is_noisy" (.cons (.loc 17) .nil))) (.cons (.expr (.call 148 (.cons (.loc 0) (.cons (.loc 17) .nil)))) (.cons (.asg 19 (.call 510 (.cons (.loc 0) (.cons (.loc 4) (.cons (.loc 5) (.cons (.loc 6) (.cons (.loc 7) (.cons (.loc 8) (.cons (.loc 16) .nil))))))))) (.cons (.expr (.call 155 (.cons (.loc 0) .nil))) sl_rest))):=rfl
def Sg.sl (σ:Sg) (pv:Bool) (p m:Nat) (r:List Int):Sg:=if pv=true then { σ with lines:=σ.lines.set p ((m:Int)::r) } else σ
theorem run_pv {A:Ad} {f:Cf} {G:Gm} {age:Int} {σ:Sg} {R H:AHeap} (S:SR A f G age σ R H) {p m:Nat} {r:List Int} (hr:σ.lines[p+1]? = some r) (hb:r.length < 1000) {pv:Bool} {n:Nat} {v1 v2 v3 v4 v5 v6 v9 v10 v11 v12 v13 v14 v15 v16 v18 v19:AV} {K:SQ} {X:SX}
  (h:∀ H',SR A f G age (σ.sl pv p m r) R H'→K .next [.ref A.c,v1,v2,v3,v4,v5,v6,.int p,.bool pv,v9,v10,v11,v12,v13,v14,v15,v16,.int m,v18,v19] H') :
  vS tT (FW tT (n+1)) s_pv false [.ref A.c,v1,v2,v3,v4,v5,v6,.int p,.bool pv,v9,v10,v11,v12,v13,v14,v15,v16,.int m,v18,v19] H K X:=by
 unfold s_pv
 cases pv with
 | false =>
  simp only [vSs,vS,vE,vEs,LG,t_bool,DF]
  exact h H S
 | true =>
  simp only [vSs,vS,vE,vEs,LG,t_bool,if_true]
  exact x_set_line S hr hb fun H' S'=>h H' S'
theorem run_rw (G:Gm) (c:Nat) (f:Cf) (σ:Sg) (I:SOk G c f σ) (p d m:Nat) (hd:d≤3) (hm:1≤m∧m≤2) (s:Nat) (hs:s≤1) (q:List Nat) (hq:∀ x∈q,1≤x∧x≤2) (nz:Bool) :
  ∃ σ5,SOk G c f σ5∧Fr σ σ5∧σ5.lines=σ.lines∧σ5.nodes=σ.nodes ∧
  ∀ (n:Nat) (A:Ad) (most age:Int) (R H:AHeap) (ql:Nat) (v1 v2 v3 v4 v5 v8 v9 v11 v12 v13 v14 v16 v19:AV) (K:SQ) (X:SX),R ql=some (.list (nats q))→SR A { f with most:=most } G age σ R H →
   (∀ H',SR A { f with most:=most } G age σ5 R H'→K .next [.ref A.c,v1,v2,v3,v4,v5,.int d,.int p,v8,v9,.int s,v11,v12,v13,v14,.ref ql,v16,.int m,.bool nz,v19] H') →
   vS tT (FW tT (n+3)) s_rw false [.ref A.c,v1,v2,v3,v4,v5,.int d,.int p,v8,v9,.int s,v11,v12,v13,v14,.ref ql,v16,.int m,.bool nz,v19] H K X:=by
 cases nz with
 | true =>
  refine⟨σ,I,⟨rfl,rfl,Int.le_refl _⟩,rfl,rfl,fun n A most age R H ql v1 v2 v3 v4 v5 v8 v9 v11 v12 v13 v14 v16 v19 K X hR S h=>?_⟩
  unfold s_rw
  simp only [vSs,vS,vE,vEs,LG,t_bool,Bool.not_true,DF]
  exact h H S
 | false =>
  by_cases kh:f.kh=true
  ·obtain⟨k1,k2,k3⟩:=I.kh kh
   obtain⟨sf',ss',sc',a1,a2,a3,go⟩:=x_reward σ.first σ.second k1 k2 σ.scores k3 s p d m hs hd hm q hq
   refine⟨{ σ with first:=sf',second:=ss',scores:=sc' },⟨I.tb,fun _=>⟨a1,a2,a3⟩,I.ll⟩,⟨rfl,rfl,Int.le_refl _⟩,rfl,rfl,fun n A most age R H ql v1 v2 v3 v4 v5 v8 v9 v11 v12 v13 v14 v16 v19 K X hR S h=>?_⟩
   unfold s_rw
   have kv:kilV A { f with most:=most }=.ref A.kl:=by unfold kilV;rw [if_pos kh]
   have hv:hisV A { f with most:=most }=.ref A.hs:=by unfold hisV;rw [if_pos kh]
   have c1:=fun Q=>ctx_at S (n:="killers") (v:=kilV A { f with most:=most }) rfl rfl (by rw [kv];simp) (Q:=Q)
   have c2:=fun Q=>ctx_at S (n:="history") (v:=hisV A { f with most:=most }) rfl rfl (by rw [hv];simp) (Q:=Q)
   rw [kv] at c1;rw [hv] at c2
   simp only [vSs,vS,vE,vEs,LG,t_bool,Bool.not_false,if_true,c1,c2,isn_ref]
   exact go n A { f with most:=most } G age σ R H ql _ _ kh rfl rfl rfl hR S h
  ·refine⟨σ,I,⟨rfl,rfl,Int.le_refl _⟩,rfl,rfl,fun n A most age R H ql v1 v2 v3 v4 v5 v8 v9 v11 v12 v13 v14 v16 v19 K X hR S h=>?_⟩
   unfold s_rw
   have hv:hisV A { f with most:=most }=.none:=by unfold hisV;rw [if_neg kh]
   have c2:=fun Q=>ctx_at S (n:="history") (v:=hisV A { f with most:=most }) rfl rfl (by rw [hv];simp) (Q:=Q)
   rw [hv] at c2
   simp only [vSs,vS,vE,vEs,LG,t_bool,Bool.not_false,if_true,c2,isn_none,DF]
   exact h H S
end Bn
namespace Bn
open Bm
def sW (n:Nat) (X:SX):Nat→List AV→AHeap→SQ→Prop:=whileL (fun ρ H K=>vE tT false (FW tT (n+8) false) (.cmp .ne (.loc 17) (.c (.int 0))) ρ H (fun v H=>truthy v H fun r=>K r H) (fun n H=>X n ρ H)) (fun ρ H K=>vSs tT (FW tT (n+8)) ir_search_moves_loop0 false ρ H K X)
structure LP (G:Gm) (c:Nat) (f:Cf) (σ σ':Sg) (p x d:Nat) (start β:Int) (pv:Bool) (M α v:Int) (bm:Nat):Prop where
 ok:SOk G c f σ'
 fr:Fr σ σ'
 res:Res M α β v
 nv:NV p (d+c+2) v
 lo:(p:Int) - 31998≤v
 bm2:bm≤2
 keep:∀ i,i < p→σ'.lines[i]? = σ.lines[i]?
 row:∃ row,σ'.lines[p]? = some row∧row.length≤d+1∧(pv=true→start < v→(v < β∨v=31999 - (p:Int))→Lead G c (d+1) p x row v)
def rowOk (G:Gm) (c p x d:Nat) (start:Int) (pv:Bool) (σ:Sg) (best:Int):Prop:=∃ row,σ.lines[p]? = some row∧row.length≤d+1∧(pv=true→start < best→Lead G c (d+1) p x row best)
theorem sl_lines {σ:Sg} {pv:Bool} {p m:Nat} {r:List Int}:(σ.sl pv p m r).lines=if pv=true then σ.lines.set p ((m:Int)::r) else σ.lines:=by unfold Sg.sl;split <;> rfl
theorem SOk.sl {G c f σ} (h:SOk G c f σ) (pv:Bool) (p m:Nat) (r:List Int):SOk G c f (σ.sl pv p m r):=by
 unfold Sg.sl;split
 ·exact⟨h.tb,h.kh,by simpa using h.ll⟩
 ·exact h
theorem Fr.sl {σ:Sg} (pv:Bool) (p m:Nat) (r:List Int):Fr σ (σ.sl pv p m r):=by
 unfold Sg.sl;split <;> exact⟨rfl,rfl,Int.le_refl _⟩
theorem s_loop (G:Gm) (O:GOk G) (c:Nat) (f:Cf) (age:Int) (d:Nat) (ih:SS G c f age d) (p x:Nat) (start β:Int) (pv:Bool) (s:Nat) (hs:s≤1) (hok:okp x p) (hN:x < G.kids.length) (hpd:p+(d+1)≤3) (hpc:p+(d+1)+c≤20) (hdr:¬ (0 < p∧G.dr x=true)) (hst:-32001≤start) (hβ:β≤32001) :
  ∀ (k:Nat) (σ:Sg) (m:Nat) (P:Pk) (best α:Int) (bm:Nat) (qs:List Nat) (first:Bool),(todo m P).length≤k→SOk G c f σ→At σ p x→(∀ y∈todo m P,Lg G x y)→(m≠0→P.stage≤5∧P.left.length+P.losing.length < 1000∧(pend P).length < 1000)→α=max start best→α < β→-32001≤best →
   ((NV p (d+c+2) best∧(p:Int) - 31998≤best)∨(best = -32001∧todo m P≠[]))→bm≤2→(∀ y∈qs,1≤y∧y≤2)→qs.length+k≤100→rowOk G c p x d start pv σ best →
  ∃ v bm' σ',LP G c f σ σ' p x d start β pv (fmx best ((todo m P).map fun m=>-G.F c d (p+1) (G.to x m))) α v bm' ∧
  ∀ (n:Nat),3*d+2*c+5≤n→∀ (A:Ad) (most:Int) (B0 B R H:AHeap) (pk l r lo ql:Nat) (w1 w2 w3 w18 w19:AV) (dl:Int) (Q:SQ) (X:SX),dl=((d+1:Nat):Int)→(most≤0∨σ.nodes≤most)→SR A { f with most:=most } G age σ R H→(m≠0→PR A { f with most:=most } pk l r lo P B R)→(∀ a o,B a=some o→R a=some o)→(∀ a o,B0 a=some o→B a=some o)→B ql=some (.list (nats qs))→B0 ql=none →
   ((most≤0∨σ'.nodes≤most)→∀ H' w4 w11 w15 w16 w17 w18 w19,SR A { f with most:=most } G age σ' B0 H'→Q .next [.ref A.c,w1,w2,w3,w4,.int β,.int dl,.int p,.bool pv,.ref A.g,.int s,w11,.int start,.int v,.int bm',w15,w16,w17,w18,w19] H') →
   (0 < most→most < σ'.nodes→∀ σ'' ρ H',Unw σ''→σ''.nodes=most→SR A { f with most:=most } G age σ'' B0 H'→X (.int most) ρ H') →
   sW n X (k+1) [.ref A.c,w1,w2,w3,.int α,.int β,.int dl,.int p,.bool pv,.ref A.g,.int s,.ref pk,.int start,.int best,.int bm,.ref ql,.bool first,.int m,w18,w19] H Q
 | k,σ,m,P,best,α,bm,qs,first,hk,I,T,hm,hP,hα,hab,h1,hnv,hbm,hqs,hql,hrow=>by
  have hp3:p < 3:=by omega
  by_cases z:m=0
  ·have e:todo m P=[]:=by unfold todo;rw [if_pos z]
   have hb:NV p (d+c+2) best∧(p:Int) - 31998≤best:=by
    rcases hnv with h | h
    ·exact h
    ·exact absurd e h.2
   obtain⟨row,r1,r2,r3⟩:=hrow
   refine⟨best,bm,σ,⟨I,⟨rfl,rfl,Int.le_refl _⟩,by rw [e];exact Res.eq,hb.1,hb.2,hbm,fun _ _=>rfl,row,r1,r2,fun q1 q2 _=>r3 q1 q2⟩,fun n hn A most B0 B R H pk l r lo ql w1 w2 w3 w18 w19 dl Q X e1 hmo S Z hB hB0 hq1 hq2 h2 h3=>?_⟩
   unfold sW;rw [while_step]
   simp only [vE,LG,c_ne,t_bool,z,show((0:Nat):Int)=0 from rfl,decide_true,Bool.not_true,DF]
   exact h2 hmo H _ _ _ _ _ _ _ (S.drop fun a o h=>hB a o (hB0 a o h))
  ·have e:todo m P=m::pend P:=by unfold todo;rw [if_neg z]
   rw [e] at hk hm hnv
   cases k with
   | zero=>simp at hk
   | succ k =>
   obtain⟨hP1,hP2,hP3⟩:=hP z
   have lg:=hm m (by simp)
   have hkl:=kid_le O x
   have lg2:1≤m∧m≤2:=⟨lg.1,by have:=lg.2;omega⟩
   have hy:=to_some lg
   obtain⟨y1,y2⟩:=to_lt O lg
   generalize hyy:G.to x m=y at hy y1 y2
   obtain⟨row,r1,r2,r3⟩:=hrow
   have hll:p+1≤σ.lines.length:=by have:=len_of r1;omega
   obtain⟨w,σ2,co,run⟩:=x_child G O c f age d ih (σ.dn y) p y α β pv first (I.dn y) (T.dn y) (by unfold okp;omega) y1 (by omega) (by omega) hab (by omega) hβ hll
   have F3:=co.fr.bk
   have I3:=co.ok.bk σ
   have T3:=T.fr F3
   obtain⟨row',u1,u2,u3,u4⟩:=co.row
   have kp:∀ i,i < p+1→(σ2.bk σ).lines[i]? = σ.lines[i]?:=co.keep
   have u1':(σ2.bk σ).lines[p+1]? = some row':=u1
   have hl2:p < (σ2.bk σ).lines.length:=by have:=len_of u1';omega
   have vr:=co.res
   have vlo:=co.lo
   have vn:=co.nv
   rw [← hyy] at vr
   have hnn2:(σ2.bk σ).nodes=σ2.nodes:=rfl
   have FN:=F_NV O c d (p+1) y (by omega)
   have flo:=FN.ge (by omega)
   have ldB:pv=true→α < w→(w < β∨w=31999 - (p:Int))→Lead G c (d+1) p x ((m:Int)::row') w:=by
    intro q1 q2 q3
    refine⟨m,rfl,lg,hdr,?_,?_⟩
    ·rw [hyy];rw [hyy] at vr;unfold Res at vr
     rcases q3 with q3 | q3
     ·omega
     ·by_cases q4:w < β
      ·omega
      ·push_cast at flo;omega
    ·rw [hyy]
     by_cases q4:w < β
     ·exact u4 q1 q2 q4
     ·have q5:w=31999 - (p:Int):=by omega
      rw [u3 q5]
      simp only [Lead]
      refine .inr (.inl (F_low O c d (p+1) y (by omega) ?_))
      rw [hyy] at vr;unfold Res at vr
      push_cast at flo ⊢;omega
   have row4:∃ row,((σ2.bk σ).sl pv p m row').lines[p]? = some row∧row.length≤d+1∧(pv=true→α < w→(w < β∨w=31999 - (p:Int))→Lead G c (d+1) p x row w):=by
    rw [sl_lines]
    cases pv with
    | true=>exact⟨(m:Int)::row',by simp [hl2],by simp;omega,fun q1 q2 q3=>ldB q1 q2 q3⟩
    | false=>exact⟨row,by rw [if_neg (by simp),kp p (by omega)];exact r1,r2,fun q1=>by cases q1⟩
   have keep4:∀ i,i < p→((σ2.bk σ).sl pv p m row').lines[i]? = σ.lines[i]?:=by
    intro i hi
    rw [sl_lines,← kp i (by omega)]
    split
    ·rw [List.getElem?_set_ne (by omega)]
    ·rfl
   have tail:∀ (σ4:Sg) (best' α':Int) (bm':Nat),SOk G c f σ4→Fr σ σ4→α'=max start best'→α' < β→-32001≤best'→(NV p (d+c+2) best'∧(p:Int) - 31998≤best')→bm'≤2→rowOk G c p x d start pv σ4 best' →
     ∃ v bm'' σ',LP G c f σ4 σ' p x d start β pv (fmx best' ((pend P).map fun m=>-G.F c d (p+1) (G.to x m))) α' v bm'' ∧
     ∀ (n:Nat),3*d+2*c+5≤n→∀ (A:Ad) (most:Int) (B0 B R H:AHeap) (pk l r lo ql:Nat) (w1 w2 w3 w19:AV) (dl:Int) (Q:SQ) (X:SX),dl=((d+1:Nat):Int)→(most≤0∨σ4.nodes≤most)→SR A { f with most:=most } G age σ4 R H→PR A { f with most:=most } pk l r lo P B R→(∀ a o,B0 a=some o→B a=some o)→B ql=some (.list (nats qs))→B0 ql=none →
      ((most≤0∨σ'.nodes≤most)→∀ H' w4 w11 w15 w16 w17 w18 w19,SR A { f with most:=most } G age σ' B0 H'→Q .next [.ref A.c,w1,w2,w3,w4,.int β,.int dl,.int p,.bool pv,.ref A.g,.int s,w11,.int start,.int v,.int bm'',w15,w16,w17,w18,w19] H') →
      (0 < most→most < σ'.nodes→∀ σ'' ρ H',Unw σ''→σ''.nodes=most→SR A { f with most:=most } G age σ'' B0 H'→X (.int most) ρ H') →
      vSs tT (FW tT (n+8)) sl_tail false [.ref A.c,w1,w2,w3,.int α',.int β,.int dl,.int p,.bool pv,.ref A.g,.int s,.ref pk,.int start,.int best',.int bm',.ref ql,.bool false,.int m,.bool (G.no x m),w19] H (aft (sW n X (k+1)) Q) X:=by
    intro σ4 best' α' bm' J1 J2 J3 J4 J5 J6 J7 J8
    have T4:=T.fr J2
    obtain⟨m2,P2,b1,b2,nxt⟩:=x_next' G O f σ4 x T4.last hN (fun h=>⟨(J1.kh h).1,(J1.kh h).2.1⟩) P hP1 (fun y hy=>hm y (by simp [hy])) hP2 hP3
    have hlen:(todo m2 P2).length≤k:=by rw [← b2.length_eq];simpa using hk
    have hm2:∀ y∈todo m2 P2,Lg G x y:=fun y hy=>hm y (by simp [b2.mem_iff.2 hy])
    obtain⟨v,bm'',σ',lp,go⟩:=s_loop G O c f age d ih p x start β pv s hs hok hN hpd hpc hdr hst hβ k σ4 m2 P2 best' α' bm' (if G.no x m=true then qs else qs++[m]) false hlen J1 T4 hm2 b1 J3 J4 J5 (.inl J6) J7 (by
      split
      ·exact hqs
      ·intro y hy;simp only [List.mem_append,List.mem_singleton] at hy
       rcases hy with hy | hy
       ·exact hqs y hy
       ·rw [hy];exact lg2) (by split <;> first | omega | (simp only [List.length_append,List.length_cons,List.length_nil];omega)) J8
    refine⟨v,bm'',σ',?_,fun n hn A most B0 B R H pk l r lo ql w1 w2 w3 w19 dl Q X e1 hmo S Z hB0 hq1 hq2 h2 h3=>?_⟩
    ·rw [fmx_perm (b2.map _)];exact lp
    unfold sl_tail
    by_cases nz:G.no x m=true
    ·rw [if_pos nz] at go
     simp only [vSs,vS,vE,vEs,LS,t_bool,nz,Bool.not_true,DF,m_obj (T:=tT) (f:=435) (S.sub _ _ Z.obj) (n:="next") rfl rfl]
     refine nxt (n+3) A most age B R H pk l r lo _ _ S Z fun H' R' l' r' S' Z' hB'=>?_
     rw [aft_next]
     exact go n hn A most B0 B R' H' pk l' r' lo ql w1 w2 w3 _ _ dl Q X e1 hmo S' Z' hB' hB0 hq1 hq2 h2 h3
    ·rw [if_neg nz] at go
     have nz':G.no x m=false:=by simpa using nz
     have hqR:=Z.sub _ _ hq1
     have hqH:=S.sub _ _ hqR
     simp only [vSs,vS,vE,vEs,LS,t_bool,nz',Bool.not_false,if_true,m_list hqH listM_append,m_append hqH (show(nats qs).length < lim by rw [nats_len];unfold lim;omega)]
     have en:nats qs++[AV.int m]=nats (qs++[m]):=by simp [nats]
     rw [en]
     have S2:=S.put (o:=.list (nats (qs++[m]))) (a:=ql) (.inl (by rw [hqR];simp))
     have Z2:=Z.put (ys:=nats (qs++[m])) hq1
     simp only [m_obj (T:=tT) (f:=435) (S2.sub _ _ Z2.obj) (n:="next") rfl rfl]
     refine nxt (n+3) A most age _ _ _ pk l r lo _ _ S2 Z2 fun H' R' l' r' S' Z' hB'=>?_
     rw [aft_next]
     exact go n hn A most B0 _ R' H' pk l' r' lo ql w1 w2 w3 _ _ dl Q X e1 hmo S' Z' hB' (sub_put hB0 hq2) upd_eq hq2 h2 h3
   obtain⟨v,bm',σ',lp,lt',cont⟩:∃ v bm' σ',LP G c f σ σ' p x d start β pv (fmx best ((m::pend P).map fun m=>-G.F c d (p+1) (G.to x m))) α v bm'∧σ2.nodes≤σ'.nodes ∧
     ∀ (n:Nat),3*d+2*c+5≤n→∀ (A:Ad) (most:Int) (B0 B R H:AHeap) (pk l r lo ql:Nat) (w1 w2 w3:AV) (dl:Int) (Q:SQ) (X:SX),dl=((d+1:Nat):Int)→(most≤0∨(σ2.bk σ).nodes≤most)→SR A { f with most:=most } G age (σ2.bk σ) R H→PR A { f with most:=most } pk l r lo P B R→(∀ a o,B0 a=some o→B a=some o)→B ql=some (.list (nats qs))→B0 ql=none →
      ((most≤0∨σ'.nodes≤most)→∀ H' w4 w11 w15 w16 w17 w18 w19,SR A { f with most:=most } G age σ' B0 H'→Q .next [.ref A.c,w1,w2,w3,w4,.int β,.int dl,.int p,.bool pv,.ref A.g,.int s,w11,.int start,.int v,.int bm',w15,w16,w17,w18,w19] H') →
      (0 < most→most < σ'.nodes→∀ σ'' ρ H',Unw σ''→σ''.nodes=most→SR A { f with most:=most } G age σ'' B0 H'→X (.int most) ρ H') →
      vSs tT (FW tT (n+8)) sl_rest false [.ref A.c,w1,w2,w3,.int α,.int β,.int dl,.int p,.bool pv,.ref A.g,.int s,.ref pk,.int start,.int best,.int bm,.ref ql,.bool first,.int m,.bool (G.no x m),.int w] H (aft (sW n X (k+1)) Q) X:=by
    have hb:row'.length < 1000:=by omega
    by_cases cA:w≥β
    ·
     have g1:w > α:=by omega
     have g2:w > best:=by omega
     have I4:=I3.sl pv p m row'
     have F4:=F3.trans (Fr.sl (σ:=σ2.bk σ) pv p m row')
     obtain⟨σ5,I5,F5,L5,N5,rw5⟩:=run_rw G c f ((σ2.bk σ).sl pv p m row') I4 p (d+1) m (by omega) lg2 s hs qs hqs (G.no x m)
     obtain⟨row5,q1,q2,q3⟩:=row4
     have hsn:((σ2.bk σ).sl pv p m row').nodes=σ2.nodes:=by unfold Sg.sl Sg.bk;split <;> rfl
     have:=F5.nodes
     refine⟨w,m,σ5,⟨I5,F4.trans F5,?_,vn,vlo,lg2.2,fun i hi=>by rw [L5];exact keep4 i hi,row5,by rw [L5];exact q1,q2,fun t1 t2 t3=>q3 t1 g1 t3⟩,by omega,fun n hn A most B0 B R H pk l r lo ql w1 w2 w3 dl Q X e1 hmo S Z hB0 hq1 hq2 h2 h3=>?_⟩
     ·rw [List.map_cons];exact lp_cut h1 (by omega) vr cA hab
     simp only [sl_rest,vSs,vS,vE,vEs,LS,c_gt,t_bool,g1,g2,DT]
     refine run_pv S u1' hb fun H1 S1=>?_
     subst e1
     simp only [s_cut,vSs,vS,vE,vEs,LS,c_ge,t_bool,cA,DT]
     refine rw5 (n+5) A most age R H1 ql _ _ _ _ _ _ _ _ _ _ _ _ _ _ _ (Z.sub _ _ hq1) S1 fun H2 S2=>?_
     exact h2 (by rw [N5,hsn];exact hmo) H2 _ _ _ _ _ _ _ (S2.drop fun a o h=>Z.sub a o (hB0 a o h))
    ·by_cases cB:w > α
     ·
      have g2:w > best:=by omega
      have I4:=I3.sl pv p m row'
      have F4:=F3.trans (Fr.sl (σ:=σ2.bk σ) pv p m row')
      have hsn:((σ2.bk σ).sl pv p m row').nodes=σ2.nodes:=by unfold Sg.sl Sg.bk;split <;> rfl
      obtain⟨row5,q1,q2,q3⟩:=row4
      obtain⟨v,bm',σ',lp,go⟩:=tail ((σ2.bk σ).sl pv p m row') w w m I4 F4 (by omega) (by omega) (by omega) ⟨vn,vlo⟩ lg2.2 ⟨row5,q1,q2,fun t1 t2=>q3 t1 cB (.inl (by omega))⟩
      have hn4:=lp.fr.nodes
      refine⟨v,bm',σ',⟨lp.ok,F4.trans lp.fr,?_,lp.nv,lp.lo,lp.bm2,fun i hi=>(lp.keep i hi).trans (keep4 i hi),lp.row⟩,by omega,fun n hn A most B0 B R H pk l r lo ql w1 w2 w3 dl Q X e1 hmo S Z hB0 hq1 hq2 h2 h3=>?_⟩
      ·rw [List.map_cons];refine lp_up h1 (by omega) vr g2 (by omega) ?_
       rw [show max α w=w by omega];exact lp.res
      simp only [sl_rest,vSs,vS,vE,vEs,LS,c_gt,t_bool,cB,g2,DT]
      refine run_pv S u1' hb fun H1 S1=>?_
      simp only [s_cut,vSs,vS,vE,vEs,LS,c_ge,t_bool,cA,DF]
      exact go n hn A most B0 B R H1 pk l r lo ql w1 w2 w3 _ dl Q X e1 (by rw [hsn];exact hmo) S1 Z hB0 hq1 hq2 h2 h3
     ·by_cases cC:w > best
      ·obtain⟨v,bm',σ',lp,go⟩:=tail (σ2.bk σ) w α bm I3 F3 (by omega) hab (by omega) ⟨vn,vlo⟩ hbm ⟨row,by rw [kp p (by omega)];exact r1,r2,fun t1 t2=>by omega⟩
       have hn4:=lp.fr.nodes
       refine⟨v,bm',σ',⟨lp.ok,F3.trans lp.fr,?_,lp.nv,lp.lo,lp.bm2,fun i hi=>(lp.keep i hi).trans (kp i (by omega)),lp.row⟩,by omega,fun n hn A most B0 B R H pk l r lo ql w1 w2 w3 dl Q X e1 hmo S Z hB0 hq1 hq2 h2 h3=>?_⟩
       ·rw [List.map_cons];refine lp_up h1 (by omega) vr cC (by omega) ?_
        rw [show max α w=α by omega];exact lp.res
       simp only [sl_rest,vSs,vS,vE,vEs,LS,c_gt,t_bool,cB,cC,DT,DF]
       exact go n hn A most B0 B R H pk l r lo ql w1 w2 w3 _ dl Q X e1 hmo S Z hB0 hq1 hq2 h2 h3
      ·have hnv':NV p (d+c+2) best∧(p:Int) - 31998≤best:=by
        rcases hnv with h | h
        ·exact h
        ·exfalso;have:=vn.ge (by omega);omega
       obtain⟨v,bm',σ',lp,go⟩:=tail (σ2.bk σ) best α bm I3 F3 hα hab h1 hnv' hbm ⟨row,by rw [kp p (by omega)];exact r1,r2,r3⟩
       have hn4:=lp.fr.nodes
       refine⟨v,bm',σ',⟨lp.ok,F3.trans lp.fr,?_,lp.nv,lp.lo,lp.bm2,fun i hi=>(lp.keep i hi).trans (kp i (by omega)),lp.row⟩,by omega,fun n hn A most B0 B R H pk l r lo ql w1 w2 w3 dl Q X e1 hmo S Z hB0 hq1 hq2 h2 h3=>?_⟩
       ·rw [List.map_cons];exact lp_same h1 (by omega) vr (by omega) lp.res
       simp only [sl_rest,vSs,vS,vE,vEs,LS,c_gt,t_bool,cB,cC,DT,DF]
       exact go n hn A most B0 B R H pk l r lo ql w1 w2 w3 _ dl Q X e1 hmo S Z hB0 hq1 hq2 h2 h3
   refine⟨v,bm',σ',by rw [e];exact lp,fun n hn A most B0 B R H pk l r lo ql w1 w2 w3 w18 w19 dl Q X e1 hmo S Z hB hB0 hq1 hq2 h2 h3=>?_⟩
   unfold sW;rw [while_step]
   simp only [vE,LG,c_ne,t_bool,show ¬ ((m:Int)=0) by omega,decide_false,Bool.not_false,if_true]
   rw [sl_eq]
   simp only [vSs,vS,vE,vEs,LS,m_obj (T:=tT) (f:=669) S.st.game.1 (n:="is_noisy") rfl rfl]
   refine g_is_noisy S O T.last hN lg.1 lg.2 ?_
   refine x_step_into S O T.last hN (by rw [T.len];omega) lg.1 hy fun H1 S1=>?_
   refine run dl p (by rw [e1];omega) rfl (n+8) (by omega) A most R H1 _ _ hmo S1 (fun hm2 H2 S2=>?_) (fun q1 q2 σ'' H'' u1 u2 u3=>?_)
   ·refine x_step_back S2 (co.fr.path) T.ne fun H3 S3=>?_
    exact cont n hn A most B0 B R H3 pk l r lo ql w1 w2 w3 dl Q X e1 hm2 S3 (Z z) hB0 hq1 hq2 h2 h3
   ·exact h3 q1 (Int.lt_of_lt_of_le q2 lt') σ'' _ H'' u1 u2 (u3.drop fun a o h=>hB a o (hB0 a o h))
end Bn
namespace Bn
open Bm
theorem PR.new {A f p l r lo P B R} (h:PR A f p l r lo P B R) {a:Nat} {o:AO} (ha:R a=none):PR A f p l r lo P (upd B a o) (upd R a o):=by
 have n1:=ne_nl ha h.obj
 have n2:=ne_nl ha h.left
 have n3:=h.ready.ne ha
 refine⟨upd_some h.obj n1,upd_some h.left n2,h.ready.put (none_tup ha) n3,fun e=>?_,h.lr,(upd_ne n1).trans h.bp,(upd_ne n2).trans h.bl,(upd_ne n3).trans h.br,fun b q e=>?_⟩
 ·obtain⟨h1,h2,h3,h4⟩:=h.losing e
  have n4:=h1.ne ha
  exact⟨h1.put (none_tup ha) n4,(upd_ne n4).trans h2,h3,h4⟩
 ·by_cases n:b=a
  ·subst n;rw [upd_eq] at e ⊢;exact e
  ·rw [upd_ne n] at e ⊢;exact h.sub b q e
theorem x_search_moves (G:Gm) (O:GOk G) (c:Nat) (f:Cf) (age:Int) (hag:0≤age∧age < 64) (d:Nat) (ih:SS G c f age d) (σ:Sg) (p x:Nat) (α β:Int) (pv:Bool) (tm:Int) (I:SOk G c f σ) (T:At σ p x) (hok:okp x p) (hN:x < G.kids.length) (hpd:p+(d+1)≤3) (hpc:p+(d+1)+c≤20) (hdr:¬ (0 < p∧G.dr x=true)) (hk:G.kid x≠[]) (hst:-32001≤α) (hβ:β≤32001) (hab:α < β) (hl:σ.lines[p]? = some []) :
  ∃ v σ',SOk G c f σ'∧Fr σ σ'∧Res (G.F c (d+1) p x) α β v∧NV p (d+c+2) v∧(p:Int) - 31998≤v∧(∀ i,i < p→σ'.lines[i]? = σ.lines[i]?) ∧
   (∃ row,σ'.lines[p]? = some row∧row.length≤d+1∧(pv=true→α < v→(v < β∨v=31999 - (p:Int))→Lead G c (d+1) p x row v)) ∧
  ∀ (n:Nat),3*d+2*c+5≤n→∀ (A:Ad) (most:Int) (R H:AHeap) (ml:Nat) (key dl pl:Int) (Q X:EQ),key=(x:Int)+1→dl=(d:Int)+1→pl=p→(most≤0∨σ.nodes≤most)→SR A { f with most:=most } G age σ R H→R ml=some (.list (nats (G.mv x))) →
   ((most≤0∨σ'.nodes≤most)→∀ H',SR A { f with most:=most } G age σ' R H'→Q (.int v) H') →
   (0 < most→most < σ'.nodes→∀ σ'' H',Unw σ''→σ''.nodes=most→SR A { f with most:=most } G age σ'' R H'→X (.int most) H') →
   FW tT (n+9) false 503 [.ref A.c,.ref ml,.int tm,.int key,.int α,.int β,.int dl,.int pl,.bool pv] H Q X:=by
 have eF:G.F c (d+1) p x=fmx (-32001) ((G.mv x).map fun m=>-G.F c d (p+1) (G.to x m)):=by rw [Gm.F,if_neg hdr,if_neg hk]
 have hmv:(G.mv x).length≤2:=by have:=kid_le O x;unfold Gm.mv;simpa using this
 obtain⟨σk,Ik,Fk,Lk,Nk,clr⟩:∃ σk,SOk G c f σk∧Fr σ σk∧σk.lines=σ.lines∧σk.nodes=σ.nodes∧∀ (n:Nat) (A:Ad) (most:Int) (R H:AHeap) (w1 w2 w3 w4 w5 w6 w8 w10 w11 w12 w13 w14 w15 w16 w17 w18 w19:AV) (K:SQ) (X:SX),SR A { f with most:=most } G age σ R H →
   (∀ H',SR A { f with most:=most } G age σk R H'→K .next [.ref A.c,w1,w2,w3,w4,w5,w6,.int p,w8,.ref A.g,w10,w11,w12,w13,w14,w15,w16,w17,w18,w19] H') →
   vS tT (FW tT (n+1)) (.ite (.cmp .isnot (.attr (.loc 0) "killers") (.c .none)) (.cons (.expr (.meth (.attr (.loc 0) "killers") "clear" (.cons (.bin .add (.loc 7) (.c (.int 2))) .nil))) .nil) .nil) false [.ref A.c,w1,w2,w3,w4,w5,w6,.int p,w8,.ref A.g,w10,w11,w12,w13,w14,w15,w16,w17,w18,w19] H K X:=by
  by_cases kh:f.kh=true
  ·obtain⟨k1,k2,k3⟩:=I.kh kh
   refine⟨{ σ with first:=if p+2 < 3 then σ.first.set (p+2) 0 else σ.first,second:=if p+2 < 3 then σ.second.set (p+2) 0 else σ.second },⟨I.tb,fun _=>⟨?_,?_,k3⟩,I.ll⟩,⟨rfl,rfl,Int.le_refl _⟩,rfl,rfl,fun n A most R H w1 w2 w3 w4 w5 w6 w8 w10 w11 w12 w13 w14 w15 w16 w17 w18 w19 K X S h=>?_⟩
   ·show(if p+2 < 3 then σ.first.set (p+2) 0 else σ.first).length=3
    split <;> simp [k1]
   ·show(if p+2 < 3 then σ.second.set (p+2) 0 else σ.second).length=3
    split <;> simp [k2]
   have kv:kilV A { f with most:=most }=.ref A.kl:=by unfold kilV;rw [if_pos kh]
   have c1:=fun Q=>ctx_at S (n:="killers") (v:=kilV A { f with most:=most }) rfl rfl (by rw [kv];simp) (Q:=Q)
   rw [kv] at c1
   simp only [vSs,vS,vE,vEs,LG,t_bool,if_true,c1,isn_ref,m_obj (T:=tT) (f:=386) (S.st.kil kh).1 (n:="clear") rfl rfl,b_add]
   exact x_kclear S kh k1 k2 (p:=p+2) h
  ·refine⟨σ,I,⟨rfl,rfl,Int.le_refl _⟩,rfl,rfl,fun n A most R H w1 w2 w3 w4 w5 w6 w8 w10 w11 w12 w13 w14 w15 w16 w17 w18 w19 K X S h=>?_⟩
   have kv:kilV A { f with most:=most }=.none:=by unfold kilV;rw [if_neg kh]
   have c1:=fun Q=>ctx_at S (n:="killers") (v:=kilV A { f with most:=most }) rfl rfl (by rw [kv];simp) (Q:=Q)
   rw [kv] at c1
   simp only [vSs,vS,vE,vEs,LG,t_bool,c1,isn_none,DF]
   exact h H S
 have Tk:=T.fr Fk
 obtain⟨m,P,b1,b2,nxt⟩:=x_next' G O f σk x Tk.last hN (fun h=>⟨(Ik.kh h).1,(Ik.kh h).2.1⟩) ⟨tm,p,0,G.mv x,[],[]⟩ (by simp) (by rw [pend_new];exact fun m hm=>mv_lg.1 hm) (by simp only [List.length_nil];omega) (by rw [pend_new];omega)
 rw [pend_new] at b2
 have hlen:(todo m P).length≤2:=by rw [← b2.length_eq];exact hmv
 obtain⟨v,bm,σ1,lp,go⟩:=s_loop G O c f age d ih p x α β pv (p%2) (by omega) hok hN hpd hpc hdr hst hβ 2 σk m P (-32001) α 0 [] true hlen Ik Tk (fun y hy=>mv_lg.1 (b2.mem_iff.2 hy)) b1 (by omega) hab (by omega)
  (.inr ⟨rfl,fun e=>hk (mv_nil.1 (by rw [e] at b2;exact b2.eq_nil))⟩) (by omega) (by simp) (by simp) ⟨[],by rw [Lk];exact hl,by simp,fun _ h=>by omega⟩
 have T1:=Tk.fr lp.fr
 have rM:Res (G.F c (d+1) p x) α β v:=by rw [eF,fmx_perm (b2.map _)];exact lp.res
 obtain⟨sl',I2,keep⟩:=x_keep G O c f age hag σ1 p x (d+1) bm v α β lp.ok hok (by omega) (by omega) (by have:=O.n6;omega) lp.bm2 hab (by have:=lp.nv;rwa [show d+c+2=d+1+c+1 by omega] at this) rM
 refine⟨v,{ σ1 with slots:=sl' },I2,⟨lp.fr.path.trans Fk.path,lp.fr.made.trans Fk.made,Int.le_trans Fk.nodes lp.fr.nodes⟩,rM,lp.nv,lp.lo,fun i hi=>(lp.keep i hi).trans (by rw [Lk]),lp.row,fun n hn A most R H ml key dl pl Q X e1 e2 e3 hmo S hml h2 h3=>⟨rfl,?_⟩⟩
 subst e3
 show vSs tT (FW tT (n+8)) ir_search_moves false [.ref A.c,.ref ml,.int tm,.int key,.int α,.int β,.int dl,.int p,.bool pv,.undef,.undef,.undef,.undef,.undef,.undef,.undef,.undef,.undef,.undef,.undef] H _ _
 unfold ir_search_moves
 rw [vSs,vS]
 simp only [vE,LS,ctx_at S (n:="game") rfl rfl (by simp)]
 rw [vSs]
 refine clr (n+7) A most _ H _ _ _ _ _ _ _ _ _ _ _ _ _ _ _ _ _ _ _ S fun H1 S1=>?_
 have hk1:kilV A { f with most:=most }≠.undef:=by unfold kilV;split <;> simp
 have hh1:hisV A { f with most:=most }≠.undef:=by unfold hisV;split <;> simp
 simp only [vSs,vS,vE,vEs,LS,m_obj (T:=tT) (f:=683) S1.st.game.1 (n:="side") rfl rfl]
 refine g_side S1 (by rw [Tk.len];omega) ?_
 rw [Tk.len,show p+1 - 1=p by omega]
 simp only [vSs,vS,vE,vEs,LS,ctx_at S1 (n:="killers") rfl rfl hk1,ctx_at S1 (n:="history") rfl rfl hh1,show tT.ini 464=some 428 from rfl]
 intro pk hpk
 refine x_picker_init (n:=n+7) S1 hpk (S1.sub _ _ hml) tm p fun H2 R2 l r lo S2 Z2=>?_
 simp only [vSs,vS,vE,vEs,LS]
 intro ql hql
 have rq:=S2.none_R hql
 have bq:=sub_none Z2.sub rq
 have S3:=S2.put (o:=.list []) (.inr hql)
 have Z3:=Z2.new (o:=.list []) rq
 simp only [m_obj (T:=tT) (f:=435) (S3.sub _ _ Z3.obj) (n:="next") rfl rfl]
 refine nxt (n+3) A most age _ _ _ pk l r lo _ _ S3 Z3 fun H4 R4 l4 r4 S4 Z4 hB=>?_
 subst e2
 refine⟨3,go n hn A most R _ R4 H4 pk l4 r4 lo ql _ _ _ _ _ _ _ _ (by push_cast;rfl) (by rw [Nk];exact hmo) S4 Z4 hB (fun a o h=>upd_some h fun z=>by rw [z,bq] at h;cases h) upd_eq bq (fun q1 H5 w4 w11 w15 w16 w17 w18 w19 S5=>?_) (fun q1 q2 σ'' ρ H' u1 u2 u3=>h3 q1 q2 σ'' H' u1 u2 u3)⟩
 simp only [vSs,vS,vE,vEs,LS]
 refine keep (n+3) A most R H5 _ _ _ _ _ e1 (by push_cast;rfl) rfl S5 fun H6 S6=>?_
 exact h2 q1 H6 S6
def Sg.cl (σ:Sg) (p:Nat):Sg:={ σ with lines:=clr σ.lines p }
theorem clr_at {l:List (List Int)} {p:Nat} (h:p≤l.length):(clr l p)[p]? = some []:=by
 unfold clr
 split
 ·rw [List.getElem?_set_self (by simp;omega)]
 ·rw [List.getElem?_set_self (by omega)]
theorem clr_ne {l:List (List Int)} {p i:Nat} (h:p≤l.length) (hi:i < p):(clr l p)[i]? = l[i]?:=by
 unfold clr
 rw [List.getElem?_set_ne (by omega)]
 split
 ·rw [List.getElem?_append_left (by omega)]
 ·rfl
theorem clr_len {l:List (List Int)} {p:Nat} (h:l.length≤4) (hp:p≤3) (hl:p≤l.length):(clr l p).length≤4:=by
 unfold clr
 split <;> simp <;> omega
theorem SOk.cl {G c f σ} (h:SOk G c f σ) {p:Nat} (hp:p≤3) (hl:p≤σ.lines.length):SOk G c f (σ.cl p):=⟨h.tb,h.kh,clr_len h.ll hp hl⟩
def s_rest:ISs:=match ir_search with
 | .cons _ (.cons _ (.cons _ (.cons _ (.cons _ r))))=>r
 | _=>.nil
def s_rest2:ISs:=match s_rest with
 | .cons _ (.cons _ (.cons _ (.cons _ (.cons _ (.cons _ (.cons _ (.cons _ r)))))))=>r
 | _=>.nil
theorem s_eq:ir_search=.cons (.expr (.call 169 (.cons (.loc 0) (.cons (.loc 4) .nil)))) (.cons (.ite (.cmp .le (.loc 3) (.c (.int 0))) (.cons (.ret (.call 482 (.cons (.loc 0) (.cons (.loc 1) (.cons (.loc 2) (.cons (.loc 4) (.cons (.attr (.loc 0) "qdepth") .nil))))))) .nil) .nil) (.cons (.expr (.meth (.loc 0) "tick" .nil)) (.cons (.asg 6 (.attr (.loc 0) "game")) (.cons (.ite (.and (.cmp .gt (.loc 4) (.c (.int 0))) (.meth (.loc 6) "is_draw" .nil)) (.cons (.ret (.c (.int 0))) .nil) .nil) s_rest)))):=rfl
theorem s_rest_eq:s_rest=.cons (.asg 7 (.call 92 (.cons (.loc 4) .nil))) (.cons (.asg 8 (.call 99 (.cons (.bin .add (.loc 4) (.c (.int 1))) .nil))) (.cons (.ite (.cmp .ge (.loc 1) (.loc 8)) (.cons (.ret (.loc 8)) .nil) .nil) (.cons (.ite (.cmp .le (.loc 2) (.loc 7)) (.cons (.ret (.loc 7)) .nil) .nil) (.cons (.asg 1 (.max2 (.loc 1) (.loc 7))) (.cons (.asg 2 (.min2 (.loc 2) (.loc 8))) (.cons (.asg 9 (.meth (.loc 6) "key" .nil)) (.cons (.unp [10,11] (.call 517 (.cons (.loc 0) (.cons (.loc 9) (.cons (.loc 1) (.cons (.loc 2) (.cons (.loc 3) (.cons (.loc 4) .nil)))))))) s_rest2))))))):=rfl
theorem s_head (G:Gm) (O:GOk G) (c:Nat) (f:Cf) (age:Int) (σ σ':Sg) (p x:Nat) (I:SOk G c f σ) (T:At σ p x) (hN:x < G.kids.length) (hl:p≤σ.lines.length) (hn':σ.nodes < σ'.nodes) {n:Nat} {A:Ad} {most:Int} {R H:AHeap} {α β dl pl:Int} {pv:Bool} {Q X:EQ} (hdl:0 < dl) (e1:pl=p) (hmo:most≤0∨σ.nodes≤most) (S:SR A { f with most:=most } G age σ R H)
  (hd:0 < p→G.dr x=true→(most≤0∨(σ.cl p).tk.nodes≤most)→∀ H',SR A { f with most:=most } G age (σ.cl p).tk R H'→Q (.int 0) H')
  (hr:¬ (0 < p∧G.dr x=true)→(most≤0∨(σ.cl p).tk.nodes≤most)→∀ H',SR A { f with most:=most } G age (σ.cl p).tk R H'→vSs tT (FW tT (n+1)) s_rest false [.ref A.c,.int α,.int β,.int dl,.int pl,.bool pv,.ref A.g,.undef,.undef,.undef,.undef,.undef,.undef] H' (fun fl _ H'=>match fl with | .ret v=>Q v H' | .next=>Q .none H' | _=>False) (fun k _ H'=>X k H'))
  (hx:0 < most→most < σ'.nodes→∀ σ'' H',Unw σ''→σ''.nodes=most→SR A { f with most:=most } G age σ'' R H'→X (.int most) H') :
  FW tT (n+2) false 496 [.ref A.c,.int α,.int β,.int dl,.int pl,.bool pv] H Q X:=by
 refine⟨rfl,?_⟩
 show vSs tT (FW tT (n+1)) ir_search false [.ref A.c,.int α,.int β,.int dl,.int pl,.bool pv,.undef,.undef,.undef,.undef,.undef,.undef,.undef] H _ _
 rw [s_eq]
 subst e1
 simp only [vSs,vS,vE,vEs,LS]
 refine x_clear_line S hl (by have:=I.ll;omega) fun H0 S0=>?_
 simp only [c_le,t_bool,show ¬ (dl≤0) by omega,DF,m_obj (T:=tT) (f:=134) S0.dy.ctx (n:="tick") rfl rfl]
 refine x_tick S0 (fun q1 q2=>?_) (fun q H1 S1=>?_)
 ·have q1':0 < most:=q1
  have q2':σ.nodes≥most:=q2
  have e:σ.nodes=most:=by omega
  show X (.int σ.nodes) H0
  rw [e]
  exact hx q1' (by omega) _ H0 (show Unw (σ.cl p) from⟨T.unw.hd,T.unw.md⟩) e S0
 have hm1:most≤0∨(σ.cl p).tk.nodes≤most:=by
  have:¬ (most > 0∧σ.nodes≥most):=q
  unfold Sg.cl Sg.tk;dsimp only;omega
 simp only [ctx_at S1 (n:="game") rfl rfl (by simp),LS,c_gt,t_bool]
 by_cases hp:0 < p
 ·simp only [show(p:Int) > 0 by omega,DT,m_obj (T:=tT) (f:=662) S1.st.game.1 (n:="is_draw") rfl rfl]
  refine g_is_draw S1 O (show(σ.cl p).tk.path.getLast? = some x from T.last) hN ?_
  simp only [t_bool]
  by_cases d:G.dr x=true
  ·rw [if_pos d];exact hd hp d hm1 H1 S1
  ·rw [if_neg d];exact hr (fun z=>d z.2) hm1 H1 S1
 ·simp only [show ¬ ((p:Int) > 0) by omega,DF,t_bool]
  exact hr (fun z=>hp z.1) hm1 H1 S1
theorem Res.clamp {F α β lo hi v:Int} (h:Res F (max α lo) (min β hi) v) (h1:lo≤F) (h2:F≤hi):Res F α β v:=by unfold Res at h ⊢;omega
theorem s_look (G:Gm) (O:GOk G) (f:Cf) (age:Int) (σ:Sg) (p x d:Nat) (tm:Int) (o:Option Int) (α β:Int) (Tl:σ.path.getLast? = some x) (ha:¬ (α≥31999 - (p:Int))) (hb:¬ (β≤(p:Int) - 32000))
  (look:∀ (n:Nat) (A:Ad) (most age:Int) (R H:AHeap) (key dl pl:Int) (Q X:EQ),key=(x:Int)+1→dl=(d+1:Nat)→pl=p→SR A { f with most:=most } G age σ R H →
   (∀ H1 a,SR A { f with most:=most } G age σ R H1→H1 a=none→Q (.ref a) (upd H1 a (.tup [.int tm,ov o]))) →
   FW tT (n+3) false 517 [.ref A.c,.int key,.int (max α ((p:Int) - 32000)),.int (min β (31999 - (p:Int))),.int dl,.int pl] H Q X)
  {n:Nat} {A:Ad} {most:Int} {R H:AHeap} {dl pl:Int} {pv:Bool} {K:SQ} {X:SX} (e2:dl=(d:Int)+1) (e1:pl=p) (S:SR A { f with most:=most } G age σ R H)
  (h:∀ H',SR A { f with most:=most } G age σ R H'→vSs tT (FW tT (n+3)) s_rest2 false [.ref A.c,.int (max α ((p:Int) - 32000)),.int (min β (31999 - (p:Int))),.int dl,.int pl,.bool pv,.ref A.g,.int ((p:Int) - 32000),.int (31999 - (p:Int)),.int ((x:Int)+1),.int tm,ov o,.undef] H' K X) :
  vSs tT (FW tT (n+3)) s_rest false [.ref A.c,.int α,.int β,.int dl,.int pl,.bool pv,.ref A.g,.undef,.undef,.undef,.undef,.undef,.undef] H K X:=by
 rw [s_rest_eq]
 subst e1
 simp only [vSs,vS,vE,vEs,LS]
 refine mated_in_ok ?_
 simp only [b_add]
 refine x_mate_in ?_
 rw [show(32000:Int) - ((p:Int)+1)=31999 - (p:Int) by omega]
 simp only [c_ge,c_le,t_bool,ha,hb,DF,true_and,m_obj (T:=tT) (f:=648) S.st.game.1 (n:="key") rfl rfl]
 refine g_key S Tl ?_
 refine look n A most age R H _ _ _ _ _ rfl (by rw [e2];push_cast;rfl) rfl S fun H1 a S1 hn=>?_
 have e:upd H1 a (.tup [.int tm,ov o]) a=some (.tup [.int tm,ov o]):=upd_eq
 simp only [e,true_and,unpL,LT]
 exact h _ (S1.new hn)
end Bn
namespace Bn
open Bm
theorem drop_put {R:AHeap} {a:Nat} {o:AO} (h:R a=none):∀ b q,R b=some q→upd R a o b=some q:=fun b q e=>upd_some e fun z=>by rw [z,h] at e;cases e
theorem x_search (G:Gm) (O:GOk G) (c:Nat) (f:Cf) (hcf:f.calm=(c:Int)) (age:Int) (hag:0≤age∧age < 64):∀ d,SS G c f age d
 | 0,σ,p,x,α,β,pv,I,T,hok,hN,hpd,hpc,hab,hα,hβ,hl=>by
  have Ic:=I.cl (p:=p) (by omega) hl
  have Tc:At (σ.cl p) p x:=⟨T.len,T.last,⟨T.unw.hd,T.unw.md⟩⟩
  obtain⟨v,σ',J1,J2,J3,J4,J5,J6,run⟩:=x_quiesce G O c f age c (σ.cl p) p x α β Ic Tc hN (by omega) hab hα hβ
  refine⟨v,σ',⟨J1,⟨J2.path,J2.made,J2.nodes⟩,J6,by rw [Gm.F];exact J4,by rw [show 0+c+1=c+1 by omega];exact J5,fun i hi=>by rw [J3];exact clr_ne hl hi,[],by rw [J3];exact clr_at hl,by simp,fun _=>rfl,fun _ _ _=>by simp [Lead]⟩,fun dl pl e1 e2 N hNk A most R H Q X hmo S h2 h3=>?_⟩
  obtain⟨n,rfl⟩:∃ n,N=n+2:=⟨N - 2,by omega⟩
  refine⟨rfl,?_⟩
  show vSs tT (FW tT (n+1)) ir_search false [.ref A.c,.int α,.int β,.int dl,.int pl,.bool pv,.undef,.undef,.undef,.undef,.undef,.undef,.undef] H _ _
  rw [s_eq]
  subst e2
  simp only [vSs,vS,vE,vEs,LS]
  refine x_clear_line S hl (by have:=I.ll;omega) fun H0 S0=>?_
  simp only [c_le,t_bool,show dl≤0 by omega,DT,ctx_at S0 (n:="qdepth") rfl rfl (by simp)]
  exact run p f.calm rfl hcf (n+1) (by omega) A most R H0 _ _ hmo S0 h2 h3
 | d+1,σ,p,x,α,β,pv,I,T,hok,hN,hpd,hpc,hab,hα,hβ,hl=>by
  have ih:=x_search G O c f hcf age hag d
  have Ic:SOk G c f (σ.cl p).tk:=(I.cl (p:=p) (by omega) hl).tk
  have Tc:At (σ.cl p).tk p x:=⟨T.len,T.last,⟨T.unw.hd,T.unw.md⟩⟩
  have Tl:(σ.cl p).tk.path.getLast? = some x:=T.last
  have lt:σ.nodes < (σ.cl p).tk.nodes:=by unfold Sg.cl Sg.tk;dsimp only;omega
  have Fc:Fr σ (σ.cl p).tk:=⟨rfl,rfl,Int.le_of_lt lt⟩
  have Fn:=F_NV O c (d+1) p x (by omega)
  have flo:=Fn.ge (by omega)
  have fhi:=Fn.le (by omega)
  have keep1:∀ i,i < p→(σ.cl p).tk.lines[i]? = σ.lines[i]?:=fun i hi=>clr_ne hl hi
  have row1:(σ.cl p).tk.lines[p]? = some []:=clr_at hl
  by_cases d1:0 < p∧G.dr x=true
  ·have e:G.F c (d+1) p x=0:=by rw [Gm.F,if_pos d1]
   refine⟨0,(σ.cl p).tk,⟨Ic,Fc,lt,by rw [e];exact Res.eq,by rw [← e];exact Fn,keep1,[],row1,by simp,fun _=>rfl,fun _ _ _=>by simp [Lead,d1]⟩,fun dl pl e1 e2 N hNk A most R H Q X hmo S h2 h3=>?_⟩
   obtain⟨n,rfl⟩:∃ n,N=n+2:=⟨N - 2,by omega⟩
   exact s_head G O c f age σ _ p x I T hN hl lt (by omega) e2 hmo S (fun _ _ hm1 H1 S1=>h2 hm1 H1 S1) (fun z=>absurd d1 z) h3
  by_cases c1:α≥31999 - (p:Int)
  ·refine⟨31999 - (p:Int),(σ.cl p).tk,⟨Ic,Fc,lt,by unfold Res;omega,by unfold NV;omega,keep1,[],row1,by simp,fun _=>rfl,fun _ _ _=>by omega⟩,fun dl pl e1 e2 N hNk A most R H Q X hmo S h2 h3=>?_⟩
   obtain⟨n,rfl⟩:∃ n,N=n+3:=⟨N - 3,by omega⟩
   refine s_head G O c f age σ _ p x I T hN hl lt (by omega) e2 hmo S (fun z1 z2=>absurd ⟨z1,z2⟩ d1) (fun z hm1 H1 S1=>?_) h3
   rw [s_rest_eq]
   subst e2
   simp only [vSs,vS,vE,vEs,LS]
   refine mated_in_ok ?_
   simp only [b_add]
   refine x_mate_in ?_
   rw [show(32000:Int) - ((p:Int)+1)=31999 - (p:Int) by omega]
   simp only [c_ge,t_bool,c1,DT]
   exact h2 hm1 H1 S1
  by_cases c2:β≤(p:Int) - 32000
  ·refine⟨(p:Int) - 32000,(σ.cl p).tk,⟨Ic,Fc,lt,by unfold Res;omega,by unfold NV;omega,keep1,[],row1,by simp,fun _=>rfl,fun _ _ _=>by omega⟩,fun dl pl e1 e2 N hNk A most R H Q X hmo S h2 h3=>?_⟩
   obtain⟨n,rfl⟩:∃ n,N=n+3:=⟨N - 3,by omega⟩
   refine s_head G O c f age σ _ p x I T hN hl lt (by omega) e2 hmo S (fun z1 z2=>absurd ⟨z1,z2⟩ d1) (fun z hm1 H1 S1=>?_) h3
   rw [s_rest_eq]
   subst e2
   simp only [vSs,vS,vE,vEs,LS]
   refine mated_in_ok ?_
   simp only [b_add]
   refine x_mate_in ?_
   rw [show(32000:Int) - ((p:Int)+1)=31999 - (p:Int) by omega]
   simp only [c_ge,c_le,t_bool,c1,c2,decide_true,DF,if_true]
   exact h2 hm1 H1 S1
  have hab':max α ((p:Int) - 32000) < min β (31999 - (p:Int)):=by omega
  obtain⟨tm,o,ho,look⟩:=x_look_up G O c f (σ.cl p).tk p x (d+1) (max α ((p:Int) - 32000)) (min β (31999 - (p:Int))) hab' Ic hok (by omega) (by omega)
  by_cases c3:o≠none∧pv=false
  ·obtain⟨o1,rfl⟩:=c3
   obtain⟨w,rfl⟩:∃ w,o=some w:=by
    cases o with
    | none=>exact absurd rfl o1
    | some w=>exact⟨w,rfl⟩
   obtain⟨g1,g2⟩:=ho w rfl
   refine⟨w,(σ.cl p).tk,⟨Ic,Fc,lt,g1.clamp flo fhi,g2,keep1,[],row1,by simp,fun _=>rfl,fun z=>by cases z⟩,fun dl pl e1 e2 N hNk A most R H Q X hmo S h2 h3=>?_⟩
   obtain⟨n,rfl⟩:∃ n,N=n+4:=⟨N - 4,by omega⟩
   refine s_head G O c f age σ _ p x I T hN hl lt (by omega) e2 hmo S (fun z1 z2=>absurd ⟨z1,z2⟩ d1) (fun z hm1 H1 S1=>?_) h3
   refine s_look G O f age _ p x d tm (some w) α β Tl c1 c2 look (by rw [e1];push_cast;rfl) e2 S1 fun H2 S2=>?_
   simp only [s_rest2,s_rest,ir_search,ov,vSs,vS,vE,vEs,LG,isn_int,t_bool,if_true,Bool.not_false]
   exact h2 hm1 H2 S2
  have way:∀ {n:Nat} {A:Ad} {most:Int} {R H:AHeap} {dl pl:Int} {K:SQ} {X:SX},dl=(d:Int)+1→SR A { f with most:=most } G age (σ.cl p).tk R H →
    (∀ a,H a=none→SR A { f with most:=most } G age (σ.cl p).tk (upd R a (.list (nats (G.mv x)))) (upd H a (.list (nats (G.mv x))))→vSs tT (FW tT (n+3)) (.cons (.ite (.not (.loc 12)) (.cons (.ite (.meth (.loc 6) "in_check" .nil) (.cons (.ret (.call 92 (.cons (.loc 4) .nil))) .nil) .nil) (.cons (.ret (.c (.int 0))) .nil)) .nil) (.cons (.ret (.call 503 (.cons (.loc 0) (.cons (.loc 12) (.cons (.loc 10) (.cons (.loc 9) (.cons (.loc 1) (.cons (.loc 2) (.cons (.loc 3) (.cons (.loc 4) (.cons (.loc 5) .nil))))))))))) .nil)) false [.ref A.c,.int (max α ((p:Int) - 32000)),.int (min β (31999 - (p:Int))),.int dl,.int pl,.bool pv,.ref A.g,.int ((p:Int) - 32000),.int (31999 - (p:Int)),.int ((x:Int)+1),.int tm,ov o,.ref a] (upd H a (.list (nats (G.mv x)))) K X) →
    vSs tT (FW tT (n+3)) s_rest2 false [.ref A.c,.int (max α ((p:Int) - 32000)),.int (min β (31999 - (p:Int))),.int dl,.int pl,.bool pv,.ref A.g,.int ((p:Int) - 32000),.int (31999 - (p:Int)),.int ((x:Int)+1),.int tm,ov o,.undef] H K X:=by
   intro n A most R H dl pl K X e1 S h
   have hdl:¬ (dl≥4):=by omega
   have fin:vSs tT (FW tT (n+3)) (.cons (.asg 12 (.meth (.loc 6) "moves" .nil)) (.cons (.ite (.not (.loc 12)) (.cons (.ite (.meth (.loc 6) "in_check" .nil) (.cons (.ret (.call 92 (.cons (.loc 4) .nil))) .nil) .nil) (.cons (.ret (.c (.int 0))) .nil)) .nil) (.cons (.ret (.call 503 (.cons (.loc 0) (.cons (.loc 12) (.cons (.loc 10) (.cons (.loc 9) (.cons (.loc 1) (.cons (.loc 2) (.cons (.loc 3) (.cons (.loc 4) (.cons (.loc 5) .nil))))))))))) .nil))) false [.ref A.c,.int (max α ((p:Int) - 32000)),.int (min β (31999 - (p:Int))),.int dl,.int pl,.bool pv,.ref A.g,.int ((p:Int) - 32000),.int (31999 - (p:Int)),.int ((x:Int)+1),.int tm,ov o,.undef] H K X:=by
    rw [vSs,vS]
    simp only [vE,vEs,LG,m_obj (T:=tT) (f:=615) S.st.game.1 (n:="moves") rfl rfl]
    refine g_moves S O Tl hN fun a ha=>?_
    exact h a ha (S.put (.inr ha))
   rw [show s_rest2=.cons (.ite (.and (.cmp .isnot (.loc 11) (.c .none)) (.not (.loc 5))) (.cons (.ret (.loc 11)) .nil) .nil) (.cons (.ite (.and (.loc 5) (.and (.cmp .eq (.loc 10) (.c (.int 0))) (.and (.cmp .ge (.loc 3) (.c (.int 4))) (.cmp .isnot (.attr (.loc 0) "table") (.c .none))))) (.cons (.expr (.call 496 (.cons (.loc 0) (.cons (.loc 1) (.cons (.loc 2) (.cons (.bin .sub (.loc 3) (.c (.int 2))) (.cons (.loc 4) (.cons (.loc 5) .nil)))))))) (.cons (.unp [10,11] (.call 517 (.cons (.loc 0) (.cons (.loc 9) (.cons (.loc 1) (.cons (.loc 2) (.cons (.loc 3) (.cons (.loc 4) .nil)))))))) (.cons (.expr (.call 169 (.cons (.loc 0) (.cons (.loc 4) .nil)))) .nil))) .nil) (.cons (.asg 12 (.meth (.loc 6) "moves" .nil)) (.cons (.ite (.not (.loc 12)) (.cons (.ite (.meth (.loc 6) "in_check" .nil) (.cons (.ret (.call 92 (.cons (.loc 4) .nil))) .nil) .nil) (.cons (.ret (.c (.int 0))) .nil)) .nil) (.cons (.ret (.call 503 (.cons (.loc 0) (.cons (.loc 12) (.cons (.loc 10) (.cons (.loc 9) (.cons (.loc 1) (.cons (.loc 2) (.cons (.loc 3) (.cons (.loc 4) (.cons (.loc 5) .nil))))))))))) .nil)))) from rfl]
   rw [vSs,vS]
   cases pv with
   | false =>
    have o1:o=none:=by
     cases o with
     | none=>rfl
     | some w=>exact absurd ⟨by simp,rfl⟩ c3
    subst o1
    simp only [ov,vE,vEs,LG,isn_none,t_bool,DF]
    rw [vSs]
    rw [vSs,vS]
    simp only [vE,vEs,LG,t_bool,DF]
    rw [vSs]
    exact fin
   | true =>
    have s1:∀ K:EQ,vE tT false (FW tT (n+3) false) (.and (.cmp .isnot (.loc 11) (.c .none)) (.not (.loc 5))) [.ref A.c,.int (max α ((p:Int) - 32000)),.int (min β (31999 - (p:Int))),.int dl,.int pl,.bool true,.ref A.g,.int ((p:Int) - 32000),.int (31999 - (p:Int)),.int ((x:Int)+1),.int tm,ov o,.undef] H K (fun n H=>X n [.ref A.c,.int (max α ((p:Int) - 32000)),.int (min β (31999 - (p:Int))),.int dl,.int pl,.bool true,.ref A.g,.int ((p:Int) - 32000),.int (31999 - (p:Int)),.int ((x:Int)+1),.int tm,ov o,.undef] H)=K (.bool false) H:=by
     intro K
     cases o with
     | none=>simp only [ov,vE,vEs,LG,isn_none,t_bool,DF]
     | some w=>simp only [ov,vE,vEs,LG,isn_int,t_bool,if_true,Bool.not_true]
    rw [s1]
    simp only [t_bool,DF]
    rw [vSs]
    rw [vSs,vS]
    have s2:∀ K:EQ,vE tT false (FW tT (n+3) false) (.and (.loc 5) (.and (.cmp .eq (.loc 10) (.c (.int 0))) (.and (.cmp .ge (.loc 3) (.c (.int 4))) (.cmp .isnot (.attr (.loc 0) "table") (.c .none))))) [.ref A.c,.int (max α ((p:Int) - 32000)),.int (min β (31999 - (p:Int))),.int dl,.int pl,.bool true,.ref A.g,.int ((p:Int) - 32000),.int (31999 - (p:Int)),.int ((x:Int)+1),.int tm,ov o,.undef] H K (fun n H=>X n [.ref A.c,.int (max α ((p:Int) - 32000)),.int (min β (31999 - (p:Int))),.int dl,.int pl,.bool true,.ref A.g,.int ((p:Int) - 32000),.int (31999 - (p:Int)),.int ((x:Int)+1),.int tm,ov o,.undef] H)=K (.bool false) H:=by
     intro K
     by_cases ht:tm=0
     ·simp only [vE,vEs,LG,t_bool,if_true,c_eq,c_ge,ht,hdl,decide_true,DF]
     ·simp only [vE,vEs,LG,t_bool,if_true,c_eq,c_ge,ht,DF]
    rw [s2]
    simp only [t_bool,DF]
    rw [vSs]
    exact fin
  by_cases hk:G.kid x=[]
  ·
   obtain⟨v,hv⟩:∃ v:Int,v=if G.ck x=true then(p:Int) - 32000 else 0:=⟨_,rfl⟩
   have e:G.F c (d+1) p x=v:=by rw [Gm.F,if_neg d1,if_pos hk,hv]
   refine⟨v,(σ.cl p).tk,⟨Ic,Fc,lt,by rw [e];exact Res.eq,by rw [← e];exact Fn,keep1,[],row1,by simp,fun _=>rfl,fun _ _ _=>by simp [Lead,hk]⟩,fun dl pl e1 e2 N hNk A most R H Q X hmo S h2 h3=>?_⟩
   obtain⟨n,rfl⟩:∃ n,N=n+4:=⟨N - 4,by omega⟩
   refine s_head G O c f age σ _ p x I T hN hl lt (by omega) e2 hmo S (fun z1 z2=>absurd ⟨z1,z2⟩ d1) (fun z hm1 H1 S1=>?_) h3
   refine s_look G O f age _ p x d tm o α β Tl c1 c2 look (by rw [e1];push_cast;rfl) e2 S1 fun H2 S2=>?_
   refine way (by rw [e1];push_cast;rfl) S2 fun a ha S3=>?_
   have hm:upd H2 a (.list (nats (G.mv x))) a=some (.list (nats (G.mv x))):=upd_eq
   simp only [vSs,vS,vE,vEs,LG,t_nats hm,t_bool]
   have S4:=S3.drop (drop_put (S2.none_R ha))
   rw [mv_nil.2 hk] at S4 ⊢
   simp only [show(!(!([]:List Nat).isEmpty))=true from rfl,if_true,m_obj (T:=tT) (f:=655) S4.st.game.1 (n:="in_check") rfl rfl]
   refine g_in_check S4 O Tl hN ?_
   simp only [t_bool]
   by_cases ck:G.ck x=true
   ·rw [if_pos ck] at hv ⊢
    refine mated_in_ok ?_
    rw [e2,← hv]
    exact h2 hm1 _ S4
   ·rw [if_neg ck] at hv ⊢
    rw [hv] at h2
    exact h2 hm1 _ S4
  ·obtain⟨v,σ',J1,J2,J3,J4,J5,J6,⟨row,r1,r2,r3⟩,go⟩:=x_search_moves G O c f age hag d ih (σ.cl p).tk p x (max α ((p:Int) - 32000)) (min β (31999 - (p:Int))) pv tm Ic Tc hok hN (by omega) (by omega) d1 hk (by omega) (by omega) hab' row1
   have hle:=J4.le (by omega)
   have hnn:=J2.nodes
   refine⟨v,σ',⟨J1,Fc.trans J2,by omega,J3.clamp flo fhi,by rw [show d+1+c+1=d+c+2 by omega];exact J4,fun i hi=>(J6 i hi).trans (keep1 i hi),row,r1,r2,fun z=>by omega,fun z1 z2 z3=>r3 z1 (by omega) (by omega)⟩,fun dl pl e1 e2 N hNk A most R H Q X hmo S h2 h3=>?_⟩
   obtain⟨n,rfl⟩:∃ n,N=n+10:=⟨N - 10,by omega⟩
   refine s_head G O c f age σ σ' p x I T hN hl (by omega) (by omega) e2 hmo S (fun z1 z2=>absurd ⟨z1,z2⟩ d1) (fun z hm1 H1 S1=>?_) h3
   refine s_look G O f age _ p x d tm o α β Tl c1 c2 look (by rw [e1];push_cast;rfl) e2 S1 fun H2 S2=>?_
   refine way (by rw [e1];push_cast;rfl) S2 fun a ha S3=>?_
   have hm:upd H2 a (.list (nats (G.mv x))) a=some (.list (nats (G.mv x))):=upd_eq
   have hmv:(!(!(G.mv x).isEmpty))=false:=by
    cases hh:G.mv x with
    | nil=>exact absurd (mv_nil.1 hh) hk
    | cons=>rfl
   simp only [vSs,vS,vE,vEs,LG,t_nats hm,t_bool,hmv,DF]
   have hd:=drop_put (o:=.list (nats (G.mv x))) (S2.none_R ha)
   exact go n (by omega) A most _ _ a _ dl pl _ _ rfl (by rw [e1];push_cast;rfl) e2 hm1 S3 upd_eq (fun q1 H' S'=>h2 q1 H' (S'.drop hd)) (fun q1 q2 σ'' H' u1 u2 u3=>h3 q1 q2 σ'' H' u1 u2 (u3.drop hd))
end Bn
namespace Bn
open Bm
def lowE (v dl:Int):Int:=if dl > 1000 then -32001 else max (v - dl) (-32001)
def uppE (v dl:Int):Int:=if dl > 1000 then 32001 else min (v+dl) 32001
theorem x_lower {v dl:Int} {n:Nat} {H:AHeap} {Q X:EQ} (h:Q (.int (lowE v dl)) H):FW tT (n+1) false 559 [.int v,.int dl] H Q X:=by
 refine⟨rfl,?_⟩
 show vSs tT (FW tT n) ir_lower_edge false [.int v,.int dl] H _ _
 unfold ir_lower_edge
 unfold lowE at h
 by_cases c:dl > 1000
 ·rw [if_pos c] at h
  simp only [vSs,vS,vE,LG,c_gt,t_bool,c,DT];exact h
 ·rw [if_neg c] at h
  simp only [vSs,vS,vE,LG,c_gt,t_bool,c,DF,b_sub];exact⟨trivial,h⟩
theorem x_upper {v dl:Int} {n:Nat} {H:AHeap} {Q X:EQ} (h:Q (.int (uppE v dl)) H):FW tT (n+1) false 566 [.int v,.int dl] H Q X:=by
 refine⟨rfl,?_⟩
 show vSs tT (FW tT n) ir_upper_edge false [.int v,.int dl] H _ _
 unfold ir_upper_edge
 unfold uppE at h
 by_cases c:dl > 1000
 ·rw [if_pos c] at h
  simp only [vSs,vS,vE,LG,c_gt,t_bool,c,DT];exact h
 ·rw [if_neg c] at h
  simp only [vSs,vS,vE,LG,c_gt,t_bool,c,DF,b_add];exact⟨trivial,h⟩
def mu (dl α β:Int):Nat:=(if dl≤1000 then(1004 - dl).toNat else 0)+(if α = -32001 then 0 else 2)+(if β=32001 then 0 else 1)
theorem mu_b (α β:Int):(if α = -32001 then 0 else 2)+(if β=32001 then 0 else 1)≤(3:Nat):=by split <;> split <;> omega
theorem mu_low {dl α β v:Int} (h1:-32001≤α) (h5:1≤dl) (c1:v≤α) (vlo:((0:Nat):Int) - 32000≤v):mu (dl+(dl / 4+5)) (lowE v dl) ((α+β) / 2) < mu dl α β:=by
 have b1:=mu_b (lowE v dl) ((α+β) / 2)
 have a0:α≠-32001:=by omega
 by_cases c:dl > 1000
 ·have e:lowE v dl = -32001:=by unfold lowE;rw [if_pos c]
  unfold mu
  rw [e,if_neg (show ¬ (dl+(dl / 4+5)≤1000) by omega),if_neg (show ¬ (dl≤1000) by omega),if_neg a0,if_pos rfl]
  split <;> split <;> omega
 ·unfold mu
  rw [if_pos (show dl≤1000 by omega),if_neg a0]
  by_cases c2:dl+(dl / 4+5)≤1000
  ·rw [if_pos c2];omega
  ·rw [if_neg c2];omega
theorem mu_upp {dl α β v:Int} (h3:β≤32001) (h5:1≤dl) (c1:β≤v) (vhi:v≤31999 - ((0:Nat):Int)):mu (dl+(dl / 4+5)) α (uppE v dl) < mu dl α β:=by
 have b1:=mu_b α (uppE v dl)
 have a0:β≠32001:=by omega
 by_cases c:dl > 1000
 ·have e:uppE v dl=32001:=by unfold uppE;rw [if_pos c]
  unfold mu
  rw [e,if_neg (show ¬ (dl+(dl / 4+5)≤1000) by omega),if_neg (show ¬ (dl≤1000) by omega),if_neg a0,if_pos rfl]
  omega
 ·have b2:=mu_b α β
  unfold mu
  rw [if_pos (show dl≤1000 by omega)]
  by_cases c2:dl+(dl / 4+5)≤1000
  ·rw [if_pos c2];omega
  ·rw [if_neg c2];omega
def aW (n:Nat) (X:SX):Nat→List AV→AHeap→SQ→Prop:=whileL (fun ρ H K=>vE tT false (FW tT (n+2) false) (.or (.cmp .le (.loc 6) (.loc 4)) (.cmp .ge (.loc 6) (.loc 5))) ρ H (fun v H=>truthy v H fun r=>K r H) (fun n H=>X n ρ H)) (fun ρ H K=>vSs tT (FW tT (n+2)) ir_aspirate_loop0 false ρ H K X)
theorem aW_step {n X k ρ H Q}:aW n X (k+1) ρ H Q=vE tT false (FW tT (n+2) false) (.or (.cmp .le (.loc 6) (.loc 4)) (.cmp .ge (.loc 6) (.loc 5))) ρ H (fun v H=>truthy v H fun r=>if r=true then vSs tT (FW tT (n+2)) ir_aspirate_loop0 false ρ H (aft (aW n X k) Q) X else Q .next ρ H) (fun n H=>X n ρ H):=by
 unfold aW;rw [while_step]
theorem asp_loop (G:Gm) (O:GOk G) (c:Nat) (f:Cf) (age:Int) (d:Nat) (hS:SS G c f age d) (hd:d≤3) (hdc:d+c≤20):∀ (K:Nat) (σ:Sg) (α β dl v:Int),mu dl α β≤K→SOk G c f σ→At σ 0 0→-32001≤α→α < β→β≤32001→1≤dl→Res (G.F c d 0 0) α β v→NV 0 (d+c+1) v→(∃ row,σ.lines[0]? = some row∧(α < v→v < β→Lead G c d 0 0 row v)) →
  ∃ σ',SOk G c f σ'∧Fr σ σ'∧(∃ row,σ'.lines[0]? = some row∧Lead G c d 0 0 row (G.F c d 0 0)) ∧
  ∀ (n:Nat),3*d+2*c+12≤n+2→∀ (A:Ad) (most:Int) (R H:AHeap) (g:AV) (Q:SQ) (X:SX),(most≤0∨σ.nodes≤most)→SR A { f with most:=most } G age σ R H →
   ((most≤0∨σ'.nodes≤most)→∀ H' ρ,SR A { f with most:=most } G age σ' R H'→lget ρ 6=.int (G.F c d 0 0)→Q .next ρ H') →
   (0 < most→most < σ'.nodes→∀ σ'' ρ H',Unw σ''→σ''.nodes=most→SR A { f with most:=most } G age σ'' R H'→X (.int most) ρ H') →
   aW n X (K+1) [.ref A.c,.int d,g,.int dl,.int α,.int β,.int v] H Q
 | K,σ,α,β,dl,v,hK,I,T,h1,h2,h3,h5,hr,hn,hrow=>by
  have vlo:=hn.ge (by omega)
  have vhi:=hn.le (by omega)
  have n6:=O.n0
  by_cases ex:α < v∧v < β
  ·have e:v=G.F c d 0 0:=hr.2.2 ex.1 ex.2
   obtain⟨row,r1,r2⟩:=hrow
   refine⟨σ,I,⟨rfl,rfl,Int.le_refl _⟩,⟨row,r1,by rw [← e];exact r2 ex.1 ex.2⟩,fun n hn A most R H g Q X hmo S q2 q3=>?_⟩
   rw [aW_step]
   simp only [vE,LG,c_le,c_ge,t_bool,show ¬ (v≤α) by omega,show ¬ (v≥β) by omega,DF]
   exact q2 hmo H _ S (by simp only [LG];rw [e])
  ·
   obtain⟨α',β',hw,w1,w2,w3,w4⟩:∃ α' β':Int,((v≤α∧β'=(α+β) / 2∧α'=lowE v dl)∨(¬ v≤α∧α'=α∧β'=uppE v dl))∧-32001≤α'∧α' < β'∧β'≤32001∧mu (dl+(dl / 4+5)) α' β' < mu dl α β:=by
    by_cases c1:v≤α
    ·refine⟨lowE v dl,(α+β) / 2,.inl ⟨c1,rfl,rfl⟩,?_,?_,by omega,?_⟩
     ·unfold lowE;omega
     ·unfold lowE;omega
     ·exact mu_low h1 h5 c1 vlo
    ·refine⟨α,uppE v dl,.inr ⟨c1,rfl,rfl⟩,h1,?_,?_,?_⟩
     ·unfold uppE;omega
     ·unfold uppE;omega
     ·exact mu_upp h3 h5 (by omega) vhi
   cases K with
   | zero=>omega
   | succ K =>
   obtain⟨v',σ1,o,run⟩:=hS σ 0 0 α' β' true I T (by unfold okp;omega) n6 (by omega) (by omega) w2 w1 w3 (by omega)
   obtain⟨row,r1,r2,r3,r4⟩:=o.row
   obtain⟨σ',J1,J2,J3,go⟩:=asp_loop G O c f age d hS hd hdc K σ1 α' β' (dl+(dl / 4+5)) v' (by omega) o.ok (T.fr o.fr) w1 w2 w3 (by omega) o.res o.nv ⟨row,r1,fun a b=>r4 rfl a b⟩
   have hnn:=J2.nodes
   refine⟨σ',J1,o.fr.trans J2,J3,fun n hn A most R H g Q X hmo S q2 q3=>?_⟩
   rw [aW_step]
   have fin:∀ (v6:AV),vSs tT (FW tT (n+2)) (.cons (.augL 3 .add (.bin .add (.bin .fdiv (.loc 3) (.c (.int 4))) (.c (.int 5)))) (.cons (.asg 6 (.call 496 (.cons (.loc 0) (.cons (.loc 4) (.cons (.loc 5) (.cons (.loc 1) (.cons (.c (.int 0)) (.cons (.c (.bool true)) .nil)))))))) .nil)) false [.ref A.c,.int d,g,.int dl,.int α',.int β',v6] H (aft (aW n X (K+1)) Q) X:=by
    intro v6
    simp only [vSs,vS,vE,vEs,LS,b_fdiv (show(0:Int) < 4 by decide) (show(4:Int) < 1000000000 by decide),b_add]
    refine run d 0 rfl rfl (n+2) (by omega) A most R H _ _ hmo S (fun hm1 H1 S1=>?_) (fun u1 u2 σ'' H'' u3 u4 u5=>q3 u1 (by omega) σ'' _ H'' u3 u4 u5)
    rw [aft_next]
    exact go n hn A most R H1 g Q X hm1 S1 q2 q3
   by_cases c1:v≤α
   ·rcases hw with ⟨_,e1,e2⟩ | ⟨c2,_⟩
    ·simp only [vE,LG,c_le,t_bool,c1,DT]
     rw [show ir_aspirate_loop0=.cons (.ite (.cmp .le (.loc 6) (.loc 4)) (.cons (.asg 5 (.bin .fdiv (.bin .add (.loc 4) (.loc 5)) (.c (.int 2)))) (.cons (.asg 4 (.call 559 (.cons (.loc 6) (.cons (.loc 3) .nil)))) .nil)) (.cons (.asg 5 (.call 566 (.cons (.loc 6) (.cons (.loc 3) .nil)))) .nil)) (.cons (.augL 3 .add (.bin .add (.bin .fdiv (.loc 3) (.c (.int 4))) (.c (.int 5)))) (.cons (.asg 6 (.call 496 (.cons (.loc 0) (.cons (.loc 4) (.cons (.loc 5) (.cons (.loc 1) (.cons (.c (.int 0)) (.cons (.c (.bool true)) .nil)))))))) .nil)) from rfl]
     rw [vSs,vS]
     simp only [vE,LG,c_le,t_bool,c1,DT]
     rw [vSs,vS]
     simp only [vE,LS,b_add,b_fdiv (show(0:Int) < 2 by decide) (show(2:Int) < 1000000000 by decide)]
     rw [vSs,vS]
     simp only [vE,vEs,LS]
     refine x_lower ?_
     rw [vSs]
     rw [← e1,← e2]
     exact fin _
    ·exact absurd c1 c2
   ·rcases hw with ⟨c2,_⟩ | ⟨_,e1,e2⟩
    ·exact absurd c2 c1
    ·have c3:v≥β:=by omega
     simp only [vE,LG,c_le,c_ge,t_bool,c1,c3,DF,DT]
     rw [show ir_aspirate_loop0=.cons (.ite (.cmp .le (.loc 6) (.loc 4)) (.cons (.asg 5 (.bin .fdiv (.bin .add (.loc 4) (.loc 5)) (.c (.int 2)))) (.cons (.asg 4 (.call 559 (.cons (.loc 6) (.cons (.loc 3) .nil)))) .nil)) (.cons (.asg 5 (.call 566 (.cons (.loc 6) (.cons (.loc 3) .nil)))) .nil)) (.cons (.augL 3 .add (.bin .add (.bin .fdiv (.loc 3) (.c (.int 4))) (.c (.int 5)))) (.cons (.asg 6 (.call 496 (.cons (.loc 0) (.cons (.loc 4) (.cons (.loc 5) (.cons (.loc 1) (.cons (.c (.int 0)) (.cons (.c (.bool true)) .nil)))))))) .nil)) from rfl]
     rw [vSs,vS]
     simp only [vE,LG,c_le,t_bool,c1,DF]
     rw [vSs,vS]
     simp only [vE,vEs,LS]
     refine x_upper ?_
     rw [vSs]
     rw [← e2,← e1]
     exact fin _
theorem x_aspirate (G:Gm) (O:GOk G) (c:Nat) (f:Cf) (age:Int) (d:Nat) (hS:SS G c f age d) (hd:d≤3) (hdc:d+c≤20) (σ:Sg) (g0 dl0:Int) (I:SOk G c f σ) (T:At σ 0 0) :
  ∃ σ',SOk G c f σ'∧Fr σ σ'∧σ.nodes < σ'.nodes∧(∃ row,σ'.lines[0]? = some row∧Lead G c d 0 0 row (G.F c d 0 0)) ∧
   ∀ dz:Int,dz=d→Runs f G age 573 (3*d+2*c+13) (fun A=>[.ref A.c,.int dz,.int g0,.int dl0]) σ σ' (.int (G.F c d 0 0)):=by
 obtain⟨g,hg⟩:∃ g:Int,g=max (-32000) (min 32000 g0):=⟨_,rfl⟩
 obtain⟨dl,hdl⟩:∃ dl:Int,dl=max 1 dl0:=⟨_,rfl⟩
 have a1:-32001≤lowE g dl:=by unfold lowE;omega
 have a2:lowE g dl < uppE g dl:=by unfold lowE uppE;omega
 have a3:uppE g dl≤32001:=by unfold uppE;omega
 obtain⟨v,σ1,o,run⟩:=hS σ 0 0 (lowE g dl) (uppE g dl) true I T (by unfold okp;omega) O.n0 (by omega) (by omega) a2 a1 a3 (by omega)
 obtain⟨row,r1,r2,r3,r4⟩:=o.row
 obtain⟨σ',J1,J2,J3,go⟩:=asp_loop G O c f age d hS hd hdc (mu dl (lowE g dl) (uppE g dl)) σ1 (lowE g dl) (uppE g dl) dl v (Nat.le_refl _) o.ok (T.fr o.fr) a1 a2 a3 (by omega) o.res o.nv ⟨row,r1,fun a b=>r4 rfl a b⟩
 have hnn:=J2.nodes
 have hlt:=o.lt
 refine⟨σ',J1,o.fr.trans J2,by omega,J3,fun dz ez N hN A most R H Q X hmo S q2 q3=>?_⟩
 subst ez
 obtain⟨n,rfl⟩:∃ n,N=n+3:=⟨N - 3,by omega⟩
 refine⟨rfl,?_⟩
 show vSs tT (FW tT (n+2)) ir_aspirate false [.ref A.c,.int d,.int g0,.int dl0,.undef,.undef,.undef] H _ _
 unfold ir_aspirate
 simp only [vSs,vS,vE,vEs,LS,true_and]
 rw [← hg,← hdl]
 refine x_lower ?_
 refine x_upper ?_
 refine run d 0 rfl rfl (n+2) (by omega) A most R H _ _ hmo S (fun hm1 H1 S1=>?_) (fun u1 u2 σ'' H'' u3 u4 u5=>q3 u1 (by omega) σ'' H'' u3 u4 u5)
 refine⟨_,go n (by omega) A most R H1 (.int g) _ _ hm1 S1 (fun hm2 H2 ρ S2 hρ=>?_) (fun u1 u2 σ'' ρ H'' u3 u4 u5=>q3 u1 u2 σ'' H'' u3 u4 u5)⟩
 simp only [vSs,vS,vE,hρ]
 exact q2 hm2 H2 S2
def mW (n:Nat) (X:SX):Nat→List AV→AHeap→SQ→Prop:=whileL (fun ρ H K=>vE tT false (FW tT (n+1) false) (.cmp .lt (.loc 4) (.loc 5)) ρ H (fun v H=>truthy v H fun r=>K r H) (fun n H=>X n ρ H)) (fun ρ H K=>vSs tT (FW tT (n+1)) ir_mtdf_loop0 false ρ H K X)
theorem mW_step {n X k ρ H Q}:mW n X (k+1) ρ H Q=vE tT false (FW tT (n+1) false) (.cmp .lt (.loc 4) (.loc 5)) ρ H (fun v H=>truthy v H fun r=>if r=true then vSs tT (FW tT (n+1)) ir_mtdf_loop0 false ρ H (aft (mW n X k) Q) X else Q .next ρ H) (fun n H=>X n ρ H):=by
 unfold mW;rw [while_step]
theorem mtdf_loop (G:Gm) (O:GOk G) (c:Nat) (f:Cf) (age:Int) (d:Nat) (hS:SS G c f age d) (hd:d≤3) (hdc:d+c≤20):∀ (K:Nat) (σ:Sg) (v lo hi:Int),(hi - lo).toNat≤K→SOk G c f σ→At σ 0 0→-32001≤lo→hi≤32001→lo≤v→v≤hi→lo≤G.F c d 0 0→G.F c d 0 0≤hi →
  ∃ σ',SOk G c f σ'∧Fr σ σ'∧∀ (n:Nat),3*d+2*c+12≤n+1→∀ (A:Ad) (most:Int) (R H:AHeap) (g b:AV) (Q:SQ) (X:SX),(most≤0∨σ.nodes≤most)→SR A { f with most:=most } G age σ R H →
   ((most≤0∨σ'.nodes≤most)→∀ H' ρ,SR A { f with most:=most } G age σ' R H'→lget ρ 3=.int (G.F c d 0 0)→Q .next ρ H') →
   (0 < most→most < σ'.nodes→∀ σ'' ρ H',Unw σ''→σ''.nodes=most→SR A { f with most:=most } G age σ'' R H'→X (.int most) ρ H') →
   mW n X (K+1) [.ref A.c,.int d,g,.int v,.int lo,.int hi,b] H Q
 | K,σ,v,lo,hi,hK,I,T,h1,h2,h3,h4,h5,h6=>by
  by_cases ex:lo < hi
  ·cases K with
   | zero=>omega
   | succ K =>
   have a1:-32001≤max v (lo+1) - 1:=by omega
   have a3:max v (lo+1)≤32001:=by omega
   obtain⟨v',σ1,o,run⟩:=hS σ 0 0 (max v (lo+1) - 1) (max v (lo+1)) false I T (by unfold okp;omega) O.n0 (by omega) (by omega) (by omega) a1 a3 (by omega)
   have hr:=o.res
   unfold Res at hr
   by_cases c1:v' < max v (lo+1)
   ·obtain⟨σ',J1,J2,go⟩:=mtdf_loop G O c f age d hS hd hdc K σ1 v' lo v' (by omega) o.ok (T.fr o.fr) h1 (by omega) (by omega) (by omega) h5 (by omega)
    have hnn:=J2.nodes
    refine⟨σ',J1,o.fr.trans J2,fun n hn A most R H g b Q X hmo S q2 q3=>?_⟩
    rw [mW_step]
    simp only [vE,LG,c_lt,t_bool,ex,DT,ir_mtdf_loop0,vSs,vS,vEs,LT,b_add,b_sub,true_and]
    refine run d 0 rfl rfl (n+1) (by omega) A most R H _ _ hmo S (fun hm1 H1 S1=>?_) (fun u1 u2 σ'' H'' u3 u4 u5=>q3 u1 (by omega) σ'' _ H'' u3 u4 u5)
    simp only [LS,c_lt,t_bool,c1,DT]
    rw [aft_next]
    exact go n hn A most R H1 g _ Q X hm1 S1 q2 q3
   ·obtain⟨σ',J1,J2,go⟩:=mtdf_loop G O c f age d hS hd hdc K σ1 v' v' hi (by omega) o.ok (T.fr o.fr) (by omega) h2 (by omega) (by omega) (by omega) h6
    have hnn:=J2.nodes
    refine⟨σ',J1,o.fr.trans J2,fun n hn A most R H g b Q X hmo S q2 q3=>?_⟩
    rw [mW_step]
    simp only [vE,LG,c_lt,t_bool,ex,DT,ir_mtdf_loop0,vSs,vS,vEs,LT,b_add,b_sub,true_and]
    refine run d 0 rfl rfl (n+1) (by omega) A most R H _ _ hmo S (fun hm1 H1 S1=>?_) (fun u1 u2 σ'' H'' u3 u4 u5=>q3 u1 (by omega) σ'' _ H'' u3 u4 u5)
    simp only [LS,c_lt,t_bool,c1,DF]
    rw [aft_next]
    exact go n hn A most R H1 g _ Q X hm1 S1 q2 q3
  ·refine⟨σ,I,⟨rfl,rfl,Int.le_refl _⟩,fun n hn A most R H g b Q X hmo S q2 q3=>?_⟩
   rw [mW_step]
   simp only [vE,LG,c_lt,t_bool,ex,DF]
   exact q2 hmo H _ S (by simp only [LG];rw [show v=G.F c d 0 0 by omega])
theorem x_mtdf (G:Gm) (O:GOk G) (c:Nat) (f:Cf) (age:Int) (d:Nat) (hS:SS G c f age d) (hd:d≤3) (hdc:d+c≤20) (σ:Sg) (g0:Int) (I:SOk G c f σ) (T:At σ 0 0) :
  ∃ σ',SOk G c f σ'∧Fr σ σ'∧∀ dz:Int,dz=d→Runs f G age 594 (3*d+2*c+13) (fun A=>[.ref A.c,.int dz,.int g0]) σ σ' (.int (G.F c d 0 0)):=by
 have FN:=F_NV O c d 0 0 (by omega)
 have flo:=FN.ge (by omega)
 have fhi:=FN.le (by omega)
 obtain⟨σ',J1,J2,go⟩:=mtdf_loop G O c f age d hS hd hdc ((32001:Int) - (-32001)).toNat σ (max (-32000) (min 32000 g0)) (-32001) 32001 (Nat.le_refl _) I T (by omega) (by omega) (by omega) (by omega) (by omega) (by omega)
 refine⟨σ',J1,J2,fun dz ez N hN A most R H Q X hmo S q2 q3=>?_⟩
 subst ez
 obtain⟨n,rfl⟩:∃ n,N=n+2:=⟨N - 2,by omega⟩
 refine⟨rfl,?_⟩
 show vSs tT (FW tT (n+1)) ir_mtdf false [.ref A.c,.int d,.int g0,.undef,.undef,.undef,.undef] H _ _
 unfold ir_mtdf
 simp only [vSs,vS,vE,vEs,LS,true_and]
 refine⟨_,go n (by omega) A most R H (.int g0) .undef _ _ hmo S (fun hm2 H2 ρ S2 hρ=>?_) (fun u1 u2 σ'' ρ H'' u3 u4 u5=>q3 u1 u2 σ'' H'' u3 u4 u5)⟩
 simp only [vSs,vS,vE,hρ]
 exact q2 hm2 H2 S2
end Bn
namespace Bn
open Bm
theorem osu {C a:Nat} (fs:List (String×AV)) {n:String} {v:AV} {Q:AHeap→Prop} {H:AHeap} (hc:tT.att C n=true) (hl:fs.length < 100):vSetA tT (.ref a) n v (upd H a (.obj C fs)) Q=Q (upd H a (.obj C (fset fs n v))):=by
 rw [a_set upd_eq hc hl,upd_upd]
theorem osw {C a b:Nat} {o:AO} (fs:List (String×AV)) {n:String} {v:AV} {Q:AHeap→Prop} {H:AHeap} (hb:a≠b) (hc:tT.att C n=true) (hl:fs.length < 100):vSetA tT (.ref a) n v (upd (upd H a (.obj C fs)) b o) Q=Q (upd (upd (upd H a (.obj C fs)) b o) a (.obj C (fset fs n v))):=by
 rw [a_set (upd_some upd_eq hb) hc hl]
structure Rp where
 d:Nat
 v:Int
 row:List Int
 n:Int
def rpFs (x:Rp) (l:Nat):List (String×AV):=[("depth",.int x.d),("value",.int x.v),("line",.ref l),("nodes",.int x.n)]
def RepOk (R:AHeap) (r a:Nat) (x:Rp):Prop:=∃ l,R a=some (.obj 548 (rpFs x l))∧R l=some (.list (intsL x.row))∧l≠r
def Reps (R:AHeap) (r:Nat):List Nat→List Rp→Prop
 | [],[]=>True
 | a::as,x::xs=>RepOk R r a x∧Reps R r as xs
 | _,_=>False
def RepL (R:AHeap) (r:Nat) (xs:List Rp):Prop:=∃ as,R r=some (.list (refs as))∧Reps R r as xs
theorem RepOk.mono {R R':AHeap} {r a x} (h:RepOk R r a x) (k:∀ b o,R b=some o→b≠r→R' b=some o) (hr:∃ ys,R r=some (.list ys)):RepOk R' r a x:=by
 obtain⟨l,h1,h2,h3⟩:=h
 obtain⟨ys,hy⟩:=hr
 exact⟨l,k _ _ h1 fun e=>(by rw [e,hy] at h1;cases h1),k _ _ h2 h3,h3⟩
theorem Reps.mono {R R':AHeap} {r} (k:∀ b o,R b=some o→b≠r→R' b=some o) (hr:∃ ys,R r=some (.list ys)):∀ {as xs},Reps R r as xs→Reps R' r as xs
 | [],[],_=>trivial
 | a::as,x::xs,⟨h1,h2⟩=>⟨h1.mono k hr,Reps.mono k hr h2⟩
 | [],_::_,h=>h.elim
 | _::_,[],h=>h.elim
theorem Reps.len {R:AHeap} {r}:∀ {as xs},Reps R r as xs→as.length=xs.length
 | [],[],_=>rfl
 | a::as,x::xs,⟨h1,h2⟩=>by simp [Reps.len h2]
 | [],_::_,h=>h.elim
 | _::_,[],h=>h.elim
theorem Reps.snoc {R:AHeap} {r}:∀ {as xs},Reps R r as xs→∀ {a x},RepOk R r a x→Reps R r (as++[a]) (xs++[x])
 | [],[],_,a,x,h=>⟨h,trivial⟩
 | a::as,x::xs,⟨h1,h2⟩,_,_,h=>⟨h1,Reps.snoc h2 h⟩
 | [],_::_,h,_,_,_=>h.elim
 | _::_,[],h,_,_,_=>h.elim
theorem Reps.at {R:AHeap} {r}:∀ {as xs},Reps R r as xs→∀ {k:Nat} {x},xs[k]? = some x→∃ a,as[k]? = some a∧RepOk R r a x
 | [],[],_,k,x,h=>by simp at h
 | a::as,y::xs,⟨h1,h2⟩,0,x,h=>⟨a,rfl,by simp at h;rw [← h];exact h1⟩
 | a::as,y::xs,⟨h1,h2⟩,k+1,x,h=>by simpa using Reps.at h2 (k:=k) (x:=x) (by simpa using h)
 | [],_::_,h,_,_,_=>h.elim
 | _::_,[],h,_,_,_=>h.elim
theorem RepL.put {R:AHeap} {r a:Nat} {o:AO} {xs} (h:RepL R r xs) (ha:R a=none):RepL (upd R a o) r xs:=by
 obtain⟨as,h1,h2⟩:=h
 exact⟨as,upd_some h1 (ne_nl ha h1),h2.mono (fun b q e _=>upd_some e (ne_nl ha e)) ⟨_,h1⟩⟩
def mns (R B:AHeap):AHeap:=fun a=>match B a with
 | none=>R a
 | some _=>none
theorem mns_sub {R B:AHeap}:∀ a o,mns R B a=some o→R a=some o:=fun a o h=>by
 unfold mns at h
 cases e:B a with
 | none=>rw [e] at h;exact h
 | some q=>rw [e] at h;cases h
theorem mns_upd {R B:AHeap} {a:Nat} {o:AO} (h:B a=none):mns (upd R a o) B=upd (mns R B) a o:=by
 funext b
 unfold mns upd
 by_cases n:b=a
 ·subst n;rw [h];simp
 ·simp [n]
theorem mns_none {R B:AHeap} {a:Nat} (h:R a=none):mns R B a=none:=sub_none mns_sub h
theorem RepL.sup {E R:AHeap} {r xs} (h:RepL E r xs) (s:∀ a o,E a=some o→R a=some o):RepL R r xs:=by
 obtain⟨as,h1,h2⟩:=h
 exact⟨as,s _ _ h1,h2.mono (fun b q e _=>s b q e) ⟨_,h1⟩⟩
theorem x_report {A:Ad} {f:Cf} {G:Gm} {age:Int} {σ:Sg} {R H:AHeap} (S:SR A f G age σ R H) {a l:Nat} (ha:H a=none) (hl:R l=some (.list (intsL row))) {r:Nat} (hlr:l≠r) {d:Nat} {v nn:Int} {n:Nat} {Q X:EQ}
  (h:SR A f G age σ (upd R a (.obj 548 (rpFs ⟨d,v,row,nn⟩ l))) (upd H a (.obj 548 (rpFs ⟨d,v,row,nn⟩ l)))→RepOk (upd R a (.obj 548 (rpFs ⟨d,v,row,nn⟩ l))) r a ⟨d,v,row,nn⟩→Q .none (upd H a (.obj 548 (rpFs ⟨d,v,row,nn⟩ l)))) :
  FW tT (n+1) false 545 [.ref a,.int d,.int v,.ref l,.int nn] (upd H a (.obj 548 [])) Q X:=by
 refine⟨rfl,?_⟩
 show vSs tT (FW tT n) ir_Report_init false [.ref a,.int d,.int v,.ref l,.int nn] _ _ _
 unfold ir_Report_init
 have g1:fset [] "depth" (AV.int d)=[("depth",.int d)]:=rfl
 have g2:fset [("depth",AV.int d)] "value" (.int v)=[("depth",.int d),("value",.int v)]:=rfl
 have g3:fset [("depth",AV.int d),("value",.int v)] "line" (.ref l)=[("depth",.int d),("value",.int v),("line",.ref l)]:=rfl
 have g4:fset [("depth",AV.int d),("value",.int v),("line",.ref l)] "nodes" (.int nn)=rpFs ⟨d,v,row,nn⟩ l:=rfl
 simp only [vSs,vS,vE,LG,osu (C:=548) [] (n:="depth") rfl (by simp),g1,osu (C:=548) [("depth",AV.int d)] (n:="value") rfl (by simp),g2,osu (C:=548) [("depth",AV.int d),("value",.int v)] (n:="line") rfl (by simp),g3,osu (C:=548) [("depth",AV.int d),("value",.int v),("line",.ref l)] (n:="nodes") rfl (by simp),g4]
 have ra:=S.none_R ha
 exact h (S.put (.inr ha)) ⟨l,upd_eq,upd_some hl (ne_nl ra hl),hlr⟩
def i_val:IS:=.ite (.not (.loc 3)) (.cons (.asg 6 (.call 531 (.cons (.loc 0) (.cons (.loc 5) .nil)))) .nil) (.cons (.asg 6 (.call 573 (.cons (.loc 0) (.cons (.loc 5) (.cons (.attr (.idx (.loc 3) (.neg (.c (.int 1)))) "value") (.cons (.loc 2) .nil)))))) .nil)
theorem i_eq:ir_iterate_loop0=.cons i_val (.cons (.expr (.meth (.loc 3) "append" (.cons (.new 548 (.cons (.loc 5) (.cons (.loc 6) (.cons (.call 183 (.cons (.loc 0) (.cons (.c (.int 0)) .nil))) (.cons (.attr (.loc 0) "nodes") .nil))))) .nil))) (.cons (.augL 5 .add (.c (.int 1))) .nil)):=rfl
theorem run_val (G:Gm) (O:GOk G) (c:Nat) (f:Cf) (hcf:f.calm=(c:Int)) (age:Int) (hag:0≤age∧age < 64) (delta:Int) (d:Nat) (hd:d≤3) (hdc:d+c≤20) (reps:List Rp) (σ:Sg) (I:SOk G c f σ) (T:At σ 0 0) :
  ∃ σ1 row,SOk G c f σ1∧Fr σ σ1∧σ.nodes < σ1.nodes∧σ1.lines[0]? = some row∧Lead G c d 0 0 row (G.F c d 0 0) ∧
  ∀ (n:Nat),3*d+2*c+12≤n→∀ (A:Ad) (most:Int) (R H:AHeap) (r:Nat) (w1 w4 w6:AV) (dz:Int) (K:SQ) (X:SX),dz=d→(most≤0∨σ.nodes≤most)→SR A { f with most:=most } G age σ R H→RepL R r reps →
   ((most≤0∨σ1.nodes≤most)→∀ H',SR A { f with most:=most } G age σ1 R H'→K .next [.ref A.c,w1,.int delta,.ref r,w4,.int dz,.int (G.F c d 0 0)] H') →
   (0 < most→most < σ1.nodes→∀ σ'' H',Unw σ''→σ''.nodes=most→SR A { f with most:=most } G age σ'' R H'→X (.int most) [.ref A.c,w1,.int delta,.ref r,w4,.int dz,w6] H') →
   vS tT (FW tT (n+1)) i_val false [.ref A.c,w1,.int delta,.ref r,w4,.int dz,w6] H K X:=by
 have hS:=x_search G O c f hcf age hag d
 have hcase:reps=[]∨∃ init last,reps=init++[last]:=by
  rcases List.eq_nil_or_concat reps with h | ⟨init,last,h⟩
  ·exact .inl h
  ·exact .inr ⟨init,last,by simpa using h⟩
 rcases hcase with hr | ⟨init,last,hr⟩
 ·subst hr
  obtain⟨v,σ1,o,run⟩:=hS σ 0 0 (-32001) 32001 true I T (by unfold okp;omega) O.n0 (by omega) (by omega) (by omega) (by omega) (by omega) (by omega)
  have vlo:=o.nv.ge (by omega)
  have vhi:=o.nv.le (by omega)
  have e:v=G.F c d 0 0:=o.res.2.2 (by omega) (by omega)
  obtain⟨row,r1,r2,r3,r4⟩:=o.row
  refine⟨σ1,row,o.ok,o.fr,o.lt,r1,by rw [← e];exact r4 rfl (by omega) (by omega),fun n hn A most R H r w1 w4 w6 dz K X ez hmo S L h2 h3=>?_⟩
  obtain⟨as,l1,l2⟩:=L
  have has:as=[]:=by have:=l2.len;simpa using this
  subst has
  unfold i_val
  simp only [vSs,vS,vE,vEs,LS,t_list (S.sub _ _ l1),t_bool,show(!(!(refs []).isEmpty))=true from rfl,if_true]
  refine⟨rfl,?_⟩
  show vSs tT (FW tT n) ir_root_value false [.ref A.c,.int dz] H _ _
  unfold ir_root_value
  simp only [vSs,vS,vE,vEs,LG]
  refine run dz 0 ez rfl n (by omega) A most R H _ _ hmo S (fun hm1 H1 S1=>?_) h3
  rw [e]
  exact h2 hm1 H1 S1
 ·obtain⟨σ1,J1,J2,J3,⟨row,r1,r2⟩,run⟩:=x_aspirate G O c f age d hS hd hdc σ last.v delta I T
  refine⟨σ1,row,J1,J2,J3,r1,r2,fun n hn A most R H r w1 w4 w6 dz K X ez hmo S L h2 h3=>?_⟩
  obtain⟨as,l1,l2⟩:=L
  have hlen:=l2.len
  have hlast:reps[as.length - 1]? = some last:=by rw [hlen,hr];simp
  obtain⟨a,a1,l,a2,a3,a4⟩:=l2.at hlast
  have hpos:0 < as.length:=by rw [hlen,hr];simp
  unfold i_val
  have hne:(!(!(refs as).isEmpty))=false:=by
   cases as with
   | nil=>simp at hpos
   | cons=>rfl
  simp only [vSs,vS,vE,vEs,LS,t_list (S.sub _ _ l1),t_bool,hne,DF,i_list (v:=.ref a) (S.sub _ _ l1) (i:=-1) (place_last (by rw [refs_len];exact hpos)) (by rw [refs_len];exact refs_get a1),
   a_get (T:=tT) (S.sub _ _ a2) (n:="value") rfl (show fget (rpFs last l) "value" = some (.int last.v) from rfl) (by simp)]
  exact run dz ez (n+1) (by omega) A most R H _ (fun v H'=>X v [.ref A.c,w1,.int delta,.ref r,w4,.int dz,w6] H') hmo S h2 h3
def iW (n:Nat) (X:SX):Nat→List AV→AHeap→SQ→Prop:=whileL (fun ρ H K=>vE tT false (FW tT (n+1) false) (.cmp .le (.loc 5) (.loc 4)) ρ H (fun v H=>truthy v H fun r=>K r H) (fun n H=>X n ρ H)) (fun ρ H K=>vSs tT (FW tT (n+1)) ir_iterate_loop0 false ρ H K X)
theorem iW_step {n X k ρ H Q}:iW n X (k+1) ρ H Q=vE tT false (FW tT (n+1) false) (.cmp .le (.loc 5) (.loc 4)) ρ H (fun v H=>truthy v H fun r=>if r=true then vSs tT (FW tT (n+1)) ir_iterate_loop0 false ρ H (aft (iW n X k) Q) X else Q .next ρ H) (fun n H=>X n ρ H):=by
 unfold iW;rw [while_step]
def GoodR (G:Gm) (c i:Nat) (lo:Int) (new:List Rp):Prop:=∀ k x,new[k]? = some x→x.d=i+k+1∧x.v=G.F c (i+k+1) 0 0∧Lead G c (i+k+1) 0 0 x.row x.v∧lo < x.n
theorem it_loop (G:Gm) (O:GOk G) (c:Nat) (f:Cf) (hcf:f.calm=(c:Int)) (age:Int) (hag:0≤age∧age < 64) (delta:Int) (D:Nat) (hD:D≤3) (hDc:D+c≤20):∀ (j i:Nat) (reps:List Rp) (σ:Sg),i+j=D→reps.length=i→SOk G c f σ→At σ 0 0 →
  ∃ (new:List Rp) (σ':Sg),new.length=j∧GoodR G c i σ.nodes new∧σ.nodes≤σ'.nodes∧At σ' 0 0 ∧
  ∀ (n:Nat),3*D+2*c+12≤n→∀ (A:Ad) (most:Int) (B R H:AHeap) (r:Nat) (w1 w6:AV) (Q:SQ) (X:SX),(most≤0∨σ.nodes≤most)→SR A { f with most:=most } G age σ R H→RepL (mns R B) r reps→(∀ a o,B a=some o→R a=some o)→B r=none →
   ((most≤0∨σ'.nodes≤most)→∀ H' R' ρ,SR A { f with most:=most } G age σ' R' H'→RepL (mns R' B) r (reps++new)→(∀ a o,B a=some o→R' a=some o)→lget ρ 3=.ref r→(most≤0∨∀ x∈new,x.n≤most)→Q .next ρ H') →
   (0 < most→most < σ'.nodes→∀ σ'' H' R' ρ,Unw σ''→SR A { f with most:=most } G age σ'' R' H'→RepL (mns R' B) r (reps++new.filter fun x=>decide (x.n≤most))→(∀ a o,B a=some o→R' a=some o)→lget ρ 3=.ref r→lget ρ 0=.ref A.c→X (.int most) ρ H') →
   iW n X (j+1) [.ref A.c,w1,.int delta,.ref r,.int D,.int ((i:Int)+1),w6] H Q
 | 0,i,reps,σ,hij,hri,I,T=>by
  refine⟨[],σ,rfl,fun k x h=>by simp at h,Int.le_refl _,T,fun n hn A most B R H r w1 w6 Q X hmo S L hB hr h2 h3=>?_⟩
  rw [iW_step]
  simp only [vE,LG,c_le,t_bool,show ¬ ((i:Int)+1≤(D:Int)) by omega,DF]
  exact h2 hmo H R _ S (by simpa using L) hB rfl (.inr (by simp))
 | j+1,i,reps,σ,hij,hri,I,T=>by
  obtain⟨σ1,row,J1,J2,J3,J4,J5,rv⟩:=run_val G O c f hcf age hag delta (i+1) (by omega) (by omega) reps σ I T
  obtain⟨new,σ',K1,K2,K3,K4,go⟩:=it_loop G O c f hcf age hag delta D hD hDc j (i+1) (reps++[⟨i+1,G.F c (i+1) 0 0,row,σ1.nodes⟩]) σ1 (by omega) (by simp [hri]) J1 (T.fr J2)
  refine⟨⟨i+1,G.F c (i+1) 0 0,row,σ1.nodes⟩::new,σ',by simp [K1],?_,by omega,K4,fun n hn A most B R H r w1 w6 Q X hmo S L hB hr h2 h3=>?_⟩
  ·intro k x h
   cases k with
   | zero=>simp at h;subst h;exact⟨rfl,rfl,J5,J3⟩
   | succ k =>
    obtain⟨g1,g2,g3,g4⟩:=K2 k x (by simpa using h)
    exact⟨by omega,by rw [show i+(k+1)+1=i+1+k+1 by omega];exact g2,by rw [show i+(k+1)+1=i+1+k+1 by omega];exact g3,by omega⟩
  rw [iW_step]
  simp only [vE,LG,c_le,t_bool,show((i:Int)+1≤(D:Int)) by omega,DT]
  rw [i_eq]
  rw [vSs]
  refine rv n (by omega) A most R H r _ _ _ _ _ _ (by push_cast;rfl) hmo S (L.sup mns_sub) (fun hm1 H1 S1=>?_) (fun u1 u2 σ'' H'' u3 u4 u5=>?_)
  ·obtain⟨as,l1,l2⟩:=L
   have L0:RepL (mns R B) r reps:=⟨as,l1,l2⟩
   have l1':=mns_sub _ _ l1
   simp only [vSs,vS,vE,vEs,LS,m_list (S1.sub _ _ l1') listM_append]
   refine x_line_from (ply:=0) S1 J4 fun l hl=>?_
   have rl:=S1.none_R hl
   have S2:=S1.put (o:=.list (intsL row)) (.inr hl)
   have L2:RepL (upd (mns R B) l (.list (intsL row))) r reps:=L0.put (mns_none rl)
   have bl:=sub_none hB rl
   simp only [ctx_at S2 (n:="nodes") rfl rfl (by simp),show tT.ini 548=some 545 from rfl]
   intro a ha
   have ra:=S2.none_R ha
   have hcast:((i:Int)+1)=((i+1:Nat):Int):=by push_cast;rfl
   rw [hcast]
   have ra0:=ra
   have ra1:upd (mns R B) l (.list (intsL row)) a=none:=by
    have n1:a≠l:=fun e=>by rw [e,upd_eq] at ra0;cases ra0
    rw [upd_ne n1] at ra0 ⊢;exact mns_none ra0
   refine x_report (r:=r) S2 ha upd_eq (ne_nl rl l1').symm fun S3 P3=>?_
   have L3:=L2.put (o:=.obj 548 (rpFs ⟨i+1,G.F c (i+1) 0 0,row,σ1.nodes⟩ l)) ra1
   have ba:B a=none:=by
    have n1:a≠l:=fun e=>by rw [e,upd_eq] at ra0;cases ra0
    rw [upd_ne n1] at ra0;exact sub_none hB ra0
   have em:mns (upd (upd R l (.list (intsL row))) a (.obj 548 (rpFs ⟨i+1,G.F c (i+1) 0 0,row,σ1.nodes⟩ l))) B=upd (upd (mns R B) l (.list (intsL row))) a (.obj 548 (rpFs ⟨i+1,G.F c (i+1) 0 0,row,σ1.nodes⟩ l)):=by rw [mns_upd ba,mns_upd bl]
   have P4:RepOk (upd (upd (mns R B) l (.list (intsL row))) a (.obj 548 (rpFs ⟨i+1,G.F c (i+1) 0 0,row,σ1.nodes⟩ l))) r a ⟨i+1,G.F c (i+1) 0 0,row,σ1.nodes⟩:=⟨l,upd_eq,upd_some upd_eq (fun e=>by rw [← e,upd_eq] at ra0;cases ra0),(ne_nl rl l1').symm⟩
   obtain⟨bs,b1,b2⟩:=L3
   have hbl:=b2.len
   dsimp only
   have b1':=mns_sub (B:=B) _ _ (by rw [em];exact b1)
   have hRr:=S3.sub _ _ b1'
   simp only [m_append hRr (show(refs bs).length < lim by rw [refs_len,hbl,hri];unfold lim;omega),refs_snoc,LS,b_add]
   have S4:=S3.put (o:=.list (refs (bs++[a]))) (a:=r) (.inl (by rw [b1'];simp))
   rw [aft_next]
   have kk:∀ (b:Nat) (o:AO),upd (upd (mns R B) l (.list (intsL row))) a (.obj 548 (rpFs ⟨i+1,G.F c (i+1) 0 0,row,σ1.nodes⟩ l)) b=some o→b≠r→upd (upd (upd (mns R B) l (.list (intsL row))) a (.obj 548 (rpFs ⟨i+1,G.F c (i+1) 0 0,row,σ1.nodes⟩ l))) r (.list (refs (bs++[a]))) b=some o:=fun b o h n=>upd_some h n
   have L4:RepL (mns (upd (upd (upd R l (.list (intsL row))) a (.obj 548 (rpFs ⟨i+1,G.F c (i+1) 0 0,row,σ1.nodes⟩ l))) r (.list (refs (bs++[a])))) B) r (reps++[⟨i+1,G.F c (i+1) 0 0,row,σ1.nodes⟩]):=by
    rw [mns_upd hr,em]
    exact⟨_,upd_eq,(b2.mono kk ⟨_,b1⟩).snoc (P4.mono kk ⟨_,b1⟩)⟩
   have hB4:∀ b o,B b=some o→upd (upd (upd R l (.list (intsL row))) a (.obj 548 (rpFs ⟨i+1,G.F c (i+1) 0 0,row,σ1.nodes⟩ l))) r (.list (refs (bs++[a]))) b=some o:=sub_put (sub_put (sub_put hB (sub_none hB rl)) (sub_none (sub_put hB (sub_none hB rl)) ra)) hr
   refine go n hn A most B _ _ r _ _ Q X hm1 S4 L4 hB4 hr (fun hm2 H' R' ρ S' L' hB' e1 e2=>h2 hm2 H' R' ρ S' (by simpa using L') hB' e1 ?_) (fun u1 u2 σ'' H' R' ρ u3 u4 u5 u6 u7 u8=>h3 u1 u2 σ'' H' R' ρ u3 u4 ?_ u6 u7 u8)
   ·rcases e2 with e2 | e2
    ·exact .inl e2
    ·rcases hm1 with hm1 | hm1
     ·exact .inl hm1
     ·right;intro x hx;simp only [List.mem_cons] at hx
      rcases hx with hx | hx
      ·subst hx;exact hm1
      ·exact e2 x hx
   ·have hm:σ1.nodes≤most:=by omega
    rw [List.filter_cons_of_pos (by simpa using hm)]
    simpa using u5
  ·refine h3 u1 (by omega) σ'' H'' R _ u3 u5 ?_ hB rfl rfl
   have:(⟨i+1,G.F c (i+1) 0 0,row,σ1.nodes⟩::new:List Rp).filter (fun x=>decide (x.n≤most))=[]:=by
    rw [List.filter_eq_nil_iff]
    intro x hx
    simp only [List.mem_cons] at hx
    rcases hx with hx | hx
    ·subst hx;simpa using u2
    ·obtain⟨k,hk⟩:=List.getElem?_of_mem hx
     obtain⟨_,_,_,g4⟩:=K2 k x hk
     simp;omega
   rw [this,List.append_nil];exact L
end Bn
namespace Bn
open Bm
theorem SR.noage {A:Ad} {f:Cf} {G:Gm} {age age':Int} {σ:Sg} {R H:AHeap} (h:f.tab=none) (S:SR A f G age σ R H):SR A f G age' σ R H :=
 ⟨⟨S.st.game,S.st.ch,S.st.va,S.st.ck,S.st.dr,S.st.no,S.st.ga,S.st.chR,S.st.noR,S.st.gaR,fun cl w e=>(by rw [h] at e;cases e),S.st.kil,S.st.his⟩,S.dy,S.nd,S.al,S.sub⟩
theorem At.root {σ:Sg} (T:At σ 0 0):σ.path=[0]∧σ.made=0:=by
 have h1:=T.len
 have h2:=T.unw.hd
 have h3:=T.unw.md
 cases hp:σ.path with
 | nil=>rw [hp] at h1;cases h1
 | cons a r =>
  rw [hp] at h1 h2 h3
  have:r=[]:=List.length_eq_zero_iff.1 (by simpa using h1)
  subst this
  simp at h2 h3
  exact⟨by rw [h2],h3⟩
theorem x_deepest {A:Ad} {f:Cf} {G:Gm} {age:Int} {σ:Sg} {R H:AHeap} (S:SR A f G age σ R H) {n:Nat} {Q X:EQ} (h:Q (.int (245 - max 0 f.calm)) H):FW tT (n+1) false 580 [.ref A.c] H Q X:=by
 refine⟨rfl,?_⟩
 show vSs tT (FW tT n) ir_deepest false [.ref A.c] H _ _
 unfold ir_deepest
 simp only [vSs,vS,vE,lget_0,b_sub,ctx_at S (n:="qdepth") rfl rfl (by simp),true_and]
 exact h
def Sub (H H':AHeap):Prop:=∀ a o,H a=some o→H' a=some o
def toldOf (most:Int) (reps:List Rp):List Rp:=if most≤0 then reps else reps.filter fun x=>decide (x.n≤most)
theorem x_iterate (G:Gm) (O:GOk G) (c:Nat) (f:Cf) (hcf:f.calm=(c:Int)) (delta:Int) (D:Nat) (hD:D≤3) (hDc:D+c≤20) (σ:Sg) (I:SOk G c f σ) (T:At σ 0 0) :
  ∃ reps:List Rp,reps.length=D∧GoodR G c 0 σ.nodes reps ∧
  ∀ (n:Nat),3*D+2*c+12≤n→∀ (A:Ad) (most:Int) (R H:AHeap) (Dz:Int) (Q X:EQ),Dz=D→(most≤0∨σ.nodes≤most)→SR A { f with most:=most } G 0 σ R H →
   (∀ H' R' r σf,SR A { f with most:=most } G 1 σf R' H'→σf.path=[0]→σf.made=0→Sub R R'→RepL (mns R' R) r (toldOf most reps)→Q (.ref r) H') →
   FW tT (n+4) false 587 [.ref A.c,.int Dz,.int delta] H Q X:=by
 obtain⟨new,σ',K1,K2,K3,K4,go⟩:=it_loop G O c f hcf 1 (by omega) delta D hD hDc D 0 [] σ (by omega) rfl I T
 refine⟨new,K1,K2,fun n hn A most R H Dz Q X ez hmo S h=>⟨rfl,?_⟩⟩
 subst ez
 show vSs tT (FW tT (n+3)) ir_iterate false [.ref A.c,.int D,.int delta,.undef,.undef,.undef,.undef] H _ _
 have fin:∀ H1,SR A { f with most:=most } G 1 σ R H1→vSs tT (FW tT (n+3)) (.cons (.asg 3 (.list .nil)) (.cons (.asg 4 (.min2 (.loc 1) (.call 580 (.cons (.loc 0) .nil)))) (.cons (.asg 5 (.c (.int 1))) (.cons (.tryStop ir_iterate_try0 none ir_iterate_exc0) (.cons (.ret (.loc 3)) .nil))))) false [.ref A.c,.int D,.int delta,.undef,.undef,.undef,.undef] H1 (fun fl _ H'=>match fl with | .ret v=>Q v H' | .next=>Q .none H' | _=>False) (fun k _ H'=>X k H'):=by
  intro H1 S1
  simp only [vSs,vS,vE,vEs,LS]
  intro r hr
  have rr:=S1.none_R hr
  have S2:=S1.put (o:=.list []) (.inr hr)
  refine x_deepest S2 ?_
  have hmin:min (D:Int) (245 - max 0 f.calm)=(D:Int):=by rw [hcf];omega
  simp only [hmin,true_and,ir_iterate_try0,vSs,vS]
  refine⟨_,go (n+2) (by omega) A most R _ _ r _ _ _ _ hmo S2 ⟨[],by rw [mns_upd rr];exact upd_eq,trivial⟩ (drop_put rr) rr (fun hm2 H' R' ρ S' L' hB e1 e2=>?_) (fun u1 u2 σ'' H' R' ρ u3 u4 u5 u6 u7 u8=>?_)⟩
  ·simp only [e1]
   obtain⟨p1,p2⟩:=K4.root
   refine h H' R' r σ' S' p1 p2 hB ?_
   rw [List.nil_append] at L'
   unfold toldOf
   split
   ·exact L'
   ·rcases e2 with e2 | e2
    ·contradiction
    ·rw [List.filter_eq_self.2 fun x hx=>by simpa using e2 x hx];exact L'
  ·intro a ha
   simp only [ir_iterate_exc0,vSs,vS,vE,vEs,u8]
   refine x_unwind (n:=n) u4 u3 fun H2 S2=>?_
   simp only [u7]
   refine h H2 R' r _ S2 rfl rfl u6 ?_
   rw [List.nil_append] at u5
   unfold toldOf
   rw [if_neg (by omega)];exact u5
 rcases tab_cases f with htab | ⟨⟨cl,w⟩,htab⟩
 ·have tv:tabV A { f with most:=most }=.none:=tabV_none htab
  have:=fun Q=>ctx_at S (n:="table") (v:=tabV A { f with most:=most }) rfl rfl (by rw [tv];simp) (Q:=Q)
  rw [tv] at this
  unfold ir_iterate
  rw [vSs,vS]
  simp only [vE,lget_0,this,isn_none,t_bool,DF]
  rw [vSs]
  exact fin H (S.noage htab)
 ·have tv:tabV A { f with most:=most }=.ref A.t:=tabV_some (x:=(cl,w)) htab
  have:=fun Q=>ctx_at S (n:="table") (v:=tabV A { f with most:=most }) rfl rfl (by rw [tv];simp) (Q:=Q)
  rw [tv] at this
  unfold ir_iterate
  rw [vSs,vS]
  simp only [vE,lget_0,this,isn_ref,t_bool,if_true]
  rw [vSs,vS]
  simp only [vE,vEs,lget_0,this,m_obj (T:=tT) (f:=267) (S.st.tab cl w htab).1 (n:="new_search") rfl rfl]
  refine x_new_search S htab fun H1 S1=>?_
  rw [vSs]
  exact fin H1 S1
def PV (H:AHeap) (pl:Nat) (G:Gm):Prop:=∃ ts,H pl=some (.list (refs ts))∧ts.length=G.kids.length∧∀ i,i < G.kids.length→∃ t k m g bs,ts[i]? = some t∧H t=some (.tup [.ref k,.int (G.val i),.bool (G.ck i),.bool (G.dr i),.ref m,.ref g])∧H k=some (.list (nats (G.kid i)))∧H m=some (.list (boolsL bs))∧bs.length=(G.kid i).length∧∀ j,G.no i j=(bs[j - 1]?).getD false
theorem PV.mono {H H':AHeap} {pl:Nat} {G:Gm} (h:PV H pl G) (s:Sub H H'):PV H' pl G:=by
 obtain⟨ts,h1,h2,h3⟩:=h
 refine⟨ts,s _ _ h1,h2,fun i hi=>?_⟩
 obtain⟨t,k,m,g,bs,a1,a2,a3,a4,a5,a6⟩:=h3 i hi
 exact⟨t,k,m,g,bs,a1,s _ _ a2,s _ _ a3,s _ _ a4,a5,a6⟩
theorem Sub.refl {H:AHeap}:Sub H H:=fun _ _ h=>h
theorem Sub.trans {a b c:AHeap} (h:Sub a b) (k:Sub b c):Sub a c:=fun _ _ e=>k _ _ (h _ _ e)
theorem Sub.new {H:AHeap} {a:Nat} {o:AO} (h:H a=none):Sub H (upd H a o):=drop_put h
theorem SR.grow {A f G age σ R H H'} (S:SR A f G age σ R H) (h:Sub H H'):SR A f G age σ R H':=by
 have hc:∀ a∈A.chg,H' a=H a:=fun a m=>by
  cases e:H a with
  | none=>exact absurd e (S.al a m).1
  | some o=>exact h _ _ e
 exact⟨S.st.mono fun a o e f=>⟨h _ _ e,f⟩,S.dy.mono (fun a o e f=>⟨h _ _ e,f⟩) hc,S.nd,fun a m=>⟨by rw [hc a m];exact(S.al a m).1,(S.al a m).2⟩,fun a o e=>h _ _ (S.sub a o e)⟩
theorem eqL_nats {n:Nat} {H:AHeap}:∀ {l:List Nat},eqL (eqA (n+1) H) (nats l) (nats l)=some true
 | []=>rfl
 | x::l=>by
  have:=@eqL_nats n H l
  simp only [nats_cons,eqL,this]
  simp [eqA]
theorem eqL_ints {n:Nat} {H:AHeap}:∀ {l:List Int},eqL (eqA (n+1) H) (intsL l) (intsL l)=some true
 | []=>rfl
 | x::l=>by
  have:=@eqL_ints n H l
  simp only [intsL,List.map_cons] at this ⊢
  simp only [eqL,this]
  simp [eqA]
theorem place_0 {n:Nat} (h:0 < n):place 0 n=some 0:=place_nat h rfl
theorem x_at_root {A:Ad} {f:Cf} {G:Gm} {age:Int} {σ:Sg} {R H:AHeap} (S:SR A f G age σ R H) (O:GOk G) (h1:σ.path=[0]) (h2:σ.made=0) {pl:Nat} (V:PV H pl G) {n:Nat} {Q X:EQ} (h:∀ H',Sub H H'→Q (.bool true) H'):FW tT (n+2) false 735 [.ref A.c,.ref pl] H Q X:=by
 refine⟨rfl,?_⟩
 show vSs tT (FW tT (n+1)) ir_law_at_root false [.ref A.c,.ref pl] H _ _
 unfold ir_law_at_root
 have hx:σ.path.getLast? = some 0:=by rw [h1];rfl
 simp only [vSs,vS,vE,vEs,LG,ctx_at S (n:="made") rfl rfl (by simp),ctx_at S (n:="game") rfl rfl (by simp),h2,c_eq,t_bool,DT,m_obj (T:=tT) (f:=648) S.st.game.1 (n:="key") rfl rfl]
 refine g_key S hx ?_
 simp only [c_eq,t_bool,show((((0:Nat):Int)+1)=1) from rfl,DT,m_obj (T:=tT) (f:=615) S.st.game.1 (n:="moves") rfl rfl,ctx_at S (n:="game") rfl rfl (by simp)]
 refine g_moves S O hx O.n0 fun a ha=>?_
 have V1:=V.mono (Sub.new (o:=.list (nats (G.mv 0))) ha)
 obtain⟨ts,t1,t2,t3⟩:=V1
 obtain⟨t,k,m,g,bs,b1,b2,b3,_⟩:=t3 0 O.n0
 have hl:=kid_le O 0
 simp only [i_list t1 (i:=0) (place_0 (by rw [refs_len,t2];exact O.n0)) (refs_get b1),i_tup (v:=.ref k) b2 (i:=0) (k:=0) rfl rfl,b3,b_add,nats_len]
 unfold vRange
 refine⟨trivial,⟨by unfold big lim;omega,?_⟩⟩
 have e:iRng 1 (((G.kid 0).length:Int)+1)=nats (G.mv 0):=by
  unfold iRng nats Gm.mv
  rw [List.map_map,show((((G.kid 0).length:Int)+1) - 1).toNat=(G.kid 0).length by omega]
  apply List.map_congr_left
  intro k _
  simp only [Function.comp]
  congr 1;omega
 rw [e]
 intro b hb
 have ab:a≠b:=fun z=>by rw [← z,upd_eq] at hb;cases hb
 have ea:upd (upd H a (.list (nats (G.mv 0)))) b (.list (nats (G.mv 0))) a=some (.list (nats (G.mv 0))):=upd_some upd_eq ab
 have eb:upd (upd H a (.list (nats (G.mv 0)))) b (.list (nats (G.mv 0))) b=some (.list (nats (G.mv 0))):=upd_eq
 have:eqA 4 (upd (upd H a (.list (nats (G.mv 0)))) b (.list (nats (G.mv 0)))) (.ref a) (.ref b)=some true:=by
  unfold eqA;simp only [ea,eb];exact eqL_nats
 unfold vCmp
 simp only [this]
 exact h _ ((Sub.new ha).trans (Sub.new hb))
end Bn
namespace Bn
open Bm
def TRok (R:AHeap) (t:Nat) (x:Rp):Prop:=∃ l,R t=some (.tup [.int x.d,.int x.v,.ref l,.int x.n])∧R l=some (.list (intsL x.row))
def TRs (R:AHeap):List Nat→List Rp→Prop
 | [],[]=>True
 | a::as,x::xs=>TRok R a x∧TRs R as xs
 | _,_=>False
def TupR (R:AHeap) (w:Nat) (xs:List Rp):Prop:=∃ ts,R w=some (.list (refs ts))∧TRs R ts xs
theorem TRok.mono {R R':AHeap} {t x} (h:TRok R t x) (k:Sub R R'):TRok R' t x:=by
 obtain⟨l,h1,h2⟩:=h
 exact⟨l,k _ _ h1,k _ _ h2⟩
theorem TRs.mono {R R':AHeap} (k:Sub R R'):∀ {as xs},TRs R as xs→TRs R' as xs
 | [],[],_=>trivial
 | a::as,x::xs,⟨h1,h2⟩=>⟨h1.mono k,TRs.mono k h2⟩
 | [],_::_,h=>h.elim
 | _::_,[],h=>h.elim
theorem TupR.mono {R R':AHeap} {w xs} (h:TupR R w xs) (k:Sub R R'):TupR R' w xs:=by
 obtain⟨ts,h1,h2⟩:=h
 exact⟨ts,k _ _ h1,h2.mono k⟩
theorem TRs.snoc {R:AHeap}:∀ {as xs},TRs R as xs→∀ {a x},TRok R a x→TRs R (as++[a]) (xs++[x])
 | [],[],_,a,x,h=>⟨h,trivial⟩
 | a::as,x::xs,⟨h1,h2⟩,_,_,h=>⟨h1,TRs.snoc h2 h⟩
 | [],_::_,h,_,_,_=>h.elim
 | _::_,[],h,_,_,_=>h.elim
theorem TRs.len {R:AHeap}:∀ {as xs},TRs R as xs→as.length=xs.length
 | [],[],_=>rfl
 | a::as,x::xs,⟨h1,h2⟩=>by simp [TRs.len h2]
 | [],_::_,h=>h.elim
 | _::_,[],h=>h.elim
theorem TRs.at {R:AHeap}:∀ {as xs},TRs R as xs→∀ {k:Nat} {x},xs[k]? = some x→∃ a,as[k]? = some a∧TRok R a x
 | [],[],_,k,x,h=>by simp at h
 | a::as,y::xs,⟨h1,h2⟩,0,x,h=>⟨a,rfl,by simp at h;rw [← h];exact h1⟩
 | a::as,y::xs,⟨h1,h2⟩,k+1,x,h=>by simpa using TRs.at h2 (k:=k) (x:=x) (by simpa using h)
 | [],_::_,h,_,_,_=>h.elim
 | _::_,[],h,_,_,_=>h.elim
def repElt:IE:=.tup (.cons (.attr (.loc 0) "depth") (.cons (.attr (.loc 0) "value") (.cons (.attr (.loc 0) "line") (.cons (.attr (.loc 0) "nodes") .nil))))
theorem rep_elt {n:Nat} {a l:Nat} {x:Rp} {H:AHeap} {ρ:List AV} {K X:EQ} (ha:H a=some (.obj 548 (rpFs x l))) (h:∀ t,H t=none→K (.ref t) (upd H t (.tup [.int x.d,.int x.v,.ref l,.int x.n]))):vE tT false (FW tT n false) repElt (.ref a::ρ) H K X:=by
 simp only [repElt,vE,vEs,lget_0,a_get (T:=tT) ha (n:="depth") rfl (show fget (rpFs x l) "depth" = some (.int x.d) from rfl) (by simp),a_get (T:=tT) ha (n:="value") rfl (show fget (rpFs x l) "value" = some (.int x.v) from rfl) (by simp),
   a_get (T:=tT) ha (n:="line") rfl (show fget (rpFs x l) "line" = some (.ref l) from rfl) (by simp),a_get (T:=tT) ha (n:="nodes") rfl (show fget (rpFs x l) "nodes" = some (.int x.n) from rfl) (by simp)]
 exact h
theorem rep_comp {A:Ad} {f:Cf} {G:Gm} {age:Int} {σ:Sg} {n r:Nat} {all ρ:List AV} {R0:AHeap} {K:List AV→AHeap→Prop}:∀ (as:List Nat) (todo:List Rp) (R H:AHeap) (ts:List Nat) (done:List Rp),SR A f G age σ R H→R r=some (.list all)→R0 r=none→Reps (mns R R0) r as todo→TRs (mns R R0) ts done→Sub R0 R →
  (∀ H' R' ts',SR A f G age σ R' H'→TRs (mns R' R0) ts' (done++todo)→Sub R0 R'→K (refs ts') H') →
  compL (.lst r all) (fun v H K=>vE tT false (FW tT n false) repElt (v::ρ) H K (fun _ _=>False)) (refs as) (refs ts) H K
 | [],[],R,H,ts,done,S,hr,hr0,hp,ht,h0,h=>by rw [List.append_nil] at h;exact h H R ts S ht h0
 | a::as,x::todo,R,H,ts,done,S,hr,hr0,⟨⟨l,p1,p2,p3⟩,hp⟩,ht,h0,h=>by
  have e0:refs (a::as)=AV.ref a::refs as:=rfl
  have ha:=S.sub _ _ (mns_sub _ _ p1)
  rw [e0,compL]
  refine rep_elt ha ?_
  intro t ht0
  have rt:=S.none_R ht0
  have bt:=sub_none h0 rt
  have S1:=S.put (o:=.tup [.int x.d,.int x.v,.ref l,.int x.n]) (.inr ht0)
  have hr1:=upd_some (o:=.tup [.int x.d,.int x.v,.ref l,.int x.n]) hr (ne_nl rt hr)
  refine⟨S1.sub _ _ hr1,?_⟩
  rw [refs_snoc]
  have sb:Sub R (upd R t (.tup [.int x.d,.int x.v,.ref l,.int x.n])):=Sub.new rt
  have em:mns (upd R t (.tup [.int x.d,.int x.v,.ref l,.int x.n])) R0=upd (mns R R0) t (.tup [.int x.d,.int x.v,.ref l,.int x.n]):=mns_upd bt
  have sm:Sub (mns R R0) (mns (upd R t (.tup [.int x.d,.int x.v,.ref l,.int x.n])) R0):=by rw [em];exact Sub.new (mns_none rt)
  have hr2:mns R R0 r=some (.list all):=by unfold mns;rw [hr0];exact hr
  refine rep_comp as todo _ _ (ts++[t]) (done++[x]) S1 hr1 hr0 (Reps.mono (fun b o e _=>sm b o e) ⟨_,hr2⟩ hp) ((ht.mono sm).snoc ⟨l,by rw [em];exact upd_eq,sm _ _ p2⟩) (h0.trans sb) ?_
  simpa only [List.append_assoc,List.singleton_append] using h
 | [],_::_,_,_,_,_,_,_,_,h,_,_,_=>h.elim
 | _::_,[],_,_,_,_,_,_,_,h,_,_,_=>h.elim
theorem x_reports (G:Gm) (O:GOk G) (c:Nat) (f:Cf) (hcf:f.calm=(c:Int)) (delta:Int) (D:Nat) (hD:D≤3) (hDc:D+c≤20) (σ:Sg) (I:SOk G c f σ) (T:At σ 0 0) :
  ∃ reps:List Rp,reps.length=D∧GoodR G c 0 σ.nodes reps ∧
  ∀ (n:Nat),3*D+2*c+12≤n→∀ (A:Ad) (most:Int) (R H:AHeap) (Dz:Int) (Q X:EQ),Dz=D→(most≤0∨σ.nodes≤most)→SR A { f with most:=most } G 0 σ R H →
   (∀ H' R' w σf,SR A { f with most:=most } G 1 σf R' H'→σf.path=[0]→σf.made=0→Sub R R'→TupR (mns R' R) w (toldOf most reps)→Q (.ref w) H') →
   FW tT (n+5) false 740 [.ref A.c,.int Dz,.int delta] H Q X:=by
 obtain⟨reps,K1,K2,go⟩:=x_iterate G O c f hcf delta D hD hDc σ I T
 refine⟨reps,K1,K2,fun n hn A most R H Dz Q X ez hmo S h=>⟨rfl,?_⟩⟩
 show vSs tT (FW tT (n+4)) ir_law_reports false [.ref A.c,.int Dz,.int delta] H _ _
 rw [show ir_law_reports=.cons (.ret (.comp repElt (.over (.call 587 (.cons (.loc 0) (.cons (.loc 1) (.cons (.loc 2) .nil))))))) .nil from rfl]
 simp only [vSs,vS,vE,vT,vEs,LG]
 refine go n hn A most R H Dz _ _ ez hmo S fun H1 R1 r σf S1 p1 p2 sb L=>?_
 obtain⟨as,l1,l2⟩:=L
 have l1':=mns_sub _ _ l1
 have hr0:R r=none:=by
  cases e:R r with
  | none=>rfl
  | some o=>unfold mns at l1;rw [e] at l1;cases l1
 simp only [vOver,S1.sub _ _ l1']
 refine⟨trivial,?_⟩
 refine rep_comp (R0:=R) as _ R1 H1 [] [] S1 l1' hr0 l2 trivial sb fun H2 R2 ts S2 t2 sb2=>?_
 intro w hw
 have rw':=S2.none_R hw
 refine h _ _ w σf (S2.put (.inr hw)) p1 p2 (sb2.trans (Sub.new rw')) ⟨ts,?_,?_⟩
 ·rw [mns_upd (sub_none sb2 rw')];exact upd_eq
 ·rw [mns_upd (sub_none sb2 rw')];exact t2.mono (Sub.new (mns_none rw'))
theorem eq_nil {n:Nat} {H:AHeap} {a b:Nat} {xs:List AV} (ha:H a=some (.list xs)) (hb:H b=some (.list [])):eqA (n+1) H (.ref a) (.ref b)=some xs.isEmpty:=by
 unfold eqA;simp only [ha,hb]
 cases xs <;> rfl
theorem c_eqnil {H:AHeap} {a b:Nat} {xs:List AV} {Q:Bool→Prop} (ha:H a=some (.list xs)) (hb:H b=some (.list [])):vCmp .eq (.ref a) (.ref b) H Q=Q xs.isEmpty:=by
 unfold vCmp;simp only [eq_nil ha hb]
theorem c_nenil {H:AHeap} {a b:Nat} {xs:List AV} {Q:Bool→Prop} (ha:H a=some (.list xs)) (hb:H b=some (.list [])):vCmp .ne (.ref a) (.ref b) H Q=Q (!xs.isEmpty):=by
 unfold vCmp;simp only [eq_nil ha hb]
theorem fmx_ub {m:Int}:∀ {l:List Int} {b:Int},b≤m→(∀ k∈l,k≤m)→fmx b l≤m
 | [],b,h,_=>h
 | x::l,b,h,hl=>by
  simp only [fmx]
  exact fmx_ub (l:=l) (by have:=hl x (by simp);omega) fun k hk=>hl k (by simp [hk])
theorem fmx_is {m b:Int} {l:List Int} (h1:m∈l∨m=b) (h2:∀ k∈l,k≤m) (h3:b≤m):fmx b l=m:=by
 have:=fmx_ub h3 h2
 have:=fmx_le h1
 omega
theorem full_loop {T:Bool→CallSem} {H0:AHeap} {al:Nat} {pl xx pp dd cc kk vv ckk drr mm gg:AV} {body:ISs} {X:SX} (cond:Nat→Bool) (val:Nat→Int) (len:Nat)
  (step:∀ (i:Nat) (acc:List Int) (H:AHeap) (K:SQ),i < len→acc.length≤i→Sub H0 H→H al=some (.list (intsL acc)) →
   (∀ H',Sub H0 H'→H' al=some (.list (intsL (if cond i=true then acc++[val i] else acc)))→K .next [pl,xx,pp,dd,cc,kk,vv,ckk,drr,mm,gg,.ref al,.int i] H') →
   vSs tT T body false [pl,xx,pp,dd,cc,kk,vv,ckk,drr,mm,gg,.ref al,.int i] H K X) :
  ∀ (w s:Nat) (acc:List Int) (H:AHeap) (v:AV) (Q:SQ),s+w=len→acc.length≤s→Sub H0 H→H al=some (.list (intsL acc)) →
   (∀ H' v,Sub H0 H'→H' al=some (.list (intsL (acc++((List.range' s w).filter cond).map val)))→Q .next [pl,xx,pp,dd,cc,kk,vv,ckk,drr,mm,gg,.ref al,v] H') →
   forL .rng 12 (fun ρ H K=>vSs tT T body false ρ H K X) (nats (List.range' s w)) [pl,xx,pp,dd,cc,kk,vv,ckk,drr,mm,gg,.ref al,v] H Q
 | 0,s,acc,H,v,Q,hs,ha,hH,hal,h=>by
  refine h H v hH ?_
  simpa using hal
 | w+1,s,acc,H,v,Q,hs,ha,hH,hal,h=>by
  simp only [List.range'_succ,nats_cons,forL,LT]
  refine step s acc H _ (by omega) ha hH hal fun H' s' hal'=>?_
  refine⟨trivial,?_⟩
  refine full_loop cond val len step w (s+1) _ H' _ Q (by omega) (by split <;> (try simp only [List.length_append,List.length_cons,List.length_nil]) <;> omega) s' hal' ?_
  intro H2 v2 h2 e2
  refine h H2 v2 h2 ?_
  rw [e2,List.range'_succ]
  by_cases c:cond s=true
  ·simp [c]
  ·simp [c]
theorem mv_range {G:Gm} {x:Nat} {g:Nat→Int}:(G.mv x).map g=(List.range' 0 (G.kid x).length).map fun i=>g (i+1):=by
 unfold Gm.mv
 rw [List.map_map,List.range_eq_range']
 rfl
theorem nz_range {G:Gm} {x:Nat} {g:Nat→Int}:(G.nz x).map g=((List.range' 0 (G.kid x).length).filter fun i=>G.no x (i+1)).map fun i=>g (i+1):=by
 unfold Gm.nz Gm.mv
 rw [List.filter_map,List.map_map,List.range_eq_range']
 rfl
theorem F_dr {G:Gm} {c d p x:Nat} (h:0 < p∧G.dr x=true):G.F c d p x=0:=by
 cases d with
 | zero=>rw [Gm.F];cases c <;> rw [Gm.q,if_pos h]
 | succ d=>rw [Gm.F,if_pos h]
theorem F_nil {G:Gm} {c d p x:Nat} (h:¬ (0 < p∧G.dr x=true)) (hk:G.kid x=[]) (hd:0 < d∨G.ck x=true):G.F c d p x=if G.ck x=true then(p:Int) - 32000 else 0:=by
 cases d with
 | zero =>
  have ck:G.ck x=true:=by
   rcases hd with hd | hd
   ·omega
   ·exact hd
  rw [Gm.F,if_pos ck]
  cases c with
  | zero=>rw [Gm.q,if_neg h,if_pos ⟨ck,hk⟩]
  | succ c=>rw [Gm.q,if_neg h,if_pos ck,if_pos hk]
 | succ d=>rw [Gm.F,if_neg h,if_pos hk]
theorem F_val {G:Gm} {p x:Nat} (h:¬ (0 < p∧G.dr x=true)) (hk:¬ (G.kid x=[]∧G.ck x=true)):G.F 0 0 p x=G.val x:=by
 rw [Gm.F,Gm.q,if_neg h,if_neg fun z=>hk ⟨z.2,z.1⟩]
theorem F_dep {G:Gm} {c d p x:Nat} (h:¬ (0 < p∧G.dr x=true)) (hk:G.kid x≠[]):G.F c (d+1) p x=fmx (-32001) ((List.range' 0 (G.kid x).length).map fun i=>-G.F c d (p+1) (G.to x (i+1))):=by
 rw [Gm.F,if_neg h,if_neg hk,mv_range]
theorem F_chk {G:Gm} {c p x:Nat} (h:¬ (0 < p∧G.dr x=true)) (ck:G.ck x=true) (hk:G.kid x≠[]):G.F (c+1) 0 p x=fmx (-32001) ((List.range' 0 (G.kid x).length).map fun i=>-G.F c 0 (p+1) (G.to x (i+1))):=by
 rw [Gm.F,Gm.q,if_neg h,if_pos ck,if_neg hk,mv_range];rfl
theorem F_not {G:Gm} {c p x:Nat} (h:¬ (0 < p∧G.dr x=true)) (ck:¬ G.ck x=true):G.F (c+1) 0 p x=fmx (G.val x) (((List.range' 0 (G.kid x).length).filter fun i=>G.no x (i+1)).map fun i=>-G.F c 0 (p+1) (G.to x (i+1))):=by
 rw [Gm.F,Gm.q,if_neg h,if_neg ck,nz_range];rfl
theorem to_get {G:Gm} {x i:Nat} (h:i < (G.kid x).length):(G.kid x)[i]? = some (G.to x (i+1)):=by
 have:=to_some (G:=G) (x:=x) (m:=i+1) ⟨by omega,by omega⟩
 simpa using this
theorem to_ok {G:Gm} (O:GOk G) {x i:Nat} (h:i < (G.kid x).length):G.to x (i+1) < G.kids.length:=(to_lt O (x:=x) (m:=i+1) ⟨by omega,by omega⟩).1
theorem ints_snoc {l:List Int} {v:Int}:intsL l++[AV.int v]=intsL (l++[v]):=by simp [intsL]
def full_tail:ISs:=.cons (.ite (.and (.cmp .eq (.loc 3) (.c (.int 0))) (.not (.loc 7))) (.cons (.expr (.meth (.loc 11) "append" (.cons (.loc 6) .nil))) .nil) .nil) (.cons (.ret (.maxl (.loc 11))) .nil)
def full_for:ISs:=.cons (.for_ 12 (.range (.c (.int 0)) (.len (.loc 5))) ir_law_full_loop0) full_tail
def full_r3:ISs:=.cons (.asg 11 (.list .nil)) full_for
def full_r2:ISs:=.cons (.ite (.and (.cmp .eq (.loc 3) (.c (.int 0))) (.cmp .eq (.loc 4) (.c (.int 0)))) (.cons (.ret (.loc 6)) .nil) .nil) full_r3
def full_r1:ISs:=.cons (.ite (.and (.cmp .eq (.loc 5) (.list .nil)) (.or (.cmp .gt (.loc 3) (.c (.int 0))) (.loc 7))) (.cons (.ret (.ife (.loc 7) (.bin .sub (.loc 2) (.c (.int 32000))) (.c (.int 0)))) .nil) .nil) full_r2
theorem full_eq:ir_law_full=.cons (.unp [5,6,7,8,9,10] (.idx (.loc 0) (.loc 1))) (.cons (.ite (.and (.cmp .gt (.loc 2) (.c (.int 0))) (.loc 8)) (.cons (.ret (.c (.int 0))) .nil) .nil) full_r1):=rfl
theorem maxl_ok {T:Tab} {call:CallSem} {e:IE} {ρ:List AV} {H:AHeap} {Q X:EQ} {l:Nat} {ns:List Int} (he:∀ Q:EQ,vE T false call e ρ H Q X=Q (.ref l) H) (hl:H l=some (.list (intsL ns))) (h0:ns≠[]) (h:∀ m,m∈ns→(∀ k∈ns,k≤m)→Q (.int m) H):vE T false call (.maxl e) ρ H Q X:=by
 rw [vE,he]
 refine⟨rfl,?_⟩
 simp only [hl]
 exact⟨by unfold intsL;simpa using h0,ns,rfl,h⟩
theorem x_full (G:Gm) (O:GOk G):∀ (k d c:Nat),d+c=k→k≤20→∀ (N:Nat),k+1≤N→∀ (p x:Nat) (H:AHeap) (pl:Nat) (xz pz dz cz:Int) (Q X:EQ),p+k≤40→x < G.kids.length→PV H pl G→xz=x→pz=p→dz=d→cz=c→(∀ H',Sub H H'→Q (.int (G.F c d p x)) H')→FW tT N false 709 [.ref pl,.int xz,.int pz,.int dz,.int cz] H Q X:=by
 intro k
 induction k using Nat.strongRecOn with
 | _ k ih =>
 intro d c hk hk20 N hN p x H pl xz pz dz cz Q X hp hx V ex ep ed ec h
 obtain⟨n,rfl⟩:∃ n,N=n+1:=⟨N - 1,by omega⟩
 subst ex;subst ep;subst ed;subst ec
 refine⟨rfl,?_⟩
 show vSs tT (FW tT n) ir_law_full false [.ref pl,.int x,.int p,.int d,.int c,.undef,.undef,.undef,.undef,.undef,.undef,.undef,.undef] H _ _
 obtain⟨ts,t1,t2,t3⟩:=V
 have V:PV H pl G:=⟨ts,t1,t2,t3⟩
 obtain⟨t,kk,m,g,bs,b1,b2,b3,b4,b5,b6⟩:=t3 x hx
 have hkl:=kid_le O x
 have FN:=F_NV O c d p x (by omega)
 have flo:=FN.ge (by omega)
 rw [full_eq]
 simp only [vSs,vS,vE,vEs,LG,i_list (v:=.ref t) t1 (place_nat (i:=(x:Int)) (k:=x) (by rw [refs_len,t2];exact hx) rfl) (refs_get b1),b2,true_and,unpL,LT,c_gt,t_bool]
 have rest:¬ (0 < p∧G.dr x=true)→vSs tT (FW tT n) full_r1 false [.ref pl,.int x,.int p,.int d,.int c,.ref kk,.int (G.val x),.bool (G.ck x),.bool (G.dr x),.ref m,.ref g,.undef,.undef] H (fun fl _ H'=>match fl with | .ret v=>Q v H' | .next=>Q .none H' | _=>False) (fun k _ H'=>X k H'):=by
  intro d1
  simp only [full_r1,vSs,vS,vE,vEs,LS]
  intro a ha
  have s1:Sub H (upd H a (.list [])):=Sub.new ha
  have V1:=V.mono s1
  have k1:=s1 _ _ b3
  have m1:=s1 _ _ b4
  have hn0:upd H a (.list []) a=some (.list []):=upd_eq
  simp only [c_eqnil k1 hn0,t_bool]
  have stage2:¬ (G.kid x=[]∧(0 < d∨G.ck x=true))→vSs tT (FW tT n) full_r2 false [.ref pl,.int x,.int p,.int d,.int c,.ref kk,.int (G.val x),.bool (G.ck x),.bool (G.dr x),.ref m,.ref g,.undef,.undef] (upd H a (.list [])) (fun fl _ H'=>match fl with | .ret v=>Q v H' | .next=>Q .none H' | _=>False) (fun k _ H'=>X k H'):=by
   intro hnk
   have stage3:¬ (d=0∧c=0)→vSs tT (FW tT n) full_r3 false [.ref pl,.int x,.int p,.int d,.int c,.ref kk,.int (G.val x),.bool (G.ck x),.bool (G.dr x),.ref m,.ref g,.undef,.undef] (upd H a (.list [])) (fun fl _ H'=>match fl with | .ret v=>Q v H' | .next=>Q .none H' | _=>False) (fun k _ H'=>X k H'):=by
    intro hdc
    simp only [full_r3,full_for,vSs,vS,vE,vT,vEs,LS]
    intro al hal
    have s2:Sub (upd H a (.list [])) (upd (upd H a (.list [])) al (.list [])):=Sub.new hal
    have hlow:H al=none:=by
     cases e:H al with
     | none=>rfl
     | some o=>rw [s1 _ _ e] at hal;cases hal
    have nal:∀ {b o},upd H a (.list []) b=some o→b≠al:=fun e z=>by rw [z,hal] at e;cases e
    simp only [s2 _ _ k1,nats_len,r_nat (K:=_) (lo:=0) (hi:=((G.kid x).length:Int)) (s:=0) (w:=(G.kid x).length) rfl (by omega) (by omega) (by omega)]
    have app:∀ {H':AHeap} {o:AO},Sub (upd H a (.list [])) H'→Sub (upd H a (.list [])) (upd H' al o):=fun s b q e=>upd_some (s _ _ e) (nal e)
    refine⟨trivial,?_⟩
    by_cases hd0:0 < d
    ·obtain⟨d',rfl⟩:∃ d',d=d'+1:=⟨d - 1,by omega⟩
     have hk0:G.kid x≠[]:=fun z=>hnk ⟨z,.inl hd0⟩
     rw [F_dep d1 hk0] at h flo
     refine full_loop (T:=FW tT n) (H0:=upd H a (.list [])) (al:=al) (fun _=>true) (fun i=>-G.F c d' (p+1) (G.to x (i+1))) (G.kid x).length ?_ (G.kid x).length 0 [] _ _ _ (by omega) (by simp) s2 upd_eq ?_
     ·intro i acc H1 K hi hacc sH hH hK
      obtain⟨y1,y2⟩:G.to x (i+1) < G.kids.length∧(G.kid x)[i]? = some (G.to x (i+1)):=⟨to_ok O hi,to_get hi⟩
      simp only [ir_law_full_loop0,vSs,vS,vE,vEs,LG,c_gt,t_bool,show(((d'+1:Nat):Int) > 0) by omega,DT,m_list hH listM_append,i_list (v:=.int (G.to x (i+1))) (sH _ _ k1) (place_nat (i:=(i:Int)) (k:=i) (by rw [nats_len];exact hi) rfl) (nats_get y2),b_add,b_sub]
      refine ih (d'+c) (by omega) d' c rfl (by omega) n (by omega) (p+1) (G.to x (i+1)) H1 pl _ _ _ _ _ _ (by omega) y1 (V1.mono sH) rfl (by push_cast;rfl) (by push_cast;omega) rfl fun H2 s=>?_
      have hH2:=s _ _ hH
      simp only [m_append hH2 (show(intsL acc).length < lim by rw [ints_len];unfold lim;omega),ints_snoc]
      exact hK _ (app (sH.trans s)) (by simp only [if_true];exact upd_eq)
     ·intro H1 v s hH
      rw [List.nil_append,List.filter_eq_self.2 (fun _ _=>rfl)] at hH
      simp only [full_tail,vSs,vS,LG,vE,c_eq,t_bool,show ¬ (((d'+1:Nat):Int)=0) by omega,DF]
      refine⟨trivial,?_⟩
      simp only [hH]
      refine⟨?_,_,rfl,fun mm hm hmx=>?_⟩
      ·intro z
       have:=congrArg List.length z
       simp [intsL] at this
       exact hk0 this
      ·have hlo:-32001≤mm:=by
        have:=fmx_le (b:=-32001) (.inl hm)
        obtain⟨i,hi,rfl⟩:=List.mem_map.1 hm
        have hi2:i < (G.kid x).length:=by simpa using (List.mem_range'_1.1 hi).2
        have:=(F_NV O c d' (p+1) (G.to x (i+1)) (by omega)).le (by omega)
        omega
       rw [fmx_is (.inl hm) hmx hlo] at h
       exact h _ (s1.trans s)
    ·have hd1:d=0:=by omega
     subst hd1
     obtain⟨c',rfl⟩:∃ c',c=c'+1:=⟨c - 1,by omega⟩
     refine full_loop (T:=FW tT n) (H0:=upd H a (.list [])) (al:=al) (fun i=>G.ck x||G.no x (i+1)) (fun i=>-G.F c' 0 (p+1) (G.to x (i+1))) (G.kid x).length ?_ (G.kid x).length 0 [] _ _ _ (by omega) (by simp) s2 upd_eq ?_
     ·intro i acc H1 K hi hacc sH hH hK
      obtain⟨y1,y2⟩:G.to x (i+1) < G.kids.length∧(G.kid x)[i]? = some (G.to x (i+1)):=⟨to_ok O hi,to_get hi⟩
      obtain⟨bv,hb⟩:=getSome (l:=bs) (k:=i) (by omega)
      have eb:G.no x (i+1)=bv:=by rw [b6,show i+1 - 1=i by omega,hb];rfl
      have go:∀ (K:SQ),(∀ H',Sub (upd H a (.list [])) H'→H' al=some (.list (intsL (acc++[-G.F c' 0 (p+1) (G.to x (i+1))])))→K .next [.ref pl,.int x,.int p,.int ((0:Nat):Int),.int ((c'+1:Nat):Int),.ref kk,.int (G.val x),.bool (G.ck x),.bool (G.dr x),.ref m,.ref g,.ref al,.int i] H') →
        vSs tT (FW tT n) (.cons (.expr (.meth (.loc 11) "append" (.cons (.neg (.call 709 (.cons (.loc 0) (.cons (.idx (.loc 5) (.loc 12)) (.cons (.bin .add (.loc 2) (.c (.int 1))) (.cons (.c (.int 0)) (.cons (.bin .sub (.loc 4) (.c (.int 1))) .nil))))))) .nil))) .nil) false [.ref pl,.int x,.int p,.int ((0:Nat):Int),.int ((c'+1:Nat):Int),.ref kk,.int (G.val x),.bool (G.ck x),.bool (G.dr x),.ref m,.ref g,.ref al,.int i] H1 K (fun k _ H'=>X k H'):=by
       intro K hK'
       simp only [vSs,vS,vE,vEs,LG,m_list hH listM_append,i_list (v:=.int (G.to x (i+1))) (sH _ _ k1) (place_nat (i:=(i:Int)) (k:=i) (by rw [nats_len];exact hi) rfl) (nats_get y2),b_add,b_sub]
       refine ih (0+c') (by omega) 0 c' rfl (by omega) n (by omega) (p+1) (G.to x (i+1)) H1 pl _ _ _ _ _ _ (by omega) y1 (V1.mono sH) rfl (by push_cast;rfl) rfl (by push_cast;omega) fun H2 s=>?_
       have hH2:=s _ _ hH
       simp only [m_append hH2 (show(intsL acc).length < lim by rw [ints_len];unfold lim;omega),ints_snoc]
       exact hK' _ (app (sH.trans s)) upd_eq
      rw [show ir_law_full_loop0=.cons (.ite (.cmp .gt (.loc 3) (.c (.int 0))) (.cons (.expr (.meth (.loc 11) "append" (.cons (.neg (.call 709 (.cons (.loc 0) (.cons (.idx (.loc 5) (.loc 12)) (.cons (.bin .add (.loc 2) (.c (.int 1))) (.cons (.bin .sub (.loc 3) (.c (.int 1))) (.cons (.loc 4) .nil))))))) .nil))) .nil) (.cons (.ite (.or (.loc 7) (.idx (.loc 9) (.loc 12))) (.cons (.expr (.meth (.loc 11) "append" (.cons (.neg (.call 709 (.cons (.loc 0) (.cons (.idx (.loc 5) (.loc 12)) (.cons (.bin .add (.loc 2) (.c (.int 1))) (.cons (.c (.int 0)) (.cons (.bin .sub (.loc 4) (.c (.int 1))) .nil))))))) .nil))) .nil) .nil) .nil)) .nil from rfl]
      rw [vSs,vS]
      simp only [vE,LG,c_gt,t_bool,show ¬ (((0:Nat):Int) > 0) by omega,DF]
      rw [vSs,vS]
      simp only [vE,LG,t_bool,i_list (v:=.bool bv) (sH _ _ m1) (place_nat (i:=(i:Int)) (k:=i) (by rw [bools_len];omega) rfl) (bools_get hb)]
      by_cases ck:G.ck x=true
      ·rw [if_pos ck]
       rw [if_pos ck]
       refine go _ fun H' s e=>?_
       simp only [vSs]
       exact hK H' s (by rw [if_pos (by rw [ck];rfl)];exact e)
      ·rw [if_neg ck]
       by_cases nb:bv=true
       ·rw [if_pos nb]
        refine go _ fun H' s e=>?_
        simp only [vSs]
        exact hK H' s (by rw [if_pos (by rw [eb,nb];simp)];exact e)
       ·rw [if_neg nb]
        simp only [vSs]
        refine hK H1 sH ?_
        have nb':bv=false:=by simpa using nb
        have ck':G.ck x=false:=by simpa using ck
        rw [if_neg (by rw [eb,nb',ck'];simp)]
        exact hH
     ·intro H1 v s hH
      rw [List.nil_append] at hH
      simp only [full_tail,vSs,vS,LG,vE,vEs,c_eq,t_bool,show((0:Nat):Int)=0 from rfl,DT]
      by_cases ck:G.ck x=true
      ·have hk0:G.kid x≠[]:=fun z=>hnk ⟨z,.inr ck⟩
       rw [F_chk d1 ck hk0] at h
       rw [List.filter_eq_self.2 (fun _ _=>by rw [ck];rfl)] at hH
       simp only [ck,Bool.not_true,DF,hH]
       refine⟨trivial,?_,_,rfl,fun mm hm hmx=>?_⟩
       ·intro z
        have:=congrArg List.length z
        simp [intsL] at this
        exact hk0 this
       ·have hlo:-32001≤mm:=by
         obtain⟨i,hi,rfl⟩:=List.mem_map.1 hm
         have:=(F_NV O c' 0 (p+1) (G.to x (i+1)) (by omega)).le (by omega)
         omega
        rw [fmx_is (.inl hm) hmx hlo] at h
        exact h _ (s1.trans s)
      ·rw [F_not d1 ck] at h
       have ck':G.ck x=false:=by simpa using ck
       have ef:(fun i=>G.ck x||G.no x (i+1))=fun i=>G.no x (i+1):=by funext i;rw [ck'];rfl
       rw [ef] at hH
       simp only [ck',Bool.not_false,if_true,m_list hH listM_append,m_append hH (show(intsL _).length < lim by
        rw [ints_len,List.length_map]
        have:=List.length_filter_le (fun i=>G.no x (i+1)) (List.range' 0 (G.kid x).length)
        rw [List.length_range'] at this
        unfold lim;omega),ints_snoc]
       have hu:∀ {H:AHeap} {o:AO},upd H al o al=some o:=upd_eq
       simp only [hu]
       refine⟨trivial,?_,_,rfl,fun mm hm hmx=>?_⟩
       ·intro z
        have:=congrArg List.length z
        simp [intsL] at this
       ·have h1:G.val x≤mm:=hmx _ (by simp)
        have h2:mm∈(((List.range' 0 (G.kid x).length).filter fun i=>G.no x (i+1)).map fun i=>-G.F c' 0 (p+1) (G.to x (i+1)))∨mm=G.val x:=by
         rcases List.mem_append.1 hm with z | z
         ·exact .inl z
         ·right;simpa using z
        rw [fmx_is h2 (fun k hk=>hmx k (by simp only [List.mem_append];exact .inl hk)) h1] at h
        exact h _ (s1.trans (app s))
   simp only [full_r2,vSs,vS,vE,LG,c_eq,t_bool]
   by_cases e1:d=0
   ·by_cases e2:c=0
    ·subst e1;subst e2
     simp only [show((0:Nat):Int)=0 from rfl,DT]
     rw [F_val d1 fun z=>hnk ⟨z.1,.inr z.2⟩] at h
     exact h _ s1
    ·have:=stage3 fun z=>e2 z.2
     subst e1
     simp only [show((0:Nat):Int)=0 from rfl,show ¬ ((c:Int)=0) by omega,decide_true,DF,if_true]
     exact this
   ·simp only [show ¬ ((d:Int)=0) by omega,DF]
    exact stage3 fun z=>e1 z.1
  by_cases hk0:G.kid x=[]
  ·have e0:(nats (G.kid x)).isEmpty=true:=by rw [hk0];rfl
   by_cases ck:G.ck x=true
   ·have hF:=F_nil (c:=c) (d:=d) d1 hk0 (.inr ck)
    rw [if_pos ck] at hF;rw [hF] at h
    simp only [e0,if_true,c_gt,t_bool,ck,b_sub]
    by_cases hd0:(d:Int) > 0
    ·simp only [hd0,DT];exact h _ s1
    ·simp only [hd0,DF];exact h _ s1
   ·have ck':G.ck x=false:=by simpa using ck
    by_cases hd0:0 < d
    ·have hF:=F_nil (c:=c) (d:=d) d1 hk0 (.inl hd0)
     rw [if_neg ck] at hF;rw [hF] at h
     simp only [e0,if_true,c_gt,t_bool,show(d:Int) > 0 by omega,decide_true,ck',DF]
     exact h _ s1
    ·have:=stage2 fun z=>by
      rcases z.2 with z | z
      ·exact hd0 z
      ·exact ck z
     simp only [e0,if_true,c_gt,t_bool,show ¬ ((d:Int) > 0) by omega,DF]
     rw [ck'] at this ⊢
     simp only [DF]
     exact this
  ·have e0:(nats (G.kid x)).isEmpty=false:=by
    cases hh:G.kid x with
    | nil=>exact absurd hh hk0
    | cons=>rfl
   simp only [e0,DF,t_bool]
   exact stage2 fun z=>hk0 z.1
 by_cases p0:(p:Int) > 0
 ·simp only [p0,DT]
  by_cases dr:G.dr x=true
  ·rw [if_pos dr]
   rw [F_dr ⟨by omega,dr⟩] at h
   exact h H Sub.refl
  ·rw [if_neg dr];exact rest fun z=>dr z.2
 ·simp only [p0,DF,t_bool]
  exact rest fun z=>p0 (by omega)
end Bn
namespace Bn
open Bm
theorem leads_loop (G:Gm) (O:GOk G) (c d pl rl:Nat) (hdc:d+c≤20) (row:List Int) (hrow:row.length≤10) (H0:AHeap) (V0:PV H0 pl G) (hr0:H0 rl=some (.list (intsL row))) {n:Nat} (hn:d+c+1≤n) {X:SX} :
  ∀ (r done:List Int) (e x t:Nat) (v:Int) (H:AHeap) (w6 w7:AV) (Q:SQ),row=done++r→done.length=t→t+e=d→Lead G c e t x r v→x < G.kids.length→Sub H0 H →
   (∀ H' x' e' v' w6 w7,Sub H0 H'→row.length+e'=d→Lead G c e' row.length x' [] v'→x' < G.kids.length→Q .next [.ref pl,.ref rl,.int d,.int c,.int v',.int x',w6,w7] H') →
   forL .rng 6 (fun ρ H K=>vSs tT (FW tT n) ir_law_leads_loop0 false ρ H K X) (nats (List.range' t r.length)) [.ref pl,.ref rl,.int d,.int c,.int v,.int x,w6,w7] H Q
 | [],done,e,x,t,v,H,w6,w7,Q,hs,ht,he,hL,hx,hH,h=>by
  have hlen:row.length=t:=by rw [hs];simpa using ht
  exact h H x e v w6 w7 hH (by omega) (by rw [hlen];exact hL) hx
 | m::r,done,0,x,t,v,H,w6,w7,Q,hs,ht,he,hL,hx,hH,h=>hL.elim
 | m::r,done,e+1,x,t,v,H,w6,w7,Q,hs,ht,he,hL,hx,hH,h=>by
  obtain⟨m',rfl,lg,hdr,hF,hL'⟩:=hL
  have V:=V0.mono hH
  have hrl:=hH _ _ hr0
  obtain⟨ts,t1,t2,t3⟩:=V
  have V:PV H pl G:=⟨ts,t1,t2,t3⟩
  obtain⟨tt,kk,mm,g,bs,b1,b2,b3,b4,b5,b6⟩:=t3 x hx
  obtain⟨y1,y2⟩:=to_lt O lg
  have y3:=to_some lg
  have l1:=lg.1
  have l2:=lg.2
  have hkl:=kid_le O x
  have hat:row[t]? = some ((m':Nat):Int):=by rw [hs,← ht];simp
  have htl:t < row.length:=len_of hat
  have i1:∀ Q,vIdx (.ref pl) (.int x) H Q=Q (.ref tt):=fun Q=>i_list (v:=.ref tt) t1 (place_nat (i:=(x:Int)) (k:=x) (by rw [refs_len,t2];exact hx) rfl) (refs_get b1)
  have i2:∀ Q,vIdx (.ref rl) (.int t) H Q=Q (.int m'):=fun Q=>i_list (v:=.int m') hrl (place_nat (i:=(t:Int)) (k:=t) (by rw [ints_len];exact htl) rfl) (ints_get hat)
  have i3:∀ Q,vIdx (.ref tt) (.int 0) H Q=Q (.ref kk):=fun Q=>i_tup (v:=.ref kk) b2 (i:=0) (k:=0) rfl rfl
  have i4:∀ Q,vIdx (.ref tt) (.int 3) H Q=Q (.bool (G.dr x)):=fun Q=>i_tup (v:=.bool (G.dr x)) b2 (i:=3) (k:=3) rfl rfl
  have i5:∀ Q,vIdx (.ref kk) (.int ((m':Int) - 1)) H Q=Q (.int (G.to x m')):=fun Q=>i_list (v:=.int (G.to x m')) b3 (place_nat (i:=(m':Int) - 1) (k:=m' - 1) (by rw [nats_len];omega) (by omega)) (nats_get y3)
  have fin:vSs tT (FW tT n) (.cons (.asg 5 (.idx (.loc 7) (.bin .sub (.idx (.loc 1) (.loc 6)) (.c (.int 1))))) (.cons (.asg 4 (.neg (.loc 4))) (.cons (.ite (.cmp .ne (.call 709 (.cons (.loc 0) (.cons (.loc 5) (.cons (.bin .add (.loc 6) (.c (.int 1))) (.cons (.bin .sub (.bin .sub (.loc 2) (.loc 6)) (.c (.int 1))) (.cons (.loc 3) .nil)))))) (.loc 4)) (.cons (.ret (.c (.bool false))) .nil) .nil) .nil))) false [.ref pl,.ref rl,.int d,.int c,.int v,.int x,.int t,.ref kk] H (fun fl ρ' H'=>match fl with
    | .next | .cont=>Src.rng.ok H'∧forL .rng 6 (fun ρ H K=>vSs tT (FW tT n) ir_law_leads_loop0 false ρ H K X) (nats (List.range' (t+1) r.length)) ρ' H' Q
    | .brk=>Q .next ρ' H'
    | .ret v=>Q (.ret v) ρ' H') X:=by
   simp only [vSs,vS,vE,vEs,LS,i2,b_sub,i5,b_add]
   refine x_full G O (e+c) e c rfl (by omega) n (by omega) (t+1) (G.to x m') H pl _ _ _ _ _ _ (by omega) y1 V rfl (by push_cast;rfl) (by omega) rfl fun H1 s1=>?_
   rw [hF]
   simp only [c_ne,t_bool,decide_true,Bool.not_true,DF]
   exact⟨trivial,leads_loop G O c d pl rl hdc row hrow H0 V0 hr0 hn r (done++[(m':Int)]) e (G.to x m') (t+1) (-v) H1 _ _ Q (by rw [hs];simp) (by simp [ht]) (by omega) hL' y1 (hH.trans s1) h⟩
  rw [show(((m':Int))::r).length=r.length+1 from rfl,List.range'_succ,nats_cons,forL]
  rw [show ir_law_leads_loop0=.cons (.asg 7 (.idx (.idx (.loc 0) (.loc 5)) (.c (.int 0)))) (.cons (.ite (.or (.cmp .ge (.loc 6) (.loc 2)) (.not (.cmp2 .le .le (.c (.int 1)) (.idx (.loc 1) (.loc 6)) (.len (.loc 7))))) (.cons (.ret (.c (.bool false))) .nil) .nil) (.cons (.ite (.and (.cmp .gt (.loc 6) (.c (.int 0))) (.idx (.idx (.loc 0) (.loc 5)) (.c (.int 3)))) (.cons (.ret (.c (.bool false))) .nil) .nil) (.cons (.asg 5 (.idx (.loc 7) (.bin .sub (.idx (.loc 1) (.loc 6)) (.c (.int 1))))) (.cons (.asg 4 (.neg (.loc 4))) (.cons (.ite (.cmp .ne (.call 709 (.cons (.loc 0) (.cons (.loc 5) (.cons (.bin .add (.loc 6) (.c (.int 1))) (.cons (.bin .sub (.bin .sub (.loc 2) (.loc 6)) (.c (.int 1))) (.cons (.loc 3) .nil)))))) (.loc 4)) (.cons (.ret (.c (.bool false))) .nil) .nil) .nil))))) from rfl]
  simp only [LT]
  rw [vSs,vS]
  simp only [vE,LG,i1,i3,LT]
  rw [vSs,vS]
  simp only [vE,LG,c_ge,c_le,t_bool,i2,b3,nats_len,show ¬ ((t:Int)≥(d:Int)) by omega,show(1:Int)≤(m':Int) by omega,show(m':Int)≤((G.kid x).length:Int) by omega,decide_true,DF,if_true,Bool.not_true]
  rw [vSs]
  rw [vSs,vS]
  simp only [vE,LG,c_gt,t_bool,i1,i4]
  by_cases t0:(t:Int) > 0
  ·have dr:G.dr x=false:=by
    cases e:G.dr x with
    | false=>rfl
    | true=>exact absurd ⟨by omega,e⟩ hdr
   simp only [t0,DT,dr,t_bool,DF]
   rw [vSs]
   exact fin
  ·simp only [t0,DF,t_bool]
   rw [vSs]
   exact fin
theorem x_leads (G:Gm) (O:GOk G) (c d pl rl:Nat) (hd:d≤10) (hdc:d+c≤20) (row:List Int) (v:Int) (L:Lead G c d 0 0 row v) {H:AHeap} (V:PV H pl G) (hr:H rl=some (.list (intsL row))) {n:Nat} (hn:d+c+1≤n) {dz cz:Int} (ed:dz=d) (ec:cz=c) {Q X:EQ} (h:∀ H',Sub H H'→Q (.bool true) H') :
  FW tT (n+1) false 716 [.ref pl,.ref rl,.int dz,.int cz,.int v] H Q X:=by
 subst ed;subst ec
 have hlen:=L.len
 refine⟨rfl,?_⟩
 show vSs tT (FW tT n) ir_law_leads false [.ref pl,.ref rl,.int d,.int c,.int v,.undef,.undef,.undef] H _ _
 unfold ir_law_leads
 rw [vSs,vS]
 simp only [vE,LT]
 rw [vSs,vS]
 simp only [vT,vE,LG,hr,ints_len,r_nat (K:=_) (lo:=0) (hi:=(row.length:Int)) (s:=0) (w:=row.length) rfl (by omega) (by omega) (by omega)]
 refine⟨trivial,leads_loop G O c d pl rl hdc row (by omega) H V hr hn row [] d 0 0 v H _ _ _ rfl rfl (by omega) L O.n0 Sub.refl fun H1 x e v' w6 w7 s1 he hL hx=>?_⟩
 have V1:=V.mono s1
 obtain⟨ts,t1,t2,t3⟩:=V1
 obtain⟨tt,kk,mm,g,bs,b1,b2,b3,b4,b5,b6⟩:=t3 x hx
 have hr1:=s1 _ _ hr
 have i1:∀ (H2:AHeap),Sub H1 H2→∀ Q,vIdx (.ref pl) (.int x) H2 Q=Q (.ref tt):=fun H2 s Q=>i_list (v:=.ref tt) (s _ _ t1) (place_nat (i:=(x:Int)) (k:=x) (by rw [refs_len,t2];exact hx) rfl) (refs_get b1)
 have i3:∀ (H2:AHeap),Sub H1 H2→∀ Q,vIdx (.ref tt) (.int 0) H2 Q=Q (.ref kk):=fun H2 s Q=>i_tup (v:=.ref kk) (s _ _ b2) (i:=0) (k:=0) rfl rfl
 have i4:∀ (H2:AHeap),Sub H1 H2→∀ Q,vIdx (.ref tt) (.int 3) H2 Q=Q (.bool (G.dr x)):=fun H2 s Q=>i_tup (v:=.bool (G.dr x)) (s _ _ b2) (i:=3) (k:=3) rfl rfl
 simp only [vSs,vS,vE,vEs,LG,hr1,ints_len,c_eq,t_bool]
 by_cases c1:row.length=d
 ·simp only [show((row.length:Int)=(d:Int)) by omega,DT]
  exact h _ s1
 ·simp only [show ¬ ((row.length:Int)=(d:Int)) by omega,DF,i1 H1 Sub.refl,i3 H1 Sub.refl]
  intro a ha
  have s2:Sub H1 (upd H1 a (.list [])):=Sub.new ha
  have hn0:upd H1 a (.list []) a=some (.list []):=upd_eq
  simp only [c_eqnil (s2 _ _ b3) hn0,t_bool]
  by_cases c2:G.kid x=[]
  ·have e0:(nats (G.kid x)).isEmpty=true:=by rw [c2];rfl
   simp only [e0,if_true]
   exact h _ (s1.trans s2)
  ·have e0:(nats (G.kid x)).isEmpty=false:=by
    cases hh:G.kid x with
    | nil=>exact absurd hh c2
    | cons=>rfl
   simp only [Lead] at hL
   have c3:0 < row.length∧G.dr x=true:=by
    rcases hL with hL | hL | hL
    ·omega
    ·exact absurd hL c2
    ·exact hL
   simp only [e0,DF]
   intro b hb
   have s3:Sub (upd H1 a (.list [])) (upd (upd H1 a (.list [])) b (.list [])):=Sub.new hb
   have hn1:upd (upd H1 a (.list [])) b (.list []) b=some (.list []):=upd_eq
   have e1:(intsL row).isEmpty=false:=by
    cases row with
    | nil=>simp at c3
    | cons=>rfl
   simp only [c_nenil (s3 _ _ (s2 _ _ hr1)) hn1,e1,Bool.not_false,t_bool,if_true,i1 _ (s2.trans s3),i4 _ (s2.trans s3),c3.2]
   exact h _ ((s1.trans s2).trans s3)
structure Inv (I:AHeap→AHeap→Prop):Prop where
 put:∀ R H a o,I R H→(R a≠none∨H a=none)→I (upd R a o) (upd H a o)
 sub:∀ R H,I R H→Sub R H
theorem SR.inv {A f G age σ}:Inv (SR A f G age σ):=⟨fun R H a o S h=>S.put h,fun R H S=>S.sub⟩
structure DK (B R:AHeap) (dk pa:Nat) (t:Int):Prop where
 cell:∃ (cards:List Int) (turn:Int),R dk=some (.deck [("pile",.ref pa),("turn",.int turn)])∧R pa=some (.list (intsL cards))∧0≤turn∧turn≤t
 b1:B dk=none
 b2:B pa=none
 sub:Sub B R
theorem DK.up {B R dk pa t t'} (D:DK B R dk pa t) (h:t≤t'):DK B R dk pa t':=by
 obtain⟨⟨cs,tu,d1,d2,d3,d4⟩,b1,b2,s⟩:=D
 exact⟨⟨cs,tu,d1,d2,d3,by omega⟩,b1,b2,s⟩
theorem k_get {a:Nat} {fs:List (String×AV)} {k:String} {v:AV} {H:AHeap} {Q:AV→Prop} (h:H a=some (.deck fs)) (e:fget fs k=some v):vKey (.ref a) k H Q=Q v:=by
 unfold vKey;dsimp only;rw [h];dsimp only;rw [e]
theorem k_set {a:Nat} {fs:List (String×AV)} {k:String} {v w:AV} {H:AHeap} {Q:AHeap→Prop} (h:H a=some (.deck fs)) (e:fget fs k=some w):vSetK (.ref a) k v H Q=Q (upd H a (.deck (fset fs k v))):=by
 unfold vSetK;dsimp only;rw [h];dsimp only;rw [e]
theorem ints_last {l:List Int} (h:l≠[]):∃ x l',l=l'++[x]:=⟨l.getLast h,l.dropLast,(List.dropLast_concat_getLast h).symm⟩
theorem x_card {I:AHeap→AHeap→Prop} (J:Inv I) {B R H:AHeap} {dk pa:Nat} {t b:Int} (hI:I R H) (D:DK B R dk pa t) (ht:t≤1000000000) (hb:0 < b) {n:Nat} {Q X:EQ}
  (h:∀ R' H' v,I R' H'→DK B R' dk pa (t+1)→0≤v→v < b→Q (.int v) H'):FW tT (n+1) false 697 [.ref dk,.int b] H Q X:=by
 obtain⟨⟨cs,tu,d1,d2,d3,d4⟩,b1,b2,s⟩:=D
 refine⟨rfl,?_⟩
 show vSs tT (FW tT n) ir_law_card false [.ref dk,.int b] H _ _
 have h1:=J.sub _ _ hI _ _ d1
 have ndp:pa≠dk:=fun z=>by rw [z,d1] at d2;cases d2
 have f1:∀ v,fset [("pile",AV.ref pa),("turn",.int tu)] "turn" v=[("pile",AV.ref pa),("turn",v)]:=fun _=>rfl
 unfold ir_law_card
 simp only [vSs,vS,vE,vEs,LG,k_get h1 (k:="turn") rfl,b_add,k_set h1 (k:="turn") rfl,f1]
 have I1:=J.put _ _ dk (.deck [("pile",.ref pa),("turn",.int (tu+1))]) hI (.inl (by rw [d1];simp))
 have g1:∀ H:AHeap,upd H dk (.deck [("pile",.ref pa),("turn",.int (tu+1))]) dk=some (.deck [("pile",.ref pa),("turn",.int (tu+1))]):=fun _=>upd_eq
 have g2:upd R dk (.deck [("pile",.ref pa),("turn",.int (tu+1))]) pa=some (.list (intsL cs)):=upd_some d2 ndp
 simp only [k_get (g1 H) (k:="pile") rfl]
 intro a ha
 have I2:=J.put _ _ a (.list []) I1 (.inr ha)
 have ra:upd R dk (.deck [("pile",.ref pa),("turn",.int (tu+1))]) a=none:=by
  cases e:upd R dk (.deck [("pile",.ref pa),("turn",.int (tu+1))]) a with
  | none=>rfl
  | some o=>rw [J.sub _ _ I1 _ _ e] at ha;cases ha
 have q1:=upd_some (o:=AO.list []) (g1 R) (ne_nl ra (g1 R))
 have q2:=upd_some (o:=AO.list []) g2 (ne_nl ra g2)
 have q3:upd (upd H dk (.deck [("pile",.ref pa),("turn",.int (tu+1))])) a (.list []) a=some (.list []):=upd_eq
 have z1:=J.sub _ _ I2 _ _ q1
 have z2:=J.sub _ _ I2 _ _ q2
 have sB:Sub B (upd (upd R dk (.deck [("pile",.ref pa),("turn",.int (tu+1))])) a (.list [])):=sub_put (sub_put s b1) (sub_none (sub_put s b1) ra)
 simp only [c_nenil z2 q3,t_bool]
 by_cases c:cs=[]
 ·have e0:(intsL cs).isEmpty=true:=by rw [c];rfl
  simp only [e0,Bool.not_true,DF,k_get z1 (k:="turn") rfl,b_add,b_mul (a:=tu+1) (b:=tu+1+7) (by omega) (by omega),b_fdiv (show(0:Int) < 2 by decide) (by decide),b_mod hb]
  exact h _ _ _ I2 ⟨⟨cs,tu+1,q1,q2,by omega,by omega⟩,b1,b2,sB⟩ (Int.emod_nonneg _ (by omega)) (Int.emod_lt_of_pos _ hb)
 ·have e0:(intsL cs).isEmpty=false:=by cases cs with
   | nil=>exact absurd rfl c
   | cons=>rfl
  obtain⟨y,l',hl⟩:=ints_last c
  have e1:(intsL cs).dropLast=intsL l':=by rw [hl];simp [intsL]
  have e2:lget (intsL cs) ((intsL cs).length - 1)=.int y:=ints_get (by rw [ints_len,hl];simp)
  simp only [e0,Bool.not_false,if_true,k_get z1 (k:="pile") rfl,m_list z2 listM_pop,m_pop z2 (show intsL cs≠[] by intro z;rw [z] at e0;cases e0),e1,e2,b_mod hb]
  have I3:=J.put _ _ pa (.list (intsL l')) I2 (.inl (by rw [q2];simp))
  exact h _ _ _ I3 ⟨⟨l',tu+1,upd_some q1 ndp.symm,upd_eq,by omega,by omega⟩,b1,b2,sub_put sB b2⟩ (Int.emod_nonneg _ (by omega)) (Int.emod_lt_of_pos _ hb)
end Bn
namespace Bn
open Bm
theorem DK.grow {B R:AHeap} {dk pa a:Nat} {t:Int} {o:AO} (D:DK B R dk pa t) (ha:R a=none):DK (upd B a o) (upd R a o) dk pa t:=by
 obtain⟨⟨cs,tu,d1,d2,d3,d4⟩,b1,b2,s⟩:=D
 have n1:=ne_nl ha d1
 have n2:=ne_nl ha d2
 refine⟨⟨cs,tu,upd_some d1 n1,upd_some d2 n2,d3,d4⟩,(upd_ne n1).trans b1,(upd_ne n2).trans b2,fun b q e=>?_⟩
 by_cases n:b=a
 ·subst n;rw [upd_eq] at e ⊢;exact e
 ·rw [upd_ne n] at e ⊢;exact s b q e
theorem DK.down {B B' R:AHeap} {dk pa:Nat} {t:Int} (D:DK B' R dk pa t) (s:Sub B B'):DK B R dk pa t:=⟨D.cell,sub_none s D.b1,sub_none s D.b2,s.trans D.sub⟩
theorem DK.setB {B R:AHeap} {dk pa a:Nat} {t:Int} {o o':AO} (D:DK B R dk pa t) (ha:B a=some o):DK (upd B a o') (upd R a o') dk pa t:=by
 obtain⟨⟨cs,tu,d1,d2,d3,d4⟩,b1,b2,s⟩:=D
 have n1:dk≠a:=fun z=>by rw [z,ha] at b1;cases b1
 have n2:pa≠a:=fun z=>by rw [z,ha] at b2;cases b2
 refine⟨⟨cs,tu,upd_some d1 n1,upd_some d2 n2,d3,d4⟩,(upd_ne n1).trans b1,(upd_ne n2).trans b2,fun b q e=>?_⟩
 by_cases n:b=a
 ·subst n;rw [upd_eq] at e ⊢;exact e
 ·rw [upd_ne n] at e ⊢;exact s b q e
theorem Inv.none {I:AHeap→AHeap→Prop} (J:Inv I) {R H:AHeap} (h:I R H) {a:Nat} (ha:H a=none):R a=none:=sub_none (J.sub _ _ h) ha
theorem pick_int {l:List Int} {a:Nat} {v:Int} {H:AHeap} {Q:AV→Prop} (h:H a=some (.list (intsL l))) (h0:0≤v) (h1:v < l.length) (k:∀ g∈l,Q (.int g)):vIdx (.ref a) (.int v) H Q:=by
 obtain⟨x,hx⟩:=getSome (l:=l) (k:=v.toNat) (by omega)
 rw [i_list (v:=.int x) h (place_nat (k:=v.toNat) (by rw [ints_len];omega) (by omega)) (ints_get hx)]
 exact k x (List.mem_of_getElem? hx)
theorem x_guess {I:AHeap→AHeap→Prop} (J:Inv I) {B R H:AHeap} {dk pa:Nat} {t v:Int} (hI:I R H) (D:DK B R dk pa t) (ht:t≤1000000) {n:Nat} {Q X:EQ}
  (h:∀ R' H' g,I R' H'→DK B R' dk pa (t+3)→Q (.int g) H'):FW tT (n+2) false 747 [.ref dk,.int v] H Q X:=by
 refine⟨rfl,?_⟩
 show vSs tT (FW tT (n+1)) ir_law_guess false [.ref dk,.int v,.undef,.undef] H _ _
 unfold ir_law_guess
 simp only [vSs,vS,vE,vEs,LS]
 refine x_card J hI D (by omega) (by decide) fun R1 H1 c1 I1 D1 _ _=>?_
 simp only [b_add,b_sub]
 refine x_card J I1 D1 (by omega) (by decide) fun R2 H2 c2 I2 D2 _ _=>?_
 simp only [b_add,b_sub]
 intro a ha
 have ra:=J.none I2 ha
 have e:([.int v,.int (v+c1 - 4),.int (c2 - 25000),.int (-32000),.int 32000,.int 0,.int (10 ^ 99),.int (-10 ^ 99)]:List AV)=intsL [v,v+c1 - 4,c2 - 25000,-32000,32000,0,10 ^ 99,-10 ^ 99]:=rfl
 rw [e]
 have I3:=J.put _ _ a (.list (intsL [v,v+c1 - 4,c2 - 25000,-32000,32000,0,10 ^ 99,-10 ^ 99])) I2 (.inr ha)
 have D3:=D2.grow (o:=.list (intsL [v,v+c1 - 4,c2 - 25000,-32000,32000,0,10 ^ 99,-10 ^ 99])) ra
 refine x_card J I3 D3 (by omega) (by decide) fun R4 H4 c4 I4 D4 g1 g2=>?_
 have ha4:=J.sub _ _ I4 _ _ (D4.sub _ _ upd_eq)
 refine pick_int ha4 g1 g2 fun g _=>?_
 exact h R4 H4 g I4 ((D4.down (Sub.new (sub_none D2.sub ra))).up (by omega))
structure LawI (chR:List Nat) (K:List (List Nat)) (noR:List Nat) (M:List (List Bool)) (gaR:List Nat) (Gn:List (List Int)) (R H:AHeap):Prop where
 sub:Sub R H
 ch:Rows H (fun a=>R a=none) chR (K.map nats)
 no:Rows H (fun a=>R a=none) noR (M.map boolsL)
 ga:Rows H (fun a=>R a=none) gaR (Gn.map intsL)
theorem LawI.inv {chR K noR M gaR Gn}:Inv (LawI chR K noR M gaR Gn) where
 sub:=fun R H h=>h.sub
 put:=fun R H a o h c=>by
  have k:∀ b q,H b=some q→R b=none→upd H a o b=some q∧upd R a o b=none:=fun b q h1 h2=>by
   have n:b≠a:=fun e=>by
    subst e
    cases c with
    | inl c=>exact c h2
    | inr c=>rw [h1] at c;cases c
   exact⟨upd_some h1 n,(upd_ne n).trans h2⟩
  refine⟨fun b q e=>?_,h.ch.mono k,h.no.mono k,h.ga.mono k⟩
  by_cases n:b=a
  ·subst n;rw [upd_eq] at e ⊢;exact e
  ·rw [upd_ne n] at e ⊢;exact h.sub b q e
theorem LawI.I {chR K noR M gaR Gn R H} (h:LawI chR K noR M gaR Gn R H):Inv (LawI chR K noR M gaR Gn):=LawI.inv
theorem LawI.fresh {chR K noR M gaR Gn R H} (h:LawI chR K noR M gaR Gn R H) {a:Nat} {o:AO} (ha:H a=none):LawI chR K noR M gaR Gn R (upd H a o):=by
 have k:∀ b q,H b=some q→R b=none→upd H a o b=some q∧R b=none:=fun b q h1 h2=>⟨upd_some h1 (ne_nl ha h1),h2⟩
 exact⟨fun b q e=>upd_some (h.sub b q e) (ne_nl ha (h.sub b q e)),h.ch.mono k,h.no.mono k,h.ga.mono k⟩
theorem LawI.addCh {chR K noR M gaR Gn R H} (h:LawI chR K noR M gaR Gn R H) {a:Nat} {k:List Nat} (ha:H a=none):LawI (chR++[a]) (K++[k]) noR M gaR Gn R (upd H a (.list (nats k))):=by
 have f:=h.fresh (o:=.list (nats k)) ha
 refine⟨f.sub,?_,f.no,f.ga⟩
 simpa using f.ch.snoc (a:=a) (r:=nats k) upd_eq (sub_none h.sub ha)
theorem LawI.addNo {chR K noR M gaR Gn R H} (h:LawI chR K noR M gaR Gn R H) {a:Nat} {k:List Bool} (ha:H a=none):LawI chR K (noR++[a]) (M++[k]) gaR Gn R (upd H a (.list (boolsL k))):=by
 have f:=h.fresh (o:=.list (boolsL k)) ha
 refine⟨f.sub,f.ch,?_,f.ga⟩
 simpa using f.no.snoc (a:=a) (r:=boolsL k) upd_eq (sub_none h.sub ha)
theorem LawI.addGa {chR K noR M gaR Gn R H} (h:LawI chR K noR M gaR Gn R H) {a:Nat} {k:List Int} (ha:H a=none):LawI chR K noR M (gaR++[a]) (Gn++[k]) R (upd H a (.list (intsL k))):=by
 have f:=h.fresh (o:=.list (intsL k)) ha
 refine⟨f.sub,f.ch,f.no,?_⟩
 simpa using f.ga.snoc (a:=a) (r:=intsL k) upd_eq (sub_none h.sub ha)
theorem card_comp {I:AHeap→AHeap→Prop} (J:Inv I) {B:AHeap} {dk pa:Nat} {src:Src} {elt:AV→AHeap→EQ→Prop} (P:AV→Prop) (hsrc:∀ R H,I R H→src.ok H)
  (step:∀ v R H t (K:EQ),I R H→DK B R dk pa t→t≤1000000→(∀ R' H' w,I R' H'→DK B R' dk pa (t+1)→P w→K w H')→elt v H K) {Kf:List AV→AHeap→Prop} :
  ∀ (xs acc:List AV) (R H:AHeap) (t:Int),t+xs.length≤1000000→I R H→DK B R dk pa t→(∀ w∈acc,P w)→(∀ R' H' ws,I R' H'→DK B R' dk pa (t+xs.length)→ws.length=acc.length+xs.length→(∀ w∈ws,P w)→Kf ws H')→compL src elt xs acc H Kf
 | [],acc,R,H,t,ht,hI,D,ha,h=>h R H acc hI (by simpa using D) (by simp) ha
 | x::xs,acc,R,H,t,ht,hI,D,ha,h=>by
  simp only [List.length_cons] at ht
  rw [compL]
  refine step x R H t _ hI D (by omega) fun R' H' w I' D' pw=>?_
  refine⟨hsrc R' H' I',card_comp J P hsrc step xs (acc++[w]) R' H' (t+1) (by push_cast at ht;omega) I' D' ?_ ?_⟩
  ·intro y hy;simp only [List.mem_append,List.mem_singleton] at hy
   rcases hy with hy | hy
   ·exact ha y hy
   ·rw [hy];exact pw
  ·intro R2 H2 ws I2 D2 hl hp
   refine h R2 H2 ws I2 ?_ ?_ hp
   ·have:t+1+(xs.length:Int)=t+((x::xs).length:Int):=by simp;omega
    rw [← this];exact D2
   ·rw [hl];simp;omega
theorem nats_of:∀ {ws:List AV} {P:Nat→Prop},(∀ w∈ws,∃ k:Nat,w=.int k∧P k)→∃ ks:List Nat,ws=nats ks∧∀ k∈ks,P k
 | [],P,h=>⟨[],rfl,by simp⟩
 | w::ws,P,h=>by
  obtain⟨k,e,p⟩:=h w (by simp)
  obtain⟨ks,e2,p2⟩:=nats_of (ws:=ws) (P:=P) fun v hv=>h v (by simp [hv])
  exact⟨k::ks,by rw [e,e2];rfl,by simpa using ⟨p,p2⟩⟩
theorem bools_of:∀ {ws:List AV},(∀ w∈ws,∃ b,w=.bool b)→∃ ks:List Bool,ws=boolsL ks
 | [],h=>⟨[],rfl⟩
 | w::ws,h=>by
  obtain⟨k,e⟩:=h w (by simp)
  obtain⟨ks,e2⟩:=bools_of (ws:=ws) fun v hv=>h v (by simp [hv])
  exact⟨k::ks,by rw [e,e2];rfl⟩
theorem ints_of:∀ {ws:List AV},(∀ w∈ws,∃ b,w=.int b)→∃ ks:List Int,ws=intsL ks
 | [],h=>⟨[],rfl⟩
 | w::ws,h=>by
  obtain⟨k,e⟩:=h w (by simp)
  obtain⟨ks,e2⟩:=ints_of (ws:=ws) fun v hv=>h v (by simp [hv])
  exact⟨k::ks,by rw [e,e2];rfl⟩
def prows:List Nat→List Int→List Bool→List Bool→List Nat→List Nat→List (List AV)
 | k::ks,v::vs,c::cs,d::ds,n::ns,g::gs=>[.ref k,.int v,.bool c,.bool d,.ref n,.ref g]::prows ks vs cs ds ns gs
 | _,_,_,_,_,_=>[]
def TupsV (R:AHeap):List Nat→List (List AV)→Prop
 | [],[]=>True
 | t::ts,r::rs=>R t=some (.tup r)∧TupsV R ts rs
 | _,_=>False
theorem TupsV.mono {R R':AHeap} (h:∀ t q,R t=some (.tup q)→R' t=some (.tup q)):∀ {ts rs},TupsV R ts rs→TupsV R' ts rs
 | [],[],_=>trivial
 | t::ts,x::xs,⟨h1,h2⟩=>⟨h _ _ h1,TupsV.mono h h2⟩
 | [],_::_,h=>h.elim
 | _::_,[],h=>h.elim
theorem TupsV.snoc {R:AHeap}:∀ {ts rs},TupsV R ts rs→∀ {t:Nat} {r:List AV},R t=some (.tup r)→TupsV R (ts++[t]) (rs++[r])
 | [],[],_,t,x,h=>⟨h,trivial⟩
 | t::ts,x::xs,⟨h1,h2⟩,_,_,h=>⟨h1,TupsV.snoc h2 h⟩
 | [],_::_,h,_,_,_=>h.elim
 | _::_,[],h,_,_,_=>h.elim
theorem TupsV.len {R:AHeap}:∀ {ts rs},TupsV R ts rs→ts.length=rs.length
 | [],[],_=>rfl
 | t::ts,x::xs,⟨h1,h2⟩=>by simp [TupsV.len h2]
 | [],_::_,h=>h.elim
 | _::_,[],h=>h.elim
theorem TupsV.at {R:AHeap}:∀ {ts rs},TupsV R ts rs→∀ {k:Nat} {x:List AV},rs[k]? = some x→∃ t,ts[k]? = some t∧R t=some (.tup x)
 | [],[],_,k,x,h=>by simp at h
 | t::ts,y::xs,⟨h1,h2⟩,0,x,h=>⟨t,rfl,by simp at h;rw [← h];exact h1⟩
 | t::ts,y::xs,⟨h1,h2⟩,k+1,x,h=>by simpa using TupsV.at h2 (k:=k) (x:=x) (by simpa using h)
 | [],_::_,h,_,_,_=>h.elim
 | _::_,[],h,_,_,_=>h.elim
theorem prows_snoc:∀ {ks:List Nat} {vs:List Int} {cs ds:List Bool} {ns gs:List Nat} {k v c d n g},vs.length=ks.length→cs.length=ks.length→ds.length=ks.length→ns.length=ks.length→gs.length=ks.length →
  prows (ks++[k]) (vs++[v]) (cs++[c]) (ds++[d]) (ns++[n]) (gs++[g])=prows ks vs cs ds ns gs++[[.ref k,.int v,.bool c,.bool d,.ref n,.ref g]]
 | [],[],[],[],[],[],_,_,_,_,_,_,_,_,_,_,_=>rfl
 | a::ks,b::vs,c'::cs,d'::ds,n'::ns,g'::gs,k,v,c,d,n,g,h1,h2,h3,h4,h5=>by
  have:=@prows_snoc ks vs cs ds ns gs k v c d n g (by simpa using h1) (by simpa using h2) (by simpa using h3) (by simpa using h4) (by simpa using h5)
  simp only [List.cons_append,prows,this]
theorem prows_len:∀ {ks:List Nat} {vs:List Int} {cs ds:List Bool} {ns gs:List Nat},vs.length=ks.length→cs.length=ks.length→ds.length=ks.length→ns.length=ks.length→gs.length=ks.length→(prows ks vs cs ds ns gs).length=ks.length
 | [],[],[],[],[],[],_,_,_,_,_=>rfl
 | a::ks,b::vs,c'::cs,d'::ds,n'::ns,g'::gs,h1,h2,h3,h4,h5=>by
  have:=@prows_len ks vs cs ds ns gs (by simpa using h1) (by simpa using h2) (by simpa using h3) (by simpa using h4) (by simpa using h5)
  simp only [List.length_cons,prows,this]
theorem prows_at:∀ {ks:List Nat} {vs:List Int} {cs ds:List Bool} {ns gs:List Nat} {i:Nat} {k v c d n g},ks[i]? = some k→vs[i]? = some v→cs[i]? = some c→ds[i]? = some d→ns[i]? = some n→gs[i]? = some g→(prows ks vs cs ds ns gs)[i]? = some [.ref k,.int v,.bool c,.bool d,.ref n,.ref g]
 | a::ks,b::vs,c'::cs,d'::ds,n'::ns,g'::gs,0,k,v,c,d,n,g,h1,h2,h3,h4,h5,h6=>by
  simp at h1 h2 h3 h4 h5 h6
  simp [prows,h1,h2,h3,h4,h5,h6]
 | a::ks,b::vs,c'::cs,d'::ds,n'::ns,g'::gs,i+1,k,v,c,d,n,g,h1,h2,h3,h4,h5,h6=>by
  have:=@prows_at ks vs cs ds ns gs i k v c d n g (by simpa using h1) (by simpa using h2) (by simpa using h3) (by simpa using h4) (by simpa using h5) (by simpa using h6)
  simpa [prows] using this
 | [],_,_,_,_,_,i,k,v,c,d,n,g,h1,h2,h3,h4,h5,h6=>by simp at h1
 | _,[],_,_,_,_,i,k,v,c,d,n,g,h1,h2,h3,h4,h5,h6=>by simp at h2
 | _,_,[],_,_,_,i,k,v,c,d,n,g,h1,h2,h3,h4,h5,h6=>by simp at h3
 | _,_,_,[],_,_,i,k,v,c,d,n,g,h1,h2,h3,h4,h5,h6=>by simp at h4
 | _,_,_,_,[],_,i,k,v,c,d,n,g,h1,h2,h3,h4,h5,h6=>by simp at h5
 | _,_,_,_,_,[],i,k,v,c,d,n,g,h1,h2,h3,h4,h5,h6=>by simp at h6
theorem prows_cols:∀ {ks:List Nat} {vs:List Int} {cs ds:List Bool} {ns gs:List Nat},vs.length=ks.length→cs.length=ks.length→ds.length=ks.length→ns.length=ks.length→gs.length=ks.length →
  (prows ks vs cs ds ns gs).map (lget · 0)=refs ks∧(prows ks vs cs ds ns gs).map (lget · 1)=intsL vs∧(prows ks vs cs ds ns gs).map (lget · 2)=boolsL cs∧(prows ks vs cs ds ns gs).map (lget · 3)=boolsL ds∧(prows ks vs cs ds ns gs).map (lget · 4)=refs ns∧(prows ks vs cs ds ns gs).map (lget · 5)=refs gs
 | [],[],[],[],[],[],_,_,_,_,_=>⟨rfl,rfl,rfl,rfl,rfl,rfl⟩
 | a::ks,b::vs,c'::cs,d'::ds,n'::ns,g'::gs,h1,h2,h3,h4,h5=>by
  obtain⟨e0,e1,e2,e3,e4,e5⟩:=@prows_cols ks vs cs ds ns gs (by simpa using h1) (by simpa using h2) (by simpa using h3) (by simpa using h4) (by simpa using h5)
  unfold refs intsL boolsL at *
  simp only [prows,List.map_cons,e0,e1,e2,e3,e4,e5,LG,and_self]
structure GPt (G:Gm) (count i:Nat):Prop where
 kids:G.kids.length=i
 vals:G.vals.length=i
 chk:G.chk.length=i
 drw:G.drw.length=i
 noi:G.noi.length=i
 gai:G.gai.length=i
 noiR:∀ (x:Nat) r k,G.noi[x]? = some r→G.kids[x]? = some k→r.length=k.length
 gaiR:∀ (x:Nat) r k,G.gai[x]? = some r→G.kids[x]? = some k→r.length=k.length
 kidR:∀ (x:Nat) k,G.kids[x]? = some k→k.length≤2∧∀ y∈k,x < y∧y < count
 valR:∀ v∈G.vals,-20000≤v∧v≤20000
theorem GPt.ok {G count} (h:GPt G count count) (h0:0 < count) (h6:count≤6):GOk G :=
 ⟨by rw [h.kids];exact h0,by rw [h.kids];exact h6,by rw [h.vals,h.kids],by rw [h.chk,h.kids],by rw [h.drw,h.kids],by rw [h.noi,h.kids],by rw [h.gai,h.kids],h.noiR,h.gaiR,fun x k e=>⟨(h.kidR x k e).1,fun y hy=>by rw [h.kids];exact(h.kidR x k e).2 y hy⟩,h.valR⟩
def Gm.add (G:Gm) (k:List Nat) (v:Int) (c d:Bool) (n:List Bool) (g:List Int):Gm:=⟨G.kids++[k],G.vals++[v],G.chk++[c],G.drw++[d],G.noi++[n],G.gai++[g]⟩
theorem snoc_at {α:Type} {l:List α} {a b:α} {x i:Nat} (hl:l.length=i) (h:(l++[a])[x]? = some b):(x < i∧l[x]? = some b)∨(x=i∧b=a):=by
 rcases Nat.lt_trichotomy x i with c | c | c
 ·left;exact⟨c,by rwa [List.getElem?_append_left (by omega)] at h⟩
 ·right;subst c;subst hl;simp at h;exact⟨rfl,h.symm⟩
 ·have:=len_of h;simp at this;omega
theorem GPt.add {G count i} (h:GPt G count i) {k:List Nat} {v:Int} {c d:Bool} {n:List Bool} {g:List Int} (hk:k.length≤2) (hky:∀ y∈k,i < y∧y < count) (hn:n.length=k.length) (hg:g.length=k.length) (hv:-20000≤v∧v≤20000):GPt (G.add k v c d n g) count (i+1):=by
 refine⟨by simp [Gm.add,h.kids],by simp [Gm.add,h.vals],by simp [Gm.add,h.chk],by simp [Gm.add,h.drw],by simp [Gm.add,h.noi],by simp [Gm.add,h.gai],fun x r q e1 e2=>?_,fun x r q e1 e2=>?_,fun x q e=>?_,fun w hw=>?_⟩
 ·rcases snoc_at h.noi e1 with ⟨a1,a2⟩ | ⟨a1,a2⟩
  ·rcases snoc_at h.kids e2 with ⟨b1,b2⟩ | ⟨b1,b2⟩
   ·exact h.noiR x r q a2 b2
   ·omega
  ·rcases snoc_at h.kids e2 with ⟨b1,b2⟩ | ⟨b1,b2⟩
   ·omega
   ·rw [a2,b2];exact hn
 ·rcases snoc_at h.gai e1 with ⟨a1,a2⟩ | ⟨a1,a2⟩
  ·rcases snoc_at h.kids e2 with ⟨b1,b2⟩ | ⟨b1,b2⟩
   ·exact h.gaiR x r q a2 b2
   ·omega
  ·rcases snoc_at h.kids e2 with ⟨b1,b2⟩ | ⟨b1,b2⟩
   ·omega
   ·rw [a2,b2];exact hg
 ·rcases snoc_at h.kids e with ⟨b1,b2⟩ | ⟨b1,b2⟩
  ·exact h.kidR x q b2
  ·rw [b2,b1];exact⟨hk,hky⟩
 ·have:w∈G.vals++[v]:=hw
  simp only [List.mem_append,List.mem_singleton] at this
  rcases this with z | z
  ·exact h.valR w z
  ·rw [z];exact hv
end Bn
namespace Bn
open Bm
def deal_r3:ISs:=match ir_law_deal_loop0 with
 | .cons _ (.cons _ (.cons _ (.cons _ (.cons _ r))))=>r
 | _=>.nil
def deal_r2:ISs:=match ir_law_deal_loop0 with
 | .cons _ (.cons _ (.cons _ r))=>r
 | _=>.nil
def deal_r1:ISs:=match ir_law_deal_loop0 with
 | .cons _ r=>r
 | _=>.nil
def markElt:IE:=.cmp .eq (.call 697 (.cons (.loc 1) (.cons (.c (.int 2)) .nil))) (.c (.int 1))
def gainElt:IE:=.bin .sub (.call 697 (.cons (.loc 1) (.cons (.c (.int 5)) .nil))) (.c (.int 2))
def kidElt:IE:=.bin .add (.bin .add (.loc 4) (.c (.int 1))) (.call 697 (.cons (.loc 1) (.cons (.bin .sub (.bin .sub (.loc 2) (.c (.int 1))) (.loc 4)) .nil)))
theorem deal_eq:ir_law_deal_loop0=.cons (.asg 4 (.ife (.cmp .eq (.loc 3) (.c (.int 0))) (.bin .add (.c (.int 1)) (.call 697 (.cons (.loc 0) (.cons (.c (.int 2)) .nil)))) (.call 697 (.cons (.loc 0) (.cons (.c (.int 3)) .nil))))) deal_r1:=rfl
theorem deal_r1_eq:deal_r1=.cons (.asg 5 (.list .nil)) (.cons (.ite (.cmp .lt (.loc 3) (.bin .sub (.loc 1) (.c (.int 1)))) (.cons (.asg 5 (.comp kidElt (.range (.c (.int 0)) (.loc 4)))) .nil) .nil) deal_r2):=rfl
theorem deal_r2_eq:deal_r2=.cons (.asg 6 (.idx (.list (.cons (.c (.int 100)) (.cons (.c (.int 1200)) (.cons (.c (.int 20000)) .nil)))) (.call 697 (.cons (.loc 0) (.cons (.c (.int 3)) .nil))))) (.cons (.asg 7 (.bin .sub (.call 697 (.cons (.loc 0) (.cons (.bin .add (.bin .mul (.c (.int 2)) (.loc 6)) (.c (.int 1))) .nil))) (.loc 6))) deal_r3):=rfl
theorem deal_r3_eq:deal_r3=.cons (.asg 8 (.comp markElt (.over (.loc 5)))) (.cons (.asg 9 (.comp gainElt (.over (.loc 5)))) (.cons (.expr (.meth (.loc 2) "append" (.cons (.tup (.cons (.loc 5) (.cons (.loc 7) (.cons (.cmp .eq (.call 697 (.cons (.loc 0) (.cons (.c (.int 4)) .nil))) (.c (.int 3))) (.cons (.cmp .eq (.call 697 (.cons (.loc 0) (.cons (.c (.int 6)) .nil))) (.c (.int 5))) (.cons (.loc 8) (.cons (.loc 9) .nil))))))) .nil))) .nil)):=rfl
theorem rows_last {H:AHeap} {F:Nat→Prop} {as:List Nat} {rs:List (List AV)} {a:Nat} {r:List AV} (h:Rows H F (as++[a]) (rs++[r])) (hl:as.length=rs.length):H a=some (.list r):=by
 obtain⟨b,b1,b2,b3⟩:=h.at rs.length r (by simp)
 rw [← hl] at b1
 simp at b1
 rw [b1];exact b2
structure DS (G:Gm) (count i:Nat) (chR noR gaR ts:List Nat) (pl dk pa:Nat) (t:Int) (B R H:AHeap):Prop where
 law:LawI chR G.kids noR G.noi gaR G.gai R H
 dk:DK B R dk pa t
 pl:B pl=some (.list (refs ts))
 tups:TupsV B ts (prows chR G.vals G.chk G.drw noR gaR)
 ok:GPt G count i
 l1:chR.length=i
 l2:noR.length=i
 l3:gaR.length=i
theorem deal_body (count:Nat) (hc6:count≤6) (G:Gm) (i:Nat) (hi:i < count) (chR noR gaR ts:List Nat) (pl dk pa:Nat) (t:Int) (B R H:AHeap) (S:DS G count i chR noR gaR ts pl dk pa t B R H) (ht:t≤10000) (n:Nat) (v4 v5 v6 v7 v8 v9:AV) (K:SQ) (X:SX)
  (h:∀ G' chR' noR' gaR' ts' B' R' H' v4 v5 v6 v7 v8 v9,DS G' count (i+1) chR' noR' gaR' ts' pl dk pa (t+20) B' R' H'→K .next [.ref dk,.int count,.ref pl,.int i,v4,v5,v6,v7,v8,v9] H') :
  vSs tT (FW tT (n+1)) ir_law_deal_loop0 false [.ref dk,.int count,.ref pl,.int i,v4,v5,v6,v7,v8,v9] H K X:=by
 obtain⟨L,D,hp,T,O,l1,l2,l3⟩:=S
 have r3:∀ (kl:Nat) (ks:List Nat) (R2 H2:AHeap) (t2 val:Int) (v4 v6 v8 v9:AV),LawI (chR++[kl]) (G.kids++[ks]) noR G.noi gaR G.gai R2 H2→DK B R2 dk pa t2→t2≤t+8→ks.length≤2→(∀ y∈ks,i < y∧y < count)→-20000≤val∧val≤20000 →
   vSs tT (FW tT (n+1)) deal_r3 false [.ref dk,.int count,.ref pl,.int i,v4,.ref kl,v6,.int val,v8,v9] H2 K X:=by
  intro kl ks R2 H2 t2 val v4 v6 v8 v9 L2 D2 ht2 hk hky hval
  have src:∀ {noR' M' gaR' Gn'} {R H},LawI (chR++[kl]) (G.kids++[ks]) noR' M' gaR' Gn' R H→H kl=some (.list (nats ks)):=fun {noR' M' gaR' Gn'} {R H} L=>by
   have:=L.ch
   rw [List.map_append] at this
   exact rows_last this (by simp [l1,O.kids])
  rw [deal_r3_eq]
  simp only [vSs,vS,vE,vT,LS,vOver,src L2]
  refine⟨trivial,card_comp (src:=.lst kl (nats ks)) L2.I (fun w=>∃ b,w=.bool b) (fun R H L=>src L) (fun v R H t' K' L' D' ht' hK=>?_) (nats ks) [] R2 H2 t2 (by rw [nats_len];omega) L2 D2 (by simp) (fun R3 H3 ws L3 D3 hl3 hp3=>?_)⟩
  ·simp only [markElt,vE,vEs,LG]
   refine x_card L'.I L' D' (by omega) (by decide) fun R5 H5 c5 I5 D5 g1 g2=>?_
   simp only [c_eq]
   exact hK R5 H5 _ I5 D5 ⟨_,rfl⟩
  obtain⟨ms,rfl⟩:=bools_of hp3
  simp only [bools_len,List.length_nil,Nat.zero_add,nats_len] at hl3 D3
  intro ml hml
  have L4:=L3.addNo (k:=ms) hml
  simp only [LS,src L4]
  refine⟨trivial,card_comp (src:=.lst kl (nats ks)) L4.I (fun w=>∃ b,w=.int b) (fun R H L=>src L) (fun v R H t' K' L' D' ht' hK=>?_) (nats ks) [] R3 _ (t2+(ks.length:Int)) (by rw [nats_len];omega) L4 D3 (by simp) (fun R5 H5 ws L5 D5 hl5 hp5=>?_)⟩
  ·simp only [gainElt,vE,vEs,LG]
   refine x_card L'.I L' D' (by omega) (by decide) fun R5 H5 c5 I5 D5 g1 g2=>?_
   simp only [b_sub]
   exact hK R5 H5 _ I5 D5 ⟨_,rfl⟩
  obtain⟨gs,rfl⟩:=ints_of hp5
  simp only [ints_len,List.length_nil,Nat.zero_add,nats_len] at hl5 D5
  intro gl hgl
  have L6:=L5.addGa (k:=gs) hgl
  have hpl6:=L6.sub _ _ (D5.sub _ _ hp)
  simp only [LS,vEs,m_list hpl6 listM_append]
  refine x_card L6.I L6 D5 (by omega) (by decide) fun R7 H7 c7 L7 D7 _ _=>?_
  simp only [c_eq]
  refine x_card L7.I L7 D7 (by omega) (by decide) fun R8 H8 c8 L8 D8 _ _=>?_
  simp only [c_eq,LG]
  intro tt htt
  have rt:=L8.I.none L8 htt
  have L9:=L8.I.put _ _ tt (.tup [.ref kl,.int val,.bool (decide (c7=3)),.bool (decide (c8=5)),.ref ml,.ref gl]) L8 (.inr htt)
  have D9:=D8.grow (o:=.tup [.ref kl,.int val,.bool (decide (c7=3)),.bool (decide (c8=5)),.ref ml,.ref gl]) rt
  have bt:=sub_none D8.sub rt
  have hp9:upd B tt (.tup [.ref kl,.int val,.bool (decide (c7=3)),.bool (decide (c8=5)),.ref ml,.ref gl]) pl=some (.list (refs ts)):=upd_some hp (ne_nl bt hp)
  have T9:=T.mono (R':=upd B tt (.tup [.ref kl,.int val,.bool (decide (c7=3)),.bool (decide (c8=5)),.ref ml,.ref gl])) (tup_put (none_tup bt))
  have hplH:=L9.sub _ _ (D9.sub _ _ hp9)
  have hts:ts.length=i:=by rw [T.len,prows_len] <;> simp [l1,l2,l3,O.vals,O.chk,O.drw]
  refine Eq.mpr (m_append hplH (show(refs ts).length < lim by rw [refs_len,hts];unfold lim;omega)) ?_
  rw [refs_snoc]
  have L10:=L9.I.put _ _ pl (.list (refs (ts++[tt]))) L9 (.inl (by rw [D9.sub _ _ hp9];simp))
  have D10:=D9.setB (o':=.list (refs (ts++[tt]))) hp9
  refine h (G.add ks val (decide (c7=3)) (decide (c8=5)) ms gs) (chR++[kl]) (noR++[ml]) (gaR++[gl]) (ts++[tt]) _ _ _ _ _ _ _ _ _ ⟨L10,D10.up (by omega),upd_eq,?_,O.add hk hky (by omega) (by omega) hval,by simp [l1],by simp [l2],by simp [l3]⟩
  show TupsV _ _ (prows (chR++[kl]) (G.vals++[val]) (G.chk++[decide (c7=3)]) (G.drw++[decide (c8=5)]) (noR++[ml]) (gaR++[gl]))
  rw [prows_snoc (by rw [O.vals,l1]) (by rw [O.chk,l1]) (by rw [O.drw,l1]) (by rw [l2,l1]) (by rw [l3,l1])]
  refine TupsV.snoc (T9.mono (tup_put (list_tup hp9))) (upd_some upd_eq ?_)
  exact fun z=>by rw [z] at bt;rw [hp] at bt;cases bt
 have r2:∀ (kl:Nat) (ks:List Nat) (R2 H2:AHeap) (t2:Int) (v4 v6 v7 v8 v9:AV),LawI (chR++[kl]) (G.kids++[ks]) noR G.noi gaR G.gai R2 H2→DK B R2 dk pa t2→t2≤t+4→ks.length≤2→(∀ y∈ks,i < y∧y < count) →
   vSs tT (FW tT (n+1)) deal_r2 false [.ref dk,.int count,.ref pl,.int i,v4,.ref kl,v6,v7,v8,v9] H2 K X:=by
  intro kl ks R2 H2 t2 v4 v6 v7 v8 v9 L2 D2 ht2 hk hky
  rw [deal_r2_eq]
  simp only [vSs,vS,vE,vEs,LS]
  intro a ha
  have ra:=L2.I.none L2 ha
  have e:([.int 100,.int 1200,.int 20000]:List AV)=intsL [100,1200,20000]:=rfl
  rw [e]
  have L3:=L2.I.put _ _ a (.list (intsL [100,1200,20000])) L2 (.inr ha)
  have D3:=D2.grow (o:=.list (intsL [100,1200,20000])) ra
  refine x_card L3.I L3 D3 (by omega) (by decide) fun R4 H4 c4 L4 D4 g1 g2=>?_
  have ha4:=L4.sub _ _ (D4.sub _ _ upd_eq)
  have D4':=D4.down (Sub.new (sub_none D2.sub ra))
  refine pick_int ha4 g1 g2 fun sz hsz=>?_
  have hb:0 < sz∧sz≤20000:=by simp at hsz;omega
  simp only [LS,b_mul (a:=2) (b:=sz) (by decide) (by decide),b_add]
  refine x_card L4.I L4 D4' (by omega) (by omega) fun R5 H5 c5 L5 D5 g3 g4=>?_
  simp only [b_sub,LT]
  exact r3 kl ks R5 H5 _ (c5 - sz) _ _ _ _ L5 D5 (by omega) hk hky (by omega)
 have r1:∀ (many:Nat) (R1 H1:AHeap) (t1:Int) (v5 v6 v7 v8 v9:AV),many≤2→LawI chR G.kids noR G.noi gaR G.gai R1 H1→DK B R1 dk pa t1→t1≤t+1 →
   vSs tT (FW tT (n+1)) deal_r1 false [.ref dk,.int count,.ref pl,.int i,.int many,v5,v6,v7,v8,v9] H1 K X:=by
  intro many R1 H1 t1 v5 v6 v7 v8 v9 hm L1 D1 ht1
  rw [deal_r1_eq]
  simp only [vSs,vS,vE,vT,vEs,LS,c_lt,b_sub,t_bool]
  intro a ha
  by_cases c:(i:Int) < (count:Int) - 1
  ·simp only [c,DT,r_nat (K:=_) (lo:=0) (hi:=(many:Int)) (s:=0) (w:=many) rfl (by omega) (by omega) (by omega)]
   have L2:=L1.fresh (o:=.list []) ha
   refine⟨trivial,card_comp (src:=.rng) L2.I (fun w=>∃ k:Nat,w=.int k∧(i < k∧k < count)) (fun R H L=>trivial) (fun v R H t' K' L' D' ht' hK=>?_) _ [] R1 _ t1 (by rw [nats_len,List.length_range'];omega) L2 D1 (by simp) (fun R3 H3 ws L3 D3 hl3 hp3=>?_)⟩
   ·simp only [kidElt,vE,vEs,LG,b_add,b_sub]
    refine x_card L'.I L' D' (by omega) (by omega) fun R5 H5 c5 I5 D5 g1 g2=>?_
    exact hK R5 H5 _ I5 D5 ⟨((i:Int)+1+c5).toNat,by rw [Int.toNat_of_nonneg (by omega)],by omega,by omega⟩
   ·obtain⟨ks,rfl,hks⟩:=nats_of hp3
    simp only [nats_len,List.length_nil,Nat.zero_add,List.length_range'] at hl3 D3
    intro kl hkl
    exact r2 kl ks R3 _ _ _ _ _ _ _ (L3.addCh hkl) D3 (by omega) (by omega) hks
  ·simp only [c,DF]
   exact r2 a [] R1 _ t1 _ _ _ _ _ (L1.addCh (k:=[]) ha) D1 (by omega) (by simp) (by simp)
 rw [deal_eq]
 simp only [vSs,vS,vE,vEs,LS,c_eq,t_bool]
 by_cases c:(i:Int)=0
 ·simp only [c,DT]
  refine x_card L.I L D (by omega) (by decide) fun R1 H1 c1 L1 D1 g1 g2=>?_
  simp only [b_add,LT]
  have:=r1 (1+c1).toNat R1 H1 _ v5 v6 v7 v8 v9 (by omega) L1 D1 (by omega)
  rw [Int.toNat_of_nonneg (by omega)] at this
  rw [c] at this
  exact this
 ·simp only [c,DF]
  refine x_card L.I L D (by omega) (by decide) fun R1 H1 c1 L1 D1 g1 g2=>?_
  have:=r1 c1.toNat R1 H1 _ v5 v6 v7 v8 v9 (by omega) L1 D1 (by omega)
  rw [Int.toNat_of_nonneg (by omega)] at this
  exact this
theorem deal_loop (count:Nat) (hc6:count≤6) (pl dk pa:Nat) (t:Int) (ht:t≤100) (n:Nat) (X:SX):∀ (w s:Nat) (G:Gm) (chR noR gaR ts:List Nat) (B R H:AHeap) (v3 v4 v5 v6 v7 v8 v9:AV) (Q:SQ),s+w=count→DS G count s chR noR gaR ts pl dk pa (t+20*s) B R H →
  (∀ G' chR' noR' gaR' ts' B' R' H' v3 v4 v5 v6 v7 v8 v9,DS G' count count chR' noR' gaR' ts' pl dk pa (t+20*count) B' R' H'→Q .next [.ref dk,.int count,.ref pl,v3,v4,v5,v6,v7,v8,v9] H') →
  forL .rng 3 (fun ρ H K=>vSs tT (FW tT (n+1)) ir_law_deal_loop0 false ρ H K X) (nats (List.range' s w)) [.ref dk,.int count,.ref pl,v3,v4,v5,v6,v7,v8,v9] H Q
 | 0,s,G,chR,noR,gaR,ts,B,R,H,v3,v4,v5,v6,v7,v8,v9,Q,hs,S,h=>by
  have:s=count:=by omega
  subst this
  exact h G chR noR gaR ts B R H v3 v4 v5 v6 v7 v8 v9 S
 | w+1,s,G,chR,noR,gaR,ts,B,R,H,v3,v4,v5,v6,v7,v8,v9,Q,hs,S,h=>by
  simp only [List.range'_succ,nats_cons,forL,LT]
  refine deal_body count hc6 G s (by omega) chR noR gaR ts pl dk pa _ B R H S (by omega) n _ _ _ _ _ _ _ X fun G' chR' noR' gaR' ts' B' R' H' v4 v5 v6 v7 v8 v9 S'=>?_
  refine⟨trivial,deal_loop count hc6 pl dk pa t ht n X w (s+1) G' chR' noR' gaR' ts' B' R' H' _ _ _ _ _ _ _ Q (by omega) ?_ h⟩
  rw [show t+20*((s+1:Nat):Int)=t+20*(s:Int)+20 by push_cast;omega]
  exact S'
theorem x_deal (dk pa:Nat) (B R H:AHeap) (t:Int) (ht:t≤99) (hs:Sub R H) (D:DK B R dk pa t) {n:Nat} {Q X:EQ}
  (h:∀ G count chR noR gaR ts pl B' R' H',3≤count→count≤6→DS G count count chR noR gaR ts pl dk pa (t+200) B' R' H'→Q (.ref pl) H'):FW tT (n+2) false 702 [.ref dk] H Q X:=by
 refine⟨rfl,?_⟩
 show vSs tT (FW tT (n+1)) ir_law_deal false [.ref dk,.undef,.undef,.undef,.undef,.undef,.undef,.undef,.undef,.undef] H _ _
 unfold ir_law_deal
 have L0:LawI [] [] [] [] [] [] R H:=⟨hs,trivial,trivial,trivial⟩
 simp only [vSs,vS,vE,vT,vEs,LS]
 refine x_card L0.I L0 D (by omega) (by decide) fun R1 H1 c1 L1 D1 g1 g2=>?_
 simp only [b_add,LS]
 intro pl hpl
 have rp:=L1.I.none L1 hpl
 have L2:=L1.I.put _ _ pl (.list []) L1 (.inr hpl)
 have D2:=D1.grow (o:=.list []) rp
 obtain⟨count,hc⟩:∃ count:Nat,(3:Int)+c1=count:=⟨(3+c1).toNat,by omega⟩
 rw [hc]
 simp only [r_nat (K:=_) (lo:=0) (hi:=(count:Int)) (s:=0) (w:=count) rfl (by omega) (by omega) (by omega)]
 refine⟨trivial,deal_loop count (by omega) pl dk pa (t+1) (by omega) n _ count 0 ⟨[],[],[],[],[],[]⟩ [] [] [] [] _ _ _ _ _ _ _ _ _ _ _ (by omega) ⟨L2,D2.up (by omega),upd_eq,trivial,⟨rfl,rfl,rfl,rfl,rfl,rfl,by simp,by simp,by simp,by simp⟩,rfl,rfl,rfl⟩ fun G chR noR gaR ts B' R' H' v3 v4 v5 v6 v7 v8 v9 S=>?_⟩
 simp only [vSs,vS,vE,LG]
 exact h G count chR noR gaR ts pl B' R' H' (by omega) (by omega) { S with dk:=S.dk.up (by omega) }
end Bn
namespace Bn
open Bm
theorem none_upd {R:AHeap} {a b:Nat} {o:AO} (h:upd R a o b=none):b≠a∧R b=none:=by
 have n:b≠a:=fun e=>by rw [e,upd_eq] at h;cases h
 exact⟨n,by rw [upd_ne n] at h;exact h⟩
theorem Sub.put {B R:AHeap} (h:Sub B R) {a:Nat} {o:AO} (n:B a=none):Sub B (upd R a o):=sub_put h n
theorem b_rep {z:Nat} {x:AV} {n:Int} {H:AHeap} {Q:EQ} (h:H z=some (.list [x])):vBin .mul (.ref z) (.int n) H Q=((0≤n∧n≤1000)∧∀ a,H a=none→Q (.ref a) (upd H a (.list (List.replicate n.toNat x)))):=by
 unfold vBin;dsimp only;rw [h]
def ttFs (cl w:Nat) (s:Nat):List (String×AV):=[("clusters",.int cl),("ways",.int w),("age",.int 0),("slots",.ref s)]
theorem rep_ints {n:Nat} {v:Int}:List.replicate n (AV.int v)=intsL (List.replicate n v):=by simp [intsL]
theorem x_tt_init {I:AHeap→AHeap→Prop} (J:Inv I) {R H:AHeap} (hI:I R H) {a:Nat} (ha:H a=none) {cl w:Nat} (h1:1≤cl∧cl≤2) (h2:1≤w∧w≤2) {n:Nat} {Q X:EQ}
  (h:∀ R' H' s,I R' H'→Sub R R'→R a=none→R s=none→a≠s→R' a=some (.obj 284 (ttFs cl w s))→R' s=some (.list (intsL (List.replicate (cl*w) 0)))→Q .none H') :
  FW tT (n+1) false 246 [.ref a,.int cl,.int w] (upd H a (.obj 284 [])) Q X:=by
 refine⟨rfl,?_⟩
 show vSs tT (FW tT n) ir_TransTable_init false [.ref a,.int cl,.int w] _ _ _
 unfold ir_TransTable_init
 have ra:=J.none hI ha
 have g1:fset [] "clusters" (AV.int cl)=[("clusters",.int cl)]:=rfl
 have g2:fset [("clusters",AV.int cl)] "ways" (.int w)=[("clusters",.int cl),("ways",.int w)]:=rfl
 have g3:fset [("clusters",AV.int cl),("ways",.int w)] "age" (.int 0)=[("clusters",.int cl),("ways",.int w),("age",.int 0)]:=rfl
 simp only [vSs,vS,vE,vEs,LG,c_lt,t_bool,show ¬ ((cl:Int) < 1) by omega,show ¬ ((w:Int) < 1) by omega,DF,
  osu (C:=284) [] (n:="clusters") rfl (by simp),g1,osu (C:=284) [("clusters",AV.int cl)] (n:="ways") rfl (by simp),g2,osu (C:=284) [("clusters",AV.int cl),("ways",.int w)] (n:="age") rfl (by simp),g3,b_mul (a:=(cl:Int)) (b:=(w:Int)) (by omega) (by omega)]
 intro z hz
 have I1:=J.put _ _ a (.obj 284 [("clusters",.int cl),("ways",.int w),("age",.int 0)]) hI (.inr ha)
 have rz:=none_upd (J.none I1 hz)
 have I2:=J.put _ _ z (.list [.int 0]) I1 (.inr hz)
 have ez:∀ H:AHeap,upd H z (.list [.int 0]) z=some (.list [.int 0]):=fun _=>upd_eq
 simp only [b_rep (ez _)]
 have hcw:((cl:Int)*(w:Int))=((cl*w:Nat):Int):=by simp
 have hle:cl*w≤2*2:=Nat.mul_le_mul h1.2 h2.2
 rw [hcw]
 refine⟨by omega,?_⟩
 rw [Int.toNat_natCast,rep_ints]
 intro s hs
 have rs:=none_upd (J.none I2 hs)
 have rs2:=none_upd rs.2
 have I3:=J.put _ _ s (.list (intsL (List.replicate (cl*w) 0))) I2 (.inr hs)
 have ea:upd (upd (upd H a (.obj 284 [("clusters",.int cl),("ways",.int w),("age",.int 0)])) z (.list [.int 0])) s (.list (intsL (List.replicate (cl*w) 0))) a=some (.obj 284 [("clusters",.int cl),("ways",.int w),("age",.int 0)]):=upd_some (upd_some upd_eq rz.1.symm) rs2.1.symm
 have g4:fset [("clusters",AV.int cl),("ways",.int w),("age",.int 0)] "slots" (.ref s)=ttFs cl w s:=rfl
 rw [a_set ea rfl (by simp),g4]
 have I4:=J.put _ _ a (.obj 284 (ttFs cl w s)) I3 (.inl (by rw [upd_some (upd_some upd_eq rz.1.symm) rs2.1.symm];simp))
 refine h _ _ s I4 ?_ ra rs2.2 rs2.1.symm upd_eq (upd_some upd_eq rs2.1)
 exact sub_put ((Sub.new ra).trans ((Sub.new (J.none I1 hz)).trans (Sub.new (J.none I2 hs)))) ra
theorem x_kl_init {I:AHeap→AHeap→Prop} (J:Inv I) {R H:AHeap} (hI:I R H) {a:Nat} (ha:H a=none) {n:Nat} {Q X:EQ}
  (h:∀ R' H' k1 k2,I R' H'→Sub R R'→R a=none→R k1=none→R k2=none→a≠k1→a≠k2→k1≠k2→R' a=some (.obj 389 [("plies",.int 3),("first",.ref k1),("second",.ref k2)])→R' k1=some (.list (intsL [0,0,0]))→R' k2=some (.list (intsL [0,0,0]))→Q .none H') :
  FW tT (n+1) false 365 [.ref a,.int 3] (upd H a (.obj 389 [])) Q X:=by
 refine⟨rfl,?_⟩
 show vSs tT (FW tT n) ir_Killers_init false [.ref a,.int 3] _ _ _
 unfold ir_Killers_init
 have ra:=J.none hI ha
 have g1:fset [] "plies" (AV.int 3)=[("plies",.int 3)]:=rfl
 simp only [vSs,vS,vE,vEs,LG,osu (C:=389) [] (n:="plies") rfl (by simp),g1]
 intro z hz
 have I1:=J.put _ _ a (.obj 389 [("plies",.int 3)]) hI (.inr ha)
 have nz:=J.none I1 hz
 have rz:=none_upd nz
 have I2:=J.put _ _ z (.list [.int 0]) I1 (.inr hz)
 have ez:∀ H:AHeap,upd H z (.list [.int 0]) z=some (.list [.int 0]):=fun _=>upd_eq
 simp only [b_rep (ez _)]
 refine⟨by omega,?_⟩
 have e3:List.replicate (3:Int).toNat (AV.int 0)=intsL [0,0,0]:=rfl
 rw [e3]
 intro k1 hk1
 have nk1:=J.none I2 hk1
 have r1:=none_upd nk1
 have r2:=none_upd r1.2
 have I3:=J.put _ _ k1 (.list (intsL [0,0,0])) I2 (.inr hk1)
 have ea:∀ H:AHeap,upd (upd (upd H a (.obj 389 [("plies",.int 3)])) z (.list [.int 0])) k1 (.list (intsL [0,0,0])) a=some (.obj 389 [("plies",.int 3)]):=fun _=>upd_some (upd_some upd_eq rz.1.symm) r2.1.symm
 have g2:fset [("plies",AV.int 3)] "first" (.ref k1)=[("plies",.int 3),("first",.ref k1)]:=rfl
 rw [a_set (ea H) rfl (by simp),g2]
 have I4:=J.put _ _ a (.obj 389 [("plies",.int 3),("first",.ref k1)]) I3 (.inl (by rw [ea R];simp))
 intro y hy
 have ny:=J.none I4 hy
 have ry:=none_upd ny
 have ry2:=none_upd ry.2
 have I5:=J.put _ _ y (.list [.int 0]) I4 (.inr hy)
 have ey:∀ H:AHeap,upd H y (.list [.int 0]) y=some (.list [.int 0]):=fun _=>upd_eq
 simp only [b_rep (ey _)]
 refine⟨by omega,?_⟩
 rw [e3]
 intro k2 hk2
 have nk2:=J.none I5 hk2
 have q1:=none_upd nk2
 have q2:=none_upd q1.2
 have q3:=none_upd q2.2
 have q4:=none_upd q3.2
 have q5:=none_upd q4.2
 have I6:=J.put _ _ k2 (.list (intsL [0,0,0])) I5 (.inr hk2)
 have ea2:∀ H:AHeap,upd (upd (upd H a (.obj 389 [("plies",.int 3),("first",.ref k1)])) y (.list [.int 0])) k2 (.list (intsL [0,0,0])) a=some (.obj 389 [("plies",.int 3),("first",.ref k1)]):=fun _=>upd_some (upd_some upd_eq ry.1.symm) q2.1.symm
 have g3:fset [("plies",AV.int 3),("first",.ref k1)] "second" (.ref k2)=[("plies",.int 3),("first",.ref k1),("second",.ref k2)]:=rfl
 rw [a_set (ea2 _) rfl (by simp),g3]
 have I7:=J.put _ _ a (.obj 389 [("plies",.int 3),("first",.ref k1),("second",.ref k2)]) I6 (.inl (by rw [ea2 _];simp))
 refine h _ _ k1 k2 I7 ?_ ra r2.2 q5.2 r2.1.symm q2.1.symm (fun e=>q3.1 e.symm) upd_eq ?_ ?_
 ·exact((((Sub.new ra).trans ((Sub.new nz).trans (Sub.new nk1))).put ra).trans ((Sub.new ny).trans (Sub.new nk2))).put ra
 ·exact upd_some (upd_some (upd_some (upd_some upd_eq r2.1) ry2.1.symm) q3.1.symm) r2.1
 ·exact upd_some upd_eq q2.1
theorem x_hs_init {I:AHeap→AHeap→Prop} (J:Inv I) {R H:AHeap} (hI:I R H) {a:Nat} (ha:H a=none) {n:Nat} {Q X:EQ}
  (h:∀ R' H' d,I R' H'→Sub R R'→R a=none→R d=none→a≠d→R' a=some (.obj 347 [("limit",.int 400),("scores",.ref d)])→R' d=some (.idict [])→Q .none H') :
  FW tT (n+1) false 316 [.ref a,.int 400] (upd H a (.obj 347 [])) Q X:=by
 refine⟨rfl,?_⟩
 show vSs tT (FW tT n) ir_History_init false [.ref a,.int 400] _ _ _
 unfold ir_History_init
 have ra:=J.none hI ha
 have g1:fset [] "limit" (AV.int 400)=[("limit",.int 400)]:=rfl
 simp only [vSs,vS,vE,vEs,LG,c_lt,t_bool,show ¬ ((400:Int) < 1) by decide,DF,osu (C:=347) [] (n:="limit") rfl (by simp),g1]
 intro d hd
 have I1:=J.put _ _ a (.obj 347 [("limit",.int 400)]) hI (.inr ha)
 have nd:=J.none I1 hd
 have rd:=none_upd nd
 have I2:=J.put _ _ d (.idict []) I1 (.inr hd)
 have ea:∀ H:AHeap,upd (upd H a (.obj 347 [("limit",.int 400)])) d (.idict []) a=some (.obj 347 [("limit",.int 400)]):=fun _=>upd_some upd_eq rd.1.symm
 have g2:fset [("limit",AV.int 400)] "scores" (.ref d)=[("limit",.int 400),("scores",.ref d)]:=rfl
 rw [a_set (ea H) rfl (by simp),g2]
 have I3:=J.put _ _ a (.obj 347 [("limit",.int 400),("scores",.ref d)]) I2 (.inl (by rw [ea R];simp))
 exact h _ _ d I3 (sub_put ((Sub.new ra).trans (Sub.new nd)) ra) ra rd.2 rd.1.symm upd_eq (upd_some upd_eq rd.1)
def cxFs (g:Nat) (tv kv hv:AV) (calm most:Int) (gl:Nat):List (String×AV):=[("game",.ref g),("table",tv),("killers",kv),("history",hv),("qdepth",.int calm),("is_exact",.bool true),("max_nodes",.int most),("nodes",.int 0),("made",.int 0),("lines",.ref gl)]
theorem x_cx_init {I:AHeap→AHeap→Prop} (J:Inv I) {R H:AHeap} (hI:I R H) {a:Nat} (ha:H a=none) {g:Nat} {tv kv hv:AV} (t1:tv≠.undef) (t2:kv≠.undef) (t3:hv≠.undef) {calm most:Int} {n:Nat} {Q X:EQ}
  (h:∀ R' H' gl l0,I R' H'→Sub R R'→R a=none→R gl=none→R l0=none→a≠gl→a≠l0→gl≠l0→R' a=some (.obj 137 (cxFs g tv kv hv calm most gl))→R' gl=some (.list (refs [l0]))→R' l0=some (.list (intsL []))→Q .none H') :
  FW tT (n+1) false 127 [.ref a,.ref g,tv,kv,hv,.int calm,.bool true,.int most] (upd H a (.obj 137 [])) Q X:=by
 refine⟨rfl,?_⟩
 show vSs tT (FW tT n) ir_SearchContext_init false [.ref a,.ref g,tv,kv,hv,.int calm,.bool true,.int most] _ _ _
 unfold ir_SearchContext_init
 have ra:=J.none hI ha
 have hm:∀ (v:AV),v≠.undef→∀ (K:AV→Prop) (H:AHeap) (X:EQ),vE tT false (FW tT n false) (.loc 0) [v] H (fun v _=>K v) X=K v:=fun v hv K H X=>by
  cases v <;> first | exact absurd rfl hv | simp only [vE,lget_0]
 have m1:=hm tv t1;have m2:=hm kv t2;have m3:=hm hv t3
 simp only [vE,lget_0,forall_const] at m1 m2 m3
 have g1:fset [] "game" (AV.ref g)=[("game",.ref g)]:=rfl
 have g2:fset [("game",AV.ref g)] "table" tv=[("game",.ref g),("table",tv)]:=rfl
 have g3:fset [("game",AV.ref g),("table",tv)] "killers" kv=[("game",.ref g),("table",tv),("killers",kv)]:=rfl
 have g4:fset [("game",AV.ref g),("table",tv),("killers",kv)] "history" hv=[("game",.ref g),("table",tv),("killers",kv),("history",hv)]:=rfl
 have g5:fset [("game",AV.ref g),("table",tv),("killers",kv),("history",hv)] "qdepth" (.int calm)=[("game",.ref g),("table",tv),("killers",kv),("history",hv),("qdepth",.int calm)]:=rfl
 have g6:fset [("game",AV.ref g),("table",tv),("killers",kv),("history",hv),("qdepth",.int calm)] "is_exact" (.bool true)=[("game",.ref g),("table",tv),("killers",kv),("history",hv),("qdepth",.int calm),("is_exact",.bool true)]:=rfl
 have g7:fset [("game",AV.ref g),("table",tv),("killers",kv),("history",hv),("qdepth",.int calm),("is_exact",.bool true)] "max_nodes" (.int most)=[("game",.ref g),("table",tv),("killers",kv),("history",hv),("qdepth",.int calm),("is_exact",.bool true),("max_nodes",.int most)]:=rfl
 have g8:fset [("game",AV.ref g),("table",tv),("killers",kv),("history",hv),("qdepth",.int calm),("is_exact",.bool true),("max_nodes",.int most)] "nodes" (.int 0)=[("game",.ref g),("table",tv),("killers",kv),("history",hv),("qdepth",.int calm),("is_exact",.bool true),("max_nodes",.int most),("nodes",.int 0)]:=rfl
 have g9:fset [("game",AV.ref g),("table",tv),("killers",kv),("history",hv),("qdepth",.int calm),("is_exact",.bool true),("max_nodes",.int most),("nodes",.int 0)] "made" (.int 0)=[("game",.ref g),("table",tv),("killers",kv),("history",hv),("qdepth",.int calm),("is_exact",.bool true),("max_nodes",.int most),("nodes",.int 0),("made",.int 0)]:=rfl
 simp only [vSs,vS,vE,vEs,LG,m1,m2,m3,osu (C:=137) [] (n:="game") rfl (by simp),g1,osu (C:=137) [("game",AV.ref g)] (n:="table") rfl (by simp),g2,osu (C:=137) [("game",AV.ref g),("table",tv)] (n:="killers") rfl (by simp),g3,osu (C:=137) [("game",AV.ref g),("table",tv),("killers",kv)] (n:="history") rfl (by simp),g4,
  osu (C:=137) [("game",AV.ref g),("table",tv),("killers",kv),("history",hv)] (n:="qdepth") rfl (by simp),g5,osu (C:=137) [("game",AV.ref g),("table",tv),("killers",kv),("history",hv),("qdepth",.int calm)] (n:="is_exact") rfl (by simp),g6,
  osu (C:=137) [("game",AV.ref g),("table",tv),("killers",kv),("history",hv),("qdepth",.int calm),("is_exact",.bool true)] (n:="max_nodes") rfl (by simp),g7,osu (C:=137) [("game",AV.ref g),("table",tv),("killers",kv),("history",hv),("qdepth",.int calm),("is_exact",.bool true),("max_nodes",.int most)] (n:="nodes") rfl (by simp),g8,
  osu (C:=137) [("game",AV.ref g),("table",tv),("killers",kv),("history",hv),("qdepth",.int calm),("is_exact",.bool true),("max_nodes",.int most),("nodes",.int 0)] (n:="made") rfl (by simp),g9]
 intro l0 hl0
 have I1:=J.put _ _ a (.obj 137 [("game",AV.ref g),("table",tv),("killers",kv),("history",hv),("qdepth",.int calm),("is_exact",.bool true),("max_nodes",.int most),("nodes",.int 0),("made",.int 0)]) hI (.inr ha)
 have n0:=J.none I1 hl0
 have r0:=none_upd n0
 have I2:=J.put _ _ l0 (.list []) I1 (.inr hl0)
 intro gl hgl
 have ng:=J.none I2 hgl
 have rg:=none_upd ng
 have rg2:=none_upd rg.2
 have I3:=J.put _ _ gl (.list [.ref l0]) I2 (.inr hgl)
 have ea:∀ H:AHeap,upd (upd (upd H a (.obj 137 [("game",AV.ref g),("table",tv),("killers",kv),("history",hv),("qdepth",.int calm),("is_exact",.bool true),("max_nodes",.int most),("nodes",.int 0),("made",.int 0)])) l0 (.list [])) gl (.list [.ref l0]) a=some (.obj 137 [("game",AV.ref g),("table",tv),("killers",kv),("history",hv),("qdepth",.int calm),("is_exact",.bool true),("max_nodes",.int most),("nodes",.int 0),("made",.int 0)]):=fun _=>upd_some (upd_some upd_eq r0.1.symm) rg2.1.symm
 have g10:fset [("game",AV.ref g),("table",tv),("killers",kv),("history",hv),("qdepth",.int calm),("is_exact",.bool true),("max_nodes",.int most),("nodes",.int 0),("made",.int 0)] "lines" (.ref gl)=cxFs g tv kv hv calm most gl:=rfl
 rw [a_set (ea H) rfl (by simp),g10]
 have I4:=J.put _ _ a (.obj 137 (cxFs g tv kv hv calm most gl)) I3 (.inl (by rw [ea R];simp))
 exact h _ _ gl l0 I4 (sub_put ((Sub.new ra).trans ((Sub.new n0).trans (Sub.new ng))) ra) ra rg2.2 r0.2 rg2.1.symm r0.1.symm rg.1 upd_eq (upd_some upd_eq rg2.1) (upd_some (upd_some upd_eq rg.1.symm) r0.1)
end Bn
namespace Bn
open Bm
structure NL (R R':AHeap) (l:List Nat):Prop where
 nd:l.Nodup
 new:∀ b∈l,R b=none∧R' b≠none
theorem NL.mono {R R' R'' l} (h:NL R R' l) (s:Sub R' R''):NL R R'' l:=⟨h.nd,fun b m=>⟨(h.new b m).1,fun e=>by
 cases q:R' b with
 | none=>exact(h.new b m).2 q
 | some o=>rw [s _ _ q] at e;cases e⟩⟩
theorem NL.app {R0 R R':AHeap} {l m:List Nat} (h:NL R0 R l) (s0:Sub R0 R) (k:NL R R' m) (s:Sub R R'):NL R0 R' (m++l):=by
 refine⟨List.nodup_append.2 ⟨k.nd,h.nd,fun a ha b hb e=>(h.new b hb).2 (by rw [← e];exact(k.new a ha).1)⟩,fun b hb=>?_⟩
 rcases List.mem_append.1 hb with hb | hb
 ·exact⟨sub_none s0 (k.new b hb).1,(k.new b hb).2⟩
 ·exact(h.mono s).new b hb
theorem pick_inj {l:List Nat} (h:l.Nodup) {i j:Nat} (hi:i < l.length) (hj:j < l.length) (e:l.getD i 0=l.getD j 0):i=j:=by
 have a1:l.getD i 0=l[i]:=by simp [List.getD,hi]
 have a2:l.getD j 0=l[j]:=by simp [List.getD,hj]
 rw [a1,a2] at e
 exact(List.getElem_inj h).1 e
theorem nd_pick {l:List Nat} (h:l.Nodup):∀ {is:List Nat},is.Nodup→(∀ i∈is,i < l.length)→(is.map fun i=>l.getD i 0).Nodup
 | [],_,_=>by simp
 | i::is,hi,hb=>by
  rw [List.nodup_cons] at hi
  simp only [List.map_cons,List.nodup_cons]
  refine⟨fun m=>?_,nd_pick h hi.2 fun j hj=>hb j (by simp [hj])⟩
  obtain⟨j,hj,e⟩:=List.mem_map.1 m
  have:=pick_inj h (hb j (by simp [hj])) (hb i (by simp)) e
  exact hi.1 (by rw [← this];exact hj)
theorem pick_mem {l:List Nat} {i:Nat} (h:i < l.length):l.getD i 0∈l:=by
 have:l.getD i 0=l[i]:=by simp [List.getD,h]
 rw [this];exact List.getElem_mem h
theorem NL.pick {R R' l} (h:NL R R' l) {is:List Nat} (hi:is.Nodup) (hb:∀ i∈is,i < l.length):NL R R' (is.map fun i=>l.getD i 0) :=
 ⟨nd_pick h.nd hi hb,fun b m=>by
  obtain⟨i,i1,rfl⟩:=List.mem_map.1 m
  exact h.new _ (pick_mem (hb i i1))⟩
def sg0 (f:Cf):Sg:=⟨[0],(match f.tab with | some (cl,w)=>List.replicate (cl*w) 0 | none=>[]),[0,0,0],[0,0,0],[],0,0,[[]]⟩
def St (l is:List Nat) (a:Nat):Prop:=∃ i,i < l.length∧l.getD i 0=a∧i∉is
theorem mkSR {A:Ad} {f:Cf} {G:Gm} {R R' H':AHeap} {l is:List Nat} (hL:LawI A.chR G.kids A.noR G.noi A.gaR G.gai R' H') (hs:Sub R R') (N:NL R R' l) (hi:is.Nodup) (hb:∀ i∈is,i < l.length) (hch:A.chg=is.map fun i=>l.getD i 0)
  (game:R' A.g=some (.obj 686 (gameFs A))∧St l is A.g) (ch:R' A.ch=some (.list (refs A.chR))∧St l is A.ch) (va:R' A.va=some (.list (intsL G.vals))∧St l is A.va) (ck:R' A.ck=some (.list (boolsL G.chk))∧St l is A.ck) (dr:R' A.dr=some (.list (boolsL G.drw))∧St l is A.dr) (no:R' A.no=some (.list (refs A.noR))∧St l is A.no) (ga:R' A.ga=some (.list (refs A.gaR))∧St l is A.ga)
  (tab:∀ cl w,f.tab=some (cl,w)→R' A.t=some (.obj 284 (tabFs A cl w 0))∧St l is A.t) (kil:f.kh=true→R' A.kl=some (.obj 389 [("plies",.int 3),("first",.ref A.k1),("second",.ref A.k2)])∧St l is A.kl) (his:f.kh=true→R' A.hs=some (.obj 347 [("limit",.int 400),("scores",.ref A.hd)])∧St l is A.hs)
  (ctx:R' A.c=some (.obj 137 (ctxFs A f (sg0 f)))) (path:R' A.gp=some (.list (nats [0]))) (lines:∃ l0,R' A.gl=some (.list (refs [l0]))∧R' l0=some (.list (intsL []))∧St l is l0) (slots:f.tab.isSome=true→R' A.ts=some (.list (intsL (sg0 f).slots)))
  (first:f.kh=true→R' A.k1=some (.list (intsL [0,0,0]))) (second:f.kh=true→R' A.k2=some (.list (intsL [0,0,0]))) (scores:f.kh=true→R' A.hd=some (.idict [])):SR A f G 0 (sg0 f) R H':=by
 have F:∀ {a o},R' a=some o∧St l is a→H' a=some o∧Fo A R a:=fun {a o} ⟨h1,i,i1,i2,i3⟩=>by
  refine⟨hL.sub _ _ h1,fun m=>?_,?_⟩
  ·rw [hch] at m
   obtain⟨j,j1,j2⟩:=List.mem_map.1 m
   have:=pick_inj N.nd (hb j j1) i1 (j2.trans i2.symm)
   exact i3 (by rw [← this];exact j1)
  ·rw [← i2];exact(N.new _ (pick_mem i1)).1
 have chg:∀ a∈A.chg,R a=none∧R' a≠none:=fun a m=>by
  rw [hch] at m
  obtain⟨j,j1,rfl⟩:=List.mem_map.1 m
  exact N.new _ (pick_mem (hb j j1))
 have rw':∀ b q,H' b=some q→R' b=none→H' b=some q∧Fo A R b:=fun b q h1 h2=>⟨h1,fun m=>(chg b m).2 h2,sub_none hs h2⟩
 refine⟨⟨F game,F ch,F va,F ck,F dr,F no,F ga,hL.ch.mono rw',hL.no.mono rw',hL.ga.mono rw',fun cl w e=>F (tab cl w e),fun e=>F (kil e),fun e=>F (his e)⟩,
  ⟨hL.sub _ _ ctx,hL.sub _ _ path,?_,fun e=>hL.sub _ _ (slots e),fun e=>hL.sub _ _ (first e),fun e=>hL.sub _ _ (second e),fun e=>hL.sub _ _ (scores e)⟩,by rw [hch];exact nd_pick N.nd hi hb,fun a m=>⟨fun e=>?_,(chg a m).1⟩,hs.trans hL.sub⟩
 ·obtain⟨l0,q1,q2,q3⟩:=lines
  have:=F ⟨q2,q3⟩
  exact⟨[l0],hL.sub _ _ q1,this.1,this.2,trivial⟩
 ·cases q:R' a with
  | none=>exact(chg a m).2 q
  | some o=>rw [hL.sub _ _ q] at e;cases e
theorem col_in {n:Nat} {pl fi:Nat} (hf:fi < 6) {all:List AV} {ρ:List AV}:∀ (ts:List Nat) (rows:List (List AV)) (acc:List AV) (H:AHeap) (K:List AV→AHeap→Prop),H pl=some (.list all)→TupsV H ts rows→(∀ r∈rows,r.length=6)→K (acc++rows.map (lget · fi)) H →
  compL (.lst pl all) (fun v H K=>vE tT false (FW tT n false) (.idx (.loc 0) (.loc 1)) (v::.int fi::ρ) H K (fun _ _=>False)) (refs ts) acc H K
 | [],[],acc,H,K,hp,ht,hr,h=>by simpa [refs,compL] using h
 | t::ts,r::rows,acc,H,K,hp,⟨h1,h2⟩,hr,h=>by
  have e0:refs (t::ts)=AV.ref t::refs ts:=rfl
  rw [e0,compL]
  simp only [vE,LG,i_tup (v:=lget r fi) h1 (place_nat (i:=(fi:Int)) (k:=fi) (by rw [hr r (by simp)];exact hf) rfl) rfl]
  refine⟨hp,?_⟩
  have:=col_in (n:=n) (ρ:=ρ) hf ts rows (acc++[lget r fi]) H K hp h2 (fun q hq=>hr q (by simp [hq])) (by simpa using h)
  simpa only [vE,LG] using this
 | [],_::_,_,_,_,_,h,_,_=>h.elim
 | _::_,[],_,_,_,_,h,_,_=>h.elim
theorem prows_six:∀ {ks:List Nat} {vs:List Int} {cs ds:List Bool} {ns gs:List Nat},∀ r∈prows ks vs cs ds ns gs,r.length=6
 | k::ks,v::vs,c::cs,d::ds,n::ns,g::gs,r,h=>by
  simp only [prows,List.mem_cons] at h
  rcases h with h | h
  ·rw [h];rfl
  ·exact prows_six r h
 | [],_,_,_,_,_,r,h=>by simp [prows] at h
 | _::_,[],_,_,_,_,r,h=>by simp [prows] at h
 | _::_,_::_,[],_,_,_,r,h=>by simp [prows] at h
 | _::_,_::_,_::_,[],_,_,r,h=>by simp [prows] at h
 | _::_,_::_,_::_,_::_,[],_,r,h=>by simp [prows] at h
 | _::_,_::_,_::_,_::_,_::_,[],r,h=>by simp [prows] at h
def gmFs (c0 c1 c2 c3 c4 c5 gp:Nat):List (String×AV):=[("children",.ref c0),("values",.ref c1),("checks",.ref c2),("draws",.ref c3),("noisy_rows",.ref c4),("gain_rows",.ref c5),("path",.ref gp)]
theorem x_tg_init {I:AHeap→AHeap→Prop} (J:Inv I) {R H:AHeap} (hI:I R H) {a:Nat} (ha:H a=none) {c0 c1 c2 c3 c4 c5:Nat} {n:Nat} {Q X:EQ}
  (h:∀ R' H' gp,I R' H'→Sub R R'→NL R R' [a,gp]→R' a=some (.obj 686 (gmFs c0 c1 c2 c3 c4 c5 gp))→R' gp=some (.list (nats [0]))→Q .none H') :
  FW tT (n+1) false 608 [.ref a,.ref c0,.ref c1,.ref c2,.ref c3,.ref c4,.ref c5] (upd H a (.obj 686 [])) Q X:=by
 refine⟨rfl,?_⟩
 show vSs tT (FW tT n) ir_TreeGame_init false [.ref a,.ref c0,.ref c1,.ref c2,.ref c3,.ref c4,.ref c5] _ _ _
 unfold ir_TreeGame_init
 have ra:=J.none hI ha
 have g1:fset [] "children" (AV.ref c0)=[("children",.ref c0)]:=rfl
 have g2:fset [("children",AV.ref c0)] "values" (.ref c1)=[("children",.ref c0),("values",.ref c1)]:=rfl
 have g3:fset [("children",AV.ref c0),("values",.ref c1)] "checks" (.ref c2)=[("children",.ref c0),("values",.ref c1),("checks",.ref c2)]:=rfl
 have g4:fset [("children",AV.ref c0),("values",.ref c1),("checks",.ref c2)] "draws" (.ref c3)=[("children",.ref c0),("values",.ref c1),("checks",.ref c2),("draws",.ref c3)]:=rfl
 have g5:fset [("children",AV.ref c0),("values",.ref c1),("checks",.ref c2),("draws",.ref c3)] "noisy_rows" (.ref c4)=[("children",.ref c0),("values",.ref c1),("checks",.ref c2),("draws",.ref c3),("noisy_rows",.ref c4)]:=rfl
 have g6:fset [("children",AV.ref c0),("values",.ref c1),("checks",.ref c2),("draws",.ref c3),("noisy_rows",.ref c4)] "gain_rows" (.ref c5)=[("children",.ref c0),("values",.ref c1),("checks",.ref c2),("draws",.ref c3),("noisy_rows",.ref c4),("gain_rows",.ref c5)]:=rfl
 simp only [vSs,vS,vE,vEs,LG,osu (C:=686) [] (n:="children") rfl (by simp),g1,osu (C:=686) [("children",AV.ref c0)] (n:="values") rfl (by simp),g2,osu (C:=686) [("children",AV.ref c0),("values",.ref c1)] (n:="checks") rfl (by simp),g3,
  osu (C:=686) [("children",AV.ref c0),("values",.ref c1),("checks",.ref c2)] (n:="draws") rfl (by simp),g4,osu (C:=686) [("children",AV.ref c0),("values",.ref c1),("checks",.ref c2),("draws",.ref c3)] (n:="noisy_rows") rfl (by simp),g5,
  osu (C:=686) [("children",AV.ref c0),("values",.ref c1),("checks",.ref c2),("draws",.ref c3),("noisy_rows",.ref c4)] (n:="gain_rows") rfl (by simp),g6]
 intro gp hgp
 have I1:=J.put _ _ a (.obj 686 [("children",AV.ref c0),("values",.ref c1),("checks",.ref c2),("draws",.ref c3),("noisy_rows",.ref c4),("gain_rows",.ref c5)]) hI (.inr ha)
 have n0:=J.none I1 hgp
 have r0:=none_upd n0
 have I2:=J.put _ _ gp (.list [.int 0]) I1 (.inr hgp)
 have ea:∀ H:AHeap,upd (upd H a (.obj 686 [("children",AV.ref c0),("values",.ref c1),("checks",.ref c2),("draws",.ref c3),("noisy_rows",.ref c4),("gain_rows",.ref c5)])) gp (.list [.int 0]) a=some (.obj 686 [("children",AV.ref c0),("values",.ref c1),("checks",.ref c2),("draws",.ref c3),("noisy_rows",.ref c4),("gain_rows",.ref c5)]):=fun _=>upd_some upd_eq r0.1.symm
 have g7:fset [("children",AV.ref c0),("values",.ref c1),("checks",.ref c2),("draws",.ref c3),("noisy_rows",.ref c4),("gain_rows",.ref c5)] "path" (.ref gp)=gmFs c0 c1 c2 c3 c4 c5 gp:=rfl
 rw [a_set (ea H) rfl (by simp),g7]
 have I3:=J.put _ _ a (.obj 686 (gmFs c0 c1 c2 c3 c4 c5 gp)) I2 (.inl (by rw [ea R];simp))
 have f1:upd (upd (upd R a (.obj 686 [("children",AV.ref c0),("values",.ref c1),("checks",.ref c2),("draws",.ref c3),("noisy_rows",.ref c4),("gain_rows",.ref c5)])) gp (.list [.int 0])) a (.obj 686 (gmFs c0 c1 c2 c3 c4 c5 gp)) gp=some (.list (nats [0])):=upd_some upd_eq r0.1
 refine h _ _ gp I3 (((Sub.new ra).trans (Sub.new n0)).put ra) ⟨by simp [r0.1.symm],fun b m=>?_⟩ upd_eq f1
 simp only [List.mem_cons,List.not_mem_nil,or_false] at m
 rcases m with rfl | rfl
 ·exact⟨ra,by rw [upd_eq];simp⟩
 ·exact⟨r0.2,by rw [f1];simp⟩
theorem NL.one {R:AHeap} {a:Nat} {o:AO} (h:R a=none):NL R (upd R a o) [a]:=⟨by simp,fun b m=>by simp at m;subst m;exact⟨h,by rw [upd_eq];simp⟩⟩
theorem NL.nil {R:AHeap}:NL R R []:=⟨by simp,fun b m=>by simp at m⟩
theorem NL.cons {R0 R:AHeap} {l:List Nat} {a:Nat} {o:AO} (h:NL R0 R l) (s:Sub R0 R) (ha:R a=none):NL R0 (upd R a o) (a::l):=h.app s (NL.one ha) (Sub.new ha)
theorem x_game {I:AHeap→AHeap→Prop} (J:Inv I) {R H:AHeap} (hI:I R H) {pl:Nat} {ts ks ns gs:List Nat} {vs:List Int} {cs ds:List Bool} (hp:R pl=some (.list (refs ts))) (hT:TupsV R ts (prows ks vs cs ds ns gs)) (e1:vs.length=ks.length) (e2:cs.length=ks.length) (e3:ds.length=ks.length) (e4:ns.length=ks.length) (e5:gs.length=ks.length) {n:Nat} {Q X:EQ}
  (h:∀ R' H' g gp c0 c1 c2 c3 c4 c5 cl,I R' H'→Sub R R'→NL R R' [g,gp,cl,c5,c4,c3,c2,c1,c0]→R' g=some (.obj 686 (gmFs c0 c1 c2 c3 c4 c5 gp))→R' gp=some (.list (nats [0]))→R' c0=some (.list (refs ks))→R' c1=some (.list (intsL vs))→R' c2=some (.list (boolsL cs))→R' c3=some (.list (boolsL ds))→R' c4=some (.list (refs ns))→R' c5=some (.list (refs gs))→Q (.ref g) H') :
  FW tT (n+2) false 721 [.ref pl] H Q X:=by
 obtain⟨q0,q1,q2,q3,q4,q5⟩:=prows_cols e1 e2 e3 e4 e5
 refine⟨rfl,?_⟩
 show vSs tT (FW tT (n+1)) ir_law_game false [.ref pl,.undef] H _ _
 have col:∀ (fi:Nat) (hf:fi < 6) (R1 H1:AHeap) (K:EQ),I R1 H1→Sub R R1→(∀ c,R1 c=none→I (upd R1 c (.list ((prows ks vs cs ds ns gs).map (lget · fi)))) (upd H1 c (.list ((prows ks vs cs ds ns gs).map (lget · fi))))→K (.ref c) (upd H1 c (.list ((prows ks vs cs ds ns gs).map (lget · fi))))) →
   vE tT false (FW tT (n+1) false) (.comp (.idx (.loc 0) (.loc 1)) (.over (.loc 1))) (.int fi::[.ref pl,.undef]) H1 K (fun _ _=>False):=by
  intro fi hf R1 H1 K I1 s1 hK
  have hp1:=J.sub _ _ I1 _ _ (s1 _ _ hp)
  rw [vE,vT,vE]
  simp only [LG,vOver,hp1]
  refine⟨trivial,col_in hf ts (prows ks vs cs ds ns gs) [] H1 _ hp1 (hT.mono fun t q e=>J.sub _ _ I1 _ _ (s1 _ _ e)) prows_six ?_⟩
  intro c hc
  rw [List.nil_append]
  exact hK c (J.none I1 hc) (J.put _ _ _ _ I1 (.inr hc))
 have er:nats (List.range' 0 6)=[.int (0:Nat),.int (1:Nat),.int (2:Nat),.int (3:Nat),.int (4:Nat),.int (5:Nat)]:=rfl
 rw [show ir_law_game=.cons (.asg 1 (.comp (.comp (.idx (.loc 0) (.loc 1)) (.over (.loc 1))) (.range (.c (.int 0)) (.c (.int 6))))) (.cons (.ret (.new 686 (.cons (.idx (.loc 1) (.c (.int 0))) (.cons (.idx (.loc 1) (.c (.int 1))) (.cons (.idx (.loc 1) (.c (.int 2))) (.cons (.idx (.loc 1) (.c (.int 3))) (.cons (.idx (.loc 1) (.c (.int 4))) (.cons (.idx (.loc 1) (.c (.int 5))) .nil)))))))) .nil) from rfl]
 rw [vSs,vS,vE,vT,vE,vE,r_nat (K:=_) (lo:=0) (hi:=6) (s:=0) (w:=6) rfl rfl (by omega) (by omega),er]
 refine⟨rfl,?_⟩
 rw [compL]
 refine col 0 (by omega) R H _ hI Sub.refl fun c0 r0 I0=>⟨trivial,?_⟩
 rw [q0] at I0 ⊢
 have N0:=(NL.nil (R:=R)).cons (o:=.list (refs ks)) Sub.refl r0
 have s0:Sub R (upd R c0 (.list (refs ks))):=Sub.new r0
 rw [compL]
 refine col 1 (by omega) _ _ _ I0 s0 fun c1 r1 I1=>⟨trivial,?_⟩
 rw [q1] at I1 ⊢
 have N1:=N0.cons (o:=.list (intsL vs)) s0 r1
 have s1:=s0.trans (Sub.new (o:=.list (intsL vs)) r1)
 rw [compL]
 refine col 2 (by omega) _ _ _ I1 s1 fun c2 r2 I2=>⟨trivial,?_⟩
 rw [q2] at I2 ⊢
 have N2:=N1.cons (o:=.list (boolsL cs)) s1 r2
 have s2:=s1.trans (Sub.new (o:=.list (boolsL cs)) r2)
 rw [compL]
 refine col 3 (by omega) _ _ _ I2 s2 fun c3 r3 I3=>⟨trivial,?_⟩
 rw [q3] at I3 ⊢
 have N3:=N2.cons (o:=.list (boolsL ds)) s2 r3
 have s3:=s2.trans (Sub.new (o:=.list (boolsL ds)) r3)
 rw [compL]
 refine col 4 (by omega) _ _ _ I3 s3 fun c4 r4 I4=>⟨trivial,?_⟩
 rw [q4] at I4 ⊢
 have N4:=N3.cons (o:=.list (refs ns)) s3 r4
 have s4:=s3.trans (Sub.new (o:=.list (refs ns)) r4)
 rw [compL]
 refine col 5 (by omega) _ _ _ I4 s4 fun c5 r5 I5=>⟨trivial,?_⟩
 rw [q5] at I5 ⊢
 have N5:=N4.cons (o:=.list (refs gs)) s4 r5
 have s5:=s4.trans (Sub.new (o:=.list (refs gs)) r5)
 rw [compL]
 intro cl hcl
 have r6:=J.none I5 hcl
 have I6:=J.put _ _ cl (.list (refs [c0,c1,c2,c3,c4,c5])) I5 (.inr hcl)
 have N6:=N5.cons (o:=.list (refs [c0,c1,c2,c3,c4,c5])) s5 r6
 have s6:=s5.trans (Sub.new (o:=.list (refs [c0,c1,c2,c3,c4,c5])) r6)
 have hu:upd (upd (upd (upd (upd (upd (upd H c0 (.list (refs ks))) c1 (.list (intsL vs))) c2 (.list (boolsL cs))) c3 (.list (boolsL ds))) c4 (.list (refs ns))) c5 (.list (refs gs))) cl (.list (refs [c0,c1,c2,c3,c4,c5])) cl=some (.list (refs [c0,c1,c2,c3,c4,c5])):=upd_eq
 show vSs tT _ _ _ _ (upd (upd (upd (upd (upd (upd (upd H c0 (.list (refs ks))) c1 (.list (intsL vs))) c2 (.list (boolsL cs))) c3 (.list (boolsL ds))) c4 (.list (refs ns))) c5 (.list (refs gs))) cl (.list (refs [c0,c1,c2,c3,c4,c5]))) _ _
 simp only [vSs,vS,vE,vEs,LS,i_list (v:=.ref c0) hu (i:=0) (k:=0) rfl rfl,i_list (v:=.ref c1) hu (i:=1) (k:=1) rfl rfl,i_list (v:=.ref c2) hu (i:=2) (k:=2) rfl rfl,i_list (v:=.ref c3) hu (i:=3) (k:=3) rfl rfl,i_list (v:=.ref c4) hu (i:=4) (k:=4) rfl rfl,i_list (v:=.ref c5) hu (i:=5) (k:=5) rfl rfl,
  show tT.ini 686=some 608 from rfl]
 intro g hg
 refine x_tg_init (n:=n) J I6 hg fun R7 H7 gp I7 s7 N7 f1 f2=>?_
 have k:∀ {b o},upd (upd (upd (upd (upd (upd (upd R c0 (.list (refs ks))) c1 (.list (intsL vs))) c2 (.list (boolsL cs))) c3 (.list (boolsL ds))) c4 (.list (refs ns))) c5 (.list (refs gs))) cl (.list (refs [c0,c1,c2,c3,c4,c5])) b=some o→R7 b=some o:=fun e=>s7 _ _ e
 have m5:=Sub.new (o:=AO.list (refs [c0,c1,c2,c3,c4,c5])) r6
 have m4:=Sub.new (o:=AO.list (refs gs)) r5
 have m3:=Sub.new (o:=AO.list (refs ns)) r4
 have m2:=Sub.new (o:=AO.list (boolsL ds)) r3
 have m1:=Sub.new (o:=AO.list (boolsL cs)) r2
 have m0:=Sub.new (o:=AO.list (intsL vs)) r1
 exact h R7 H7 g gp c0 c1 c2 c3 c4 c5 cl I7 (s6.trans s7) (N6.app s6 N7 s7) f1 f2 (k (m5 _ _ (m4 _ _ (m3 _ _ (m2 _ _ (m1 _ _ (m0 _ _ upd_eq))))))) (k (m5 _ _ (m4 _ _ (m3 _ _ (m2 _ _ (m1 _ _ upd_eq)))))) (k (m5 _ _ (m4 _ _ (m3 _ _ (m2 _ _ upd_eq))))) (k (m5 _ _ (m4 _ _ (m3 _ _ upd_eq)))) (k (m5 _ _ (m4 _ _ upd_eq))) (k (m5 _ _ upd_eq))
end Bn
namespace Bn
open Bm
def tbl (k:Nat):Option (Nat×Nat):=if k / 2=1 then some (1,1) else if k / 2=2 then some (2,2) else none
def cf (tools:Nat) (calm:Int):Cf:=⟨tbl tools,decide (tools%2=1),calm,0⟩
theorem sg0_ok {G:Gm} {c:Nat} {tools:Nat} {calm:Int}:SOk G c (cf tools calm) (sg0 (cf tools calm)):=by
 refine⟨fun cl w e=>?_,fun _=>⟨rfl,rfl,⟨by simp [sg0],by simp [sg0],by simp [sg0]⟩⟩,by simp [sg0]⟩
 have e':tbl tools=some (cl,w):=e
 have es:(sg0 (cf tools calm)).slots=List.replicate (cl*w) 0:=by
  show(match tbl tools with | some (cl,w)=>List.replicate (cl*w) (0:Int) | none=>[])=_
  rw [e']
 have hcw:(cl=1∧w=1)∨(cl=2∧w=2):=by
  unfold tbl at e'
  split at e'
  ·cases e';exact .inl ⟨rfl,rfl⟩
  ·split at e'
   ·cases e';exact .inr ⟨rfl,rfl⟩
   ·cases e'
 rw [es]
 refine⟨⟨e,by omega,by omega,by omega,by omega,by simp⟩,fun q m=>?_⟩
 have:=List.eq_of_mem_replicate m
 subst this
 exact⟨by omega,fun z=>absurd rfl z⟩
theorem sg0_at {f:Cf}:At (sg0 f) 0 0:=⟨rfl,rfl,⟨rfl,rfl⟩⟩
def ctx_rest:ISs:=match ir_law_context with
 | .cons _ r=>r
 | _=>.nil
theorem ctx_eq:ir_law_context=.cons (.asg 4 (.idx (.list (.cons (.c .none) (.cons (.new 284 (.cons (.c (.int 1)) (.cons (.c (.int 1)) .nil))) (.cons (.new 284 (.cons (.c (.int 2)) (.cons (.c (.int 2)) .nil))) .nil)))) (.bin .fdiv (.loc 1) (.c (.int 2))))) ctx_rest:=rfl
theorem ctx_rest_eq:ctx_rest=.cons (.ite (.cmp .eq (.bin .mod (.loc 1) (.c (.int 2))) (.c (.int 1))) (.cons (.ret (.new 137 (.cons (.call 721 (.cons (.loc 0) .nil)) (.cons (.loc 4) (.cons (.new 389 (.cons (.c (.int 3)) .nil)) (.cons (.new 347 (.cons (.c (.int 400)) .nil)) (.cons (.loc 2) (.cons (.c (.bool true)) (.cons (.loc 3) .nil))))))))) .nil) .nil) (.cons (.ret (.new 137 (.cons (.call 721 (.cons (.loc 0) .nil)) (.cons (.loc 4) (.cons (.c .none) (.cons (.c .none) (.cons (.loc 2) (.cons (.c (.bool true)) (.cons (.loc 3) .nil))))))))) .nil):=rfl
theorem mem3 {R R':AHeap} {a b c:Nat} {oa ob oc:AO} (ha:R a=none) (hb:R b=none) (hc:R c=none) (n1:a≠b) (n2:a≠c) (n3:b≠c) (fa:R' a=some oa) (fb:R' b=some ob) (fc:R' c=some oc):NL R R' [a,b,c] :=
 ⟨by simp [n1,n2,n3],fun x m=>by
  simp only [List.mem_cons,List.not_mem_nil,or_false] at m
  rcases m with rfl | rfl | rfl
  ·exact⟨ha,by rw [fa];simp⟩
  ·exact⟨hb,by rw [fb];simp⟩
  ·exact⟨hc,by rw [fc];simp⟩⟩
theorem mem2 {R R':AHeap} {a b:Nat} {oa ob:AO} (ha:R a=none) (hb:R b=none) (n1:a≠b) (fa:R' a=some oa) (fb:R' b=some ob):NL R R' [a,b] :=
 ⟨by simp [n1],fun x m=>by
  simp only [List.mem_cons,List.not_mem_nil,or_false] at m
  rcases m with rfl | rfl
  ·exact⟨ha,by rw [fa];simp⟩
  ·exact⟨hb,by rw [fb];simp⟩⟩
theorem ctx_leaf (G:Gm) (chR noR gaR ts:List Nat) (pl:Nat) {R:AHeap} (hp:R pl=some (.list (refs ts))) (hT:TupsV R ts (prows chR G.vals G.chk G.drw noR gaR)) (e1:G.vals.length=chR.length) (e2:G.chk.length=chR.length) (e3:G.drw.length=chR.length) (e4:noR.length=chR.length) (e5:gaR.length=chR.length)
  (tools:Nat) (calm most:Int) {n:Nat} {Q X:EQ}
  (h:∀ (A:Ad) H',SR A { cf tools calm with most:=most } G 0 (sg0 (cf tools calm)) R H'→A.chR=chR→A.noR=noR→A.gaR=gaR→Q (.ref A.c) H')
  (t s u rl:Nat) (R1 H1:AHeap) (v4:AV) (hI:LawI chR G.kids noR G.noi gaR G.gai R1 H1) (s1:Sub R R1) (N1:NL R R1 [rl,t,s,u]) (hv:v4=if (tbl tools).isSome then .ref t else .none)
  (hts:∀ cl w,tbl tools=some (cl,w)→R1 t=some (.obj 284 (ttFs cl w s))∧R1 s=some (.list (intsL (List.replicate (cl*w) 0)))) :
  vSs tT (FW tT (n+3)) ctx_rest false [.ref pl,.int tools,.int calm,.int most,v4] H1 (fun fl _ H'=>match fl with | .ret v=>Q v H' | .next=>Q .none H' | _=>False) (fun k _ H'=>X k H'):=by
 have J:=hI.I
 have v4u:v4≠.undef:=by rw [hv];split <;> simp
 have m4:∀ (K:AV→Prop) (H:AHeap) (X:EQ),vE tT false (FW tT n false) (.loc 0) [v4] H (fun v _=>K v) X=K v4:=fun K H X=>by
  cases v4 <;> first | exact absurd rfl v4u | simp only [vE,lget_0]
 simp only [vE,lget_0,forall_const] at m4
 have hT1:=hT.mono (R':=R1) fun t q e=>s1 _ _ e
 rw [ctx_rest_eq]
 simp only [vSs,vS,vE,vEs,LG,b_mod (show(0:Int) < 2 by decide),c_eq,t_bool]
 by_cases odd:tools%2=1
 ·simp only [show((tools:Int)%2=1) by omega,DT]
  refine x_game (n:=n+1) J hI (s1 _ _ hp) hT1 e1 e2 e3 e4 e5 fun R2 H2 g gp c0 c1 c2 c3 c4 c5 cl I2 s2 N2 fg fgp f0 f1 f2 f3 f4 f5=>?_
  simp only [m4,show tT.ini 389=some 365 from rfl,show tT.ini 347=some 316 from rfl,show tT.ini 137=some 127 from rfl]
  intro kl hkl
  refine x_kl_init (n:=n+2) J I2 hkl fun R3 H3 k1 k2 I3 s3 z1 z2 z3 z4 z5 z6 fkl fk1 fk2=>?_
  intro hs hhs
  refine x_hs_init (n:=n+2) J I3 hhs fun R4 H4 hd I4 s4 y1 y2 y3 fhs fhd=>?_
  intro c hc
  refine x_cx_init (n:=n+2) J I4 hc v4u (by simp) (by simp) fun R5 H5 gl l0 I5 s5 x1 x2 x3 x4 x5 x6 fc fgl fl0=>?_
  dsimp only
  have s12:=s1.trans s2
  have s13:=s12.trans s3
  have s14:=s13.trans s4
  have N5:NL R R5 ([c,gl,l0]++([hs,hd]++([kl,k1,k2]++([g,gp,cl,c5,c4,c3,c2,c1,c0]++[rl,t,s,u])))) :=
   (((N1.app s1 N2 s2).app s12 (mem3 z1 z2 z3 z4 z5 z6 fkl fk1 fk2) s3).app s13 (mem2 y1 y2 y3 fhs fhd) s4).app s14 (mem3 x1 x2 x3 x4 x5 x6 fc fgl fl0) s5
  have s45:=s4.trans s5
  have s35:=s3.trans s45
  have s25:=s2.trans s35
  refine h ⟨c,g,gp,gl,t,s,kl,k1,k2,hs,hd,c0,c1,c2,c3,c4,c5,chR,noR,gaR⟩ H5 (mkSR (l:=[c,gl,l0]++([hs,hd]++([kl,k1,k2]++([g,gp,cl,c5,c4,c3,c2,c1,c0]++[rl,t,s,u])))) (is:=[0,9,1,19,6,7,4]) I5 (s14.trans s5) N5 (by decide) (by simp) rfl
   ⟨s35 _ _ fg,8,by simp,rfl,by decide⟩ ⟨s35 _ _ f0,16,by simp,rfl,by decide⟩ ⟨s35 _ _ f1,15,by simp,rfl,by decide⟩ ⟨s35 _ _ f2,14,by simp,rfl,by decide⟩ ⟨s35 _ _ f3,13,by simp,rfl,by decide⟩ ⟨s35 _ _ f4,12,by simp,rfl,by decide⟩ ⟨s35 _ _ f5,11,by simp,rfl,by decide⟩
   (fun cl w e=>⟨s25 _ _ (hts cl w e).1,18,by simp,rfl,by decide⟩) (fun _=>⟨s45 _ _ fkl,5,by simp,rfl,by decide⟩) (fun _=>⟨s5 _ _ fhs,3,by simp,rfl,by decide⟩)
   ?_ (s35 _ _ fgp) ⟨l0,fgl,fl0,2,by simp,rfl,by decide⟩ (fun e=>?_) (fun _=>s45 _ _ fk1) (fun _=>s45 _ _ fk2) (fun _=>s5 _ _ fhd)) rfl rfl rfl
  ·rw [fc]
   have kh:(cf tools calm).kh=true:=by simp [cf,odd]
   show some (AO.obj 137 (cxFs g v4 (.ref kl) (.ref hs) calm most gl))=some (AO.obj 137 [("game",.ref g),("table",if (tbl tools).isSome then AV.ref t else .none),("killers",if (cf tools calm).kh then AV.ref kl else .none),("history",if (cf tools calm).kh then AV.ref hs else .none),("qdepth",.int calm),("is_exact",.bool true),("max_nodes",.int most),("nodes",.int 0),("made",.int 0),("lines",.ref gl)])
   rw [kh,hv];rfl
  ·have e':(tbl tools).isSome=true:=e
   obtain⟨⟨cl',w'⟩,hcw⟩:=Option.isSome_iff_exists.1 e'
   have es:(sg0 { cf tools calm with most:=most }).slots=List.replicate (cl'*w') 0:=by
    show(match tbl tools with | some (cl,w)=>List.replicate (cl*w) (0:Int) | none=>[])=_
    rw [hcw]
   rw [es];exact s25 _ _ (hts cl' w' hcw).2
 ·simp only [show ¬ ((tools:Int)%2=1) by omega,DF]
  have kh:(cf tools calm).kh=false:=by simp [cf,odd]
  refine x_game (n:=n+1) J hI (s1 _ _ hp) hT1 e1 e2 e3 e4 e5 fun R2 H2 g gp c0 c1 c2 c3 c4 c5 cl I2 s2 N2 fg fgp f0 f1 f2 f3 f4 f5=>?_
  simp only [m4,show tT.ini 137=some 127 from rfl]
  intro c hc
  refine x_cx_init (n:=n+2) J I2 hc v4u (by simp) (by simp) fun R5 H5 gl l0 I5 s5 x1 x2 x3 x4 x5 x6 fc fgl fl0=>?_
  dsimp only
  have s12:=s1.trans s2
  have N5:NL R R5 ([c,gl,l0]++([g,gp,cl,c5,c4,c3,c2,c1,c0]++[rl,t,s,u])) :=
   (N1.app s1 N2 s2).app s12 (mem3 x1 x2 x3 x4 x5 x6 fc fgl fl0) s5
  have s25:=s2.trans s5
  refine h ⟨c,g,gp,gl,t,s,0,rl,cl,0,u,c0,c1,c2,c3,c4,c5,chR,noR,gaR⟩ H5 (mkSR (l:=[c,gl,l0]++([g,gp,cl,c5,c4,c3,c2,c1,c0]++[rl,t,s,u])) (is:=[0,4,1,14,12,5,15]) I5 (s12.trans s5) N5 (by decide) (by simp) rfl
   ⟨s5 _ _ fg,3,by simp,rfl,by decide⟩ ⟨s5 _ _ f0,11,by simp,rfl,by decide⟩ ⟨s5 _ _ f1,10,by simp,rfl,by decide⟩ ⟨s5 _ _ f2,9,by simp,rfl,by decide⟩ ⟨s5 _ _ f3,8,by simp,rfl,by decide⟩ ⟨s5 _ _ f4,7,by simp,rfl,by decide⟩ ⟨s5 _ _ f5,6,by simp,rfl,by decide⟩
   (fun cl w e=>⟨s25 _ _ (hts cl w e).1,13,by simp,rfl,by decide⟩) (fun z=>?_) (fun z=>?_)
   ?_ (s5 _ _ fgp) ⟨l0,fgl,fl0,2,by simp,rfl,by decide⟩ (fun e=>?_) (fun z=>?_) (fun z=>?_) (fun z=>?_)) rfl rfl rfl
  ·exact absurd (kh.symm.trans z) (by simp)
  ·exact absurd (kh.symm.trans z) (by simp)
  ·rw [fc]
   show some (AO.obj 137 (cxFs g v4 .none .none calm most gl))=some (AO.obj 137 [("game",.ref g),("table",if (tbl tools).isSome then AV.ref t else .none),("killers",if (cf tools calm).kh then AV.ref 0 else .none),("history",if (cf tools calm).kh then AV.ref 0 else .none),("qdepth",.int calm),("is_exact",.bool true),("max_nodes",.int most),("nodes",.int 0),("made",.int 0),("lines",.ref gl)])
   rw [kh,hv];rfl
  ·have e':(tbl tools).isSome=true:=e
   obtain⟨⟨cl',w'⟩,hcw⟩:=Option.isSome_iff_exists.1 e'
   have es:(sg0 { cf tools calm with most:=most }).slots=List.replicate (cl'*w') 0:=by
    show(match tbl tools with | some (cl,w)=>List.replicate (cl*w) (0:Int) | none=>[])=_
    rw [hcw]
   rw [es];exact s25 _ _ (hts cl' w' hcw).2
  ·exact absurd (kh.symm.trans z) (by simp)
  ·exact absurd (kh.symm.trans z) (by simp)
  ·exact absurd (kh.symm.trans z) (by simp)
theorem x_context (G:Gm) (chR noR gaR ts:List Nat) (pl:Nat) {R H:AHeap} (hI:LawI chR G.kids noR G.noi gaR G.gai R H) (hp:R pl=some (.list (refs ts))) (hT:TupsV R ts (prows chR G.vals G.chk G.drw noR gaR)) (e1:G.vals.length=chR.length) (e2:G.chk.length=chR.length) (e3:G.drw.length=chR.length) (e4:noR.length=chR.length) (e5:gaR.length=chR.length)
  (tools:Nat) (ht:tools < 6) (calm most:Int) {tz:Int} (etz:tz=tools) {n:Nat} {Q X:EQ}
  (h:∀ (A:Ad) H',SR A { cf tools calm with most:=most } G 0 (sg0 (cf tools calm)) R H'→A.chR=chR→A.noR=noR→A.gaR=gaR→Q (.ref A.c) H') :
  FW tT (n+4) false 728 [.ref pl,.int tz,.int calm,.int most] H Q X:=by
 subst etz
 have J:=hI.I
 refine⟨rfl,?_⟩
 show vSs tT (FW tT (n+3)) ir_law_context false [.ref pl,.int tools,.int calm,.int most,.undef] H _ _
 rw [ctx_eq]
 simp only [vSs,vS,vE,vEs,LG,show tT.ini 284=some 246 from rfl]
 intro t1 ht1
 refine x_tt_init (cl:=1) (w:=1) (n:=n+2) J hI ht1 (by omega) (by omega) fun R1 H1 s1 I1 u1 a1 a2 a3 f1 f2=>?_
 intro t2 ht2
 refine x_tt_init (cl:=2) (w:=2) (n:=n+2) J I1 ht2 (by omega) (by omega) fun R2 H2 s2 I2 u2 b1 b2 b3 g1 g2=>?_
 dsimp only
 intro rl hrl
 have r3:=J.none I2 hrl
 have I3:=J.put _ _ rl (.list [.none,.ref t1,.ref t2]) I2 (.inr hrl)
 have u3:=Sub.new (o:=AO.list [.none,.ref t1,.ref t2]) r3
 have N3:NL R (upd R2 rl (.list [.none,.ref t1,.ref t2])) ([rl]++([t2,s2]++[t1,s1])):=((mem2 a1 a2 a3 f1 f2).app u1 (mem2 b1 b2 b3 g1 g2) u2).app (u1.trans u2) (NL.one r3) u3
 have er:upd H2 rl (.list [.none,.ref t1,.ref t2]) rl=some (.list [.none,.ref t1,.ref t2]):=upd_eq
 have u13:=(u1.trans u2).trans u3
 have hdiv:((tools:Int) / 2)=((tools / 2:Nat):Int):=by omega
 simp only [b_fdiv (show(0:Int) < 2 by decide) (show(2:Int) < 1000000000 by decide),hdiv]
 have hcase:tools / 2=0∨tools / 2=1∨tools / 2=2:=by omega
 rcases hcase with hz | hz | hz
 ·have htb:tbl tools=none:=by unfold tbl;rw [hz];rfl
  rw [hz,i_list (v:=.none) er (i:=((0:Nat):Int)) (k:=0) rfl rfl]
  exact ctx_leaf G chR noR gaR ts pl hp hT e1 e2 e3 e4 e5 tools calm most h t1 s1 s2 rl _ _ .none I3 u13 (by have:=N3.pick (is:=[0,3,4,2]) (by decide) (by simp);exact this) (by rw [htb];rfl) (fun cl w e=>by rw [htb] at e;cases e)
 ·have htb:tbl tools=some (1,1):=by unfold tbl;rw [hz];rfl
  rw [hz,i_list (v:=.ref t1) er (i:=((1:Nat):Int)) (k:=1) rfl rfl]
  exact ctx_leaf G chR noR gaR ts pl hp hT e1 e2 e3 e4 e5 tools calm most h t1 s1 s2 rl _ _ (.ref t1) I3 u13 (by have:=N3.pick (is:=[0,3,4,2]) (by decide) (by simp);exact this) (by rw [htb];rfl) (fun cl w e=>by rw [htb] at e;cases e;exact⟨u3 _ _ (u2 _ _ f1),u3 _ _ (u2 _ _ f2)⟩)
 ·have htb:tbl tools=some (2,2):=by unfold tbl;rw [hz];rfl
  rw [hz,i_list (v:=.ref t2) er (i:=((2:Nat):Int)) (k:=2) rfl rfl]
  exact ctx_leaf G chR noR gaR ts pl hp hT e1 e2 e3 e4 e5 tools calm most h t2 s2 s1 rl _ _ (.ref t2) I3 u13 (by have:=N3.pick (is:=[0,1,2,4]) (by decide) (by simp);exact this) (by rw [htb];rfl) (fun cl w e=>by rw [htb] at e;cases e;exact⟨u3 _ _ g1,u3 _ _ g2⟩)
end Bn
namespace Bn
open Bm
theorem DK.sup {B R R':AHeap} {dk pa:Nat} {t:Int} (D:DK B R dk pa t) (s:Sub R R'):DK B R' dk pa t:=by
 obtain⟨⟨cs,tu,d1,d2,d3,d4⟩,b1,b2,sb⟩:=D
 exact⟨⟨cs,tu,s _ _ d1,s _ _ d2,d3,d4⟩,b1,b2,sb.trans s⟩
def plus (B E:AHeap):AHeap:=fun a=>match B a with
 | some o=>some o
 | none=>E a
theorem plus_l {B E:AHeap}:Sub B (plus B E):=fun a o h=>by unfold plus;rw [h]
theorem plus_r {B R R':AHeap} (s:Sub B R):Sub (mns R' R) (plus B (mns R' R)):=fun a o h=>by
 unfold plus
 have:B a=none:=by
  cases e:B a with
  | none=>rfl
  | some q=>unfold mns at h;rw [s _ _ e] at h;cases h
 rw [this];exact h
theorem DK.plus {B R R':AHeap} {dk pa:Nat} {t:Int} (D:DK B R dk pa t) (s:Sub R R'):DK (Bn.plus B (mns R' R)) R' dk pa t:=by
 obtain⟨⟨cs,tu,d1,d2,d3,d4⟩,b1,b2,sb⟩:=D
 refine⟨⟨cs,tu,s _ _ d1,s _ _ d2,d3,d4⟩,?_,?_,fun a o h=>?_⟩
 ·unfold Bn.plus mns;rw [b1,d1]
 ·unfold Bn.plus mns;rw [b2,d2]
 ·unfold Bn.plus at h
  cases e:B a with
  | none=>rw [e] at h;exact mns_sub _ _ h
  | some q=>rw [e] at h;cases h;exact s _ _ (sb _ _ e)
theorem LawI.grow {chR K noR M gaR Gn R H H'} (h:LawI chR K noR M gaR Gn R H) (s:Sub H H'):LawI chR K noR M gaR Gn R H' :=
 ⟨h.sub.trans s,h.ch.mono fun a o e f=>⟨s _ _ e,f⟩,h.no.mono fun a o e f=>⟨s _ _ e,f⟩,h.ga.mono fun a o e f=>⟨s _ _ e,f⟩⟩
theorem SR.lawI {A f G age σ R H} (S:SR A f G age σ R H):LawI A.chR G.kids A.noR G.noi A.gaR G.gai R H :=
 ⟨S.sub,S.st.chR.mono fun a o e f=>⟨e,f.2⟩,S.st.noR.mono fun a o e f=>⟨e,f.2⟩,S.st.gaR.mono fun a o e f=>⟨e,f.2⟩⟩
theorem PV_of {G:Gm} (O:GOk G) {chR noR gaR ts:List Nat} {pl:Nat} {R H:AHeap} (L:LawI chR G.kids noR G.noi gaR G.gai R H) (hp:R pl=some (.list (refs ts))) (hT:TupsV R ts (prows chR G.vals G.chk G.drw noR gaR)) (l1:chR.length=G.kids.length) (l2:noR.length=G.kids.length) (l3:gaR.length=G.kids.length):PV H pl G:=by
 refine⟨ts,L.sub _ _ hp,?_,fun i hi=>?_⟩
 ·rw [hT.len,prows_len (by rw [O.vals,l1]) (by rw [O.chk,l1]) (by rw [O.drw,l1]) (by rw [l2,l1]) (by rw [l3,l1]),l1]
 ·obtain⟨k,hk⟩:=getSome (l:=G.kids) hi
  obtain⟨v,hv⟩:=getSome (l:=G.vals) (k:=i) (by rw [O.vals];exact hi)
  obtain⟨c,hc⟩:=getSome (l:=G.chk) (k:=i) (by rw [O.chk];exact hi)
  obtain⟨d,hd⟩:=getSome (l:=G.drw) (k:=i) (by rw [O.drw];exact hi)
  obtain⟨nr,hnr⟩:=getSome (l:=G.noi) (k:=i) (by rw [O.noi];exact hi)
  obtain⟨ka,hka⟩:=getSome (l:=chR) (k:=i) (by rw [l1];exact hi)
  obtain⟨na,hna⟩:=getSome (l:=noR) (k:=i) (by rw [l2];exact hi)
  obtain⟨ga,hga⟩:=getSome (l:=gaR) (k:=i) (by rw [l3];exact hi)
  obtain⟨t,t1,t2⟩:=hT.at (prows_at hka hv hc hd hna hga)
  obtain⟨a1,a2,a3,_⟩:=L.ch.at i (nats k) (by simp [hk])
  obtain⟨b1,b2,b3,_⟩:=L.no.at i (boolsL nr) (by simp [hnr])
  rw [hka] at a2;cases a2
  rw [hna] at b2;cases b2
  have ek:G.kid i=k:=by unfold Gm.kid;rw [hk];rfl
  refine⟨t,ka,na,ga,nr,t1,?_,by rw [ek];exact a3,b3,by rw [ek];exact O.noiR i nr k hnr hk,fun j=>by unfold Gm.no;rw [hnr];rfl⟩
  have e1:G.val i=v:=by unfold Gm.val;rw [hv];rfl
  have e2:G.ck i=c:=by unfold Gm.ck;rw [hc];rfl
  have e3:G.dr i=d:=by unfold Gm.dr;rw [hd];rfl
  rw [e1,e2,e3];exact L.sub _ _ t2
theorem eq_rep {H:AHeap}:∀ {as bs:List Nat} {xs:List Rp},TRs H as xs→TRs H bs xs→eqL (eqA 3 H) (refs as) (refs bs)=some true
 | [],[],[],_,_=>rfl
 | a::as,b::bs,x::xs,⟨⟨l,h1,h2⟩,h3⟩,⟨⟨k,g1,g2⟩,g3⟩=>by
  have ih:=eq_rep h3 g3
  have e0:refs (a::as)=AV.ref a::refs as:=rfl
  have e1:refs (b::bs)=AV.ref b::refs bs:=rfl
  have er:eqA 2 H (.ref l) (.ref k)=some true:=by
   unfold eqA;simp only [h2,g2];exact eqL_ints
  have ea:eqA 3 H (.ref a) (.ref b)=some true:=by
   unfold eqA;simp only [h1,g1]
   simp only [eqL,er]
   simp [eqA]
  rw [e0,e1]
  simp only [eqL,ea,ih]
  rfl
 | [],_::_,[],_,h=>h.elim
 | [],_,_::_,h,_=>h.elim
 | _::_,_,[],h,_=>h.elim
 | _::_,[],_::_,_,h=>h.elim
def TPs (H:AHeap):List Nat→List (Int×Int)→Prop
 | [],[]=>True
 | t::ts,x::xs=>H t=some (.tup [.int x.1,.int x.2])∧TPs H ts xs
 | _,_=>False
theorem TPs.mono {H H':AHeap} (s:Sub H H'):∀ {ts xs},TPs H ts xs→TPs H' ts xs
 | [],[],_=>trivial
 | t::ts,x::xs,⟨h1,h2⟩=>⟨s _ _ h1,TPs.mono s h2⟩
 | [],_::_,h=>h.elim
 | _::_,[],h=>h.elim
theorem TPs.snoc {H:AHeap}:∀ {ts xs},TPs H ts xs→∀ {t:Nat} {x:Int×Int},H t=some (.tup [.int x.1,.int x.2])→TPs H (ts++[t]) (xs++[x])
 | [],[],_,t,x,h=>⟨h,trivial⟩
 | t::ts,x::xs,⟨h1,h2⟩,_,_,h=>⟨h1,TPs.snoc h2 h⟩
 | [],_::_,h,_,_,_=>h.elim
 | _::_,[],h,_,_,_=>h.elim
theorem eq_tps {H:AHeap}:∀ {as bs:List Nat} {xs:List (Int×Int)},TPs H as xs→TPs H bs xs→eqL (eqA 3 H) (refs as) (refs bs)=some true
 | [],[],[],_,_=>rfl
 | a::as,b::bs,x::xs,⟨h1,h3⟩,⟨g1,g3⟩=>by
  have ih:=eq_tps h3 g3
  have e0:refs (a::as)=AV.ref a::refs as:=rfl
  have e1:refs (b::bs)=AV.ref b::refs bs:=rfl
  have ea:eqA 3 H (.ref a) (.ref b)=some true:=by
   unfold eqA;simp only [h1,g1]
   simp [eqL,eqA]
  rw [e0,e1]
  simp only [eqL,ea,ih]
  rfl
 | [],_::_,[],_,h=>h.elim
 | [],_,_::_,h,_=>h.elim
 | _::_,_,[],h,_=>h.elim
 | _::_,[],_::_,_,h=>h.elim
theorem c_ne_l {H:AHeap} {a b:Nat} {as bs:List AV} {Q:Bool→Prop} (ha:H a=some (.list as)) (hb:H b=some (.list bs)) (he:eqL (eqA 3 H) as bs=some true):vCmp .ne (.ref a) (.ref b) H Q=Q false:=by
 have:eqA 4 H (.ref a) (.ref b)=some true:=by
  unfold eqA;simp only [ha,hb];exact he
 unfold vCmp;simp only [this];rfl
def pairElt:IE:=.tup (.cons (.idx (.loc 0) (.c (.int 0))) (.cons (.idx (.loc 0) (.c (.int 1))) .nil))
theorem pair_comp1 {n w:Nat} {all ρ:List AV} {H0:AHeap} (hw:H0 w=some (.list all)) {K:List AV→AHeap→Prop}:∀ (as:List Nat) (todo:List Rp) (H:AHeap) (ts:List Nat) (done:List (Int×Int)),Sub H0 H→TRs H0 as todo→TPs H ts done →
  (∀ H' ts',Sub H0 H'→TPs H' ts' (done++todo.map fun x=>((x.d:Int),x.v))→K (refs ts') H') →
  compL (.lst w all) (fun v H K=>vE tT false (FW tT n false) pairElt (v::ρ) H K (fun _ _=>False)) (refs as) (refs ts) H K
 | [],[],H,ts,done,s,ht,hd,h=>by rw [List.map_nil,List.append_nil] at h;exact h H ts s hd
 | a::as,x::todo,H,ts,done,s,⟨⟨l,h1,h2⟩,h3⟩,hd,h=>by
  have e0:refs (a::as)=AV.ref a::refs as:=rfl
  have h1':=s _ _ h1
  rw [e0,compL]
  show vE tT false (FW tT n false) pairElt (.ref a::ρ) H _ _
  unfold pairElt
  simp only [vE,vEs,lget_0,i_tup (v:=.int x.d) h1' (i:=0) (k:=0) rfl rfl,i_tup (v:=.int x.v) h1' (i:=1) (k:=1) rfl rfl]
  intro t ht0
  have sn:=Sub.new (o:=AO.tup [.int x.d,.int x.v]) ht0
  refine⟨(s.trans sn) _ _ hw,?_⟩
  rw [refs_snoc]
  have:=pair_comp1 (n:=n) (ρ:=ρ) hw (K:=K) as todo _ (ts++[t]) (done++[((x.d:Int),x.v)]) (s.trans sn) h3 ((hd.mono sn).snoc upd_eq) (by simpa only [List.map_cons,List.append_assoc,List.singleton_append] using h)
  unfold pairElt at this
  simpa only [vE,vEs,lget_0] using this
 | [],_::_,_,_,_,_,h,_,_=>h.elim
 | _::_,[],_,_,_,_,h,_,_=>h.elim
def pairElt2:IE:=.tup (.cons (.bin .add (.loc 0) (.c (.int 1))) (.cons (.idx (.loc 8) (.loc 0)) .nil))
theorem pair_comp2 {n va:Nat} {l:List Int} {a1 a2 a3 a4 a5 a6 a7:AV} {ρ:List AV} {H0:AHeap} (hv:H0 va=some (.list (intsL l))) {K:List AV→AHeap→Prop}:∀ (w s:Nat) (H:AHeap) (ts:List Nat) (done:List (Int×Int)),s+w≤l.length→Sub H0 H→TPs H ts done →
  (∀ H' ts',Sub H0 H'→Sub H H'→TPs H' ts' (done++(List.range' s w).map fun(i:Nat)=>((i:Int)+1,(l[i]?).getD 0))→K (refs ts') H') →
  compL .rng (fun v H K=>vE tT false (FW tT n false) pairElt2 (v::a1::a2::a3::a4::a5::a6::a7::.ref va::ρ) H K (fun _ _=>False)) (nats (List.range' s w)) (refs ts) H K
 | 0,s,H,ts,done,hl,sb,hd,h=>by
  refine h H ts sb Sub.refl ?_
  simpa using hd
 | w+1,s,H,ts,done,hl,sb,hd,h=>by
  obtain⟨x,hx⟩:=getSome (l:=l) (k:=s) (by omega)
  rw [List.range'_succ,nats_cons,compL]
  show vE tT false (FW tT n false) pairElt2 (.int s::a1::a2::a3::a4::a5::a6::a7::.ref va::ρ) H _ _
  unfold pairElt2
  simp only [vE,vEs,LG,b_add,ints_at (sb _ _ hv) hx]
  intro t ht0
  have sn:=Sub.new (o:=AO.tup [.int ((s:Int)+1),.int x]) ht0
  refine⟨trivial,?_⟩
  rw [refs_snoc]
  have:=pair_comp2 (n:=n) (a1:=a1) (a2:=a2) (a3:=a3) (a4:=a4) (a5:=a5) (a6:=a6) (a7:=a7) (ρ:=ρ) hv (K:=K) w (s+1) _ (ts++[t]) (done++[((s:Int)+1,x)]) (by omega) (sb.trans sn) ((hd.mono sn).snoc upd_eq) (fun H' ts' q1 q2 q3=>h H' ts' q1 (sn.trans q2) (by
   rw [List.range'_succ,List.map_cons,hx]
   simpa only [List.append_assoc,List.singleton_append,Option.getD_some] using q3))
  unfold pairElt2 at this
  simpa only [vE,vEs,LG] using this
theorem told_comp {n w:Nat} {all:List AV} {a1 a2 a3 a4 a5 a6 a7 a8 a9 a10 a11:AV} {ρ:List AV} {most:Int} {H:AHeap} (hw:H w=some (.list all)) {K:List AV→AHeap→Prop}:∀ (as:List Nat) (todo:List Rp) (ts:List Nat) (done:List Rp),TRs H as todo→TRs H ts done →
  (∀ ts',TRs H ts' (done++todo.filter fun x=>decide (x.n≤most))→K (refs ts') H) →
  compIfL (.lst w all) (fun v H K=>vE tT false (FW tT n false) (.cmp .le (.idx (.loc 0) (.c (.int 3))) (.loc 12)) (v::a1::a2::a3::a4::a5::a6::a7::a8::a9::a10::a11::.int most::ρ) H (fun x H=>truthy x H fun b=>K b H) (fun _ _=>False))
   (fun v H K=>vE tT false (FW tT n false) (.loc 0) (v::a1::a2::a3::a4::a5::a6::a7::a8::a9::a10::a11::.int most::ρ) H K (fun _ _=>False)) (refs as) (refs ts) H K
 | [],[],ts,done,ht,hd,h=>by
  have:=h ts (by simpa using hd)
  simpa [refs,compIfL] using this
 | a::as,x::todo,ts,done,⟨⟨l,h1,h2⟩,h3⟩,hd,h=>by
  have e0:refs (a::as)=AV.ref a::refs as:=rfl
  rw [e0,compIfL]
  simp only [vE,LG,i_tup (v:=.int x.n) h1 (i:=3) (k:=3) rfl rfl,c_le,t_bool,decide_eq_true_eq]
  by_cases c:x.n≤most
  ·rw [if_pos c]
   refine⟨hw,?_⟩
   rw [refs_snoc]
   have:=told_comp (n:=n) (a1:=a1) (a2:=a2) (a3:=a3) (a4:=a4) (a5:=a5) (a6:=a6) (a7:=a7) (a8:=a8) (a9:=a9) (a10:=a10) (a11:=a11) (ρ:=ρ) (most:=most) hw (K:=K) as todo (ts++[a]) (done++[x]) h3 (hd.snoc ⟨l,h1,h2⟩) (fun ts' q=>h ts' (by rw [List.filter_cons_of_pos (by simpa using c)];simpa using q))
   simpa only [vE,LG,t_bool] using this
  ·rw [if_neg c]
   refine⟨hw,?_⟩
   have:=told_comp (n:=n) (a1:=a1) (a2:=a2) (a3:=a3) (a4:=a4) (a5:=a5) (a6:=a6) (a7:=a7) (a8:=a8) (a9:=a9) (a10:=a10) (a11:=a11) (ρ:=ρ) (most:=most) hw (K:=K) as todo ts done h3 hd (fun ts' q=>h ts' (by rw [List.filter_cons_of_neg (by simpa using c)];exact q))
   simpa only [vE,LG,t_bool] using this
 | [],_::_,_,_,h,_,_=>h.elim
 | _::_,[],_,_,h,_,_=>h.elim
def fullElt:IE:=.call 709 (.cons (.loc 3) (.cons (.c (.int 0)) (.cons (.c (.int 0)) (.cons (.loc 0) (.cons (.loc 5) .nil)))))
theorem vals_comp (G:Gm) (O:GOk G) (c:Nat) (hc:c≤3) {N pl:Nat} (hN:10≤N) {a1 a2 a4:AV} {ρ:List AV} {H0:AHeap} (V:PV H0 pl G) {K:List AV→AHeap→Prop}:∀ (w s:Nat) (H:AHeap) (acc:List Int),s+w≤4→Sub H0 H →
  (∀ H',Sub H0 H'→K (intsL (acc++(List.range' s w).map fun d=>G.F c d 0 0)) H') →
  compL .rng (fun v H K=>vE tT false (FW tT N false) fullElt (v::a1::a2::.ref pl::a4::.int c::ρ) H K (fun _ _=>False)) (nats (List.range' s w)) (intsL acc) H K
 | 0,s,H,acc,hl,sb,h=>by
  have:=h H sb
  simpa [nats,compL] using this
 | w+1,s,H,acc,hl,sb,h=>by
  rw [List.range'_succ,nats_cons,compL]
  show vE tT false (FW tT N false) fullElt (.int s::a1::a2::.ref pl::a4::.int c::ρ) H _ _
  unfold fullElt
  simp only [vE,vEs,LG]
  refine x_full G O (s+c) s c rfl (by omega) N (by omega) 0 0 H pl _ _ _ _ _ _ (by omega) O.n0 (V.mono sb) rfl rfl rfl rfl fun H' s'=>⟨trivial,?_⟩
  rw [ints_snoc]
  have:=vals_comp G O c hc (N:=N) hN (a1:=a1) (a2:=a2) (a4:=a4) (ρ:=ρ) V (K:=K) w (s+1) H' (acc++[G.F c s 0 0]) (by omega) (sb.trans s') (fun H2 s2=>by
   have:=h H2 s2
   rw [List.range'_succ] at this
   simpa using this)
  unfold fullElt at this
  simpa only [vE,vEs,LG] using this
end Bn
namespace Bn
open Bm
theorem SR.I {A f G age σ R H} (S:SR A f G age σ R H):Inv (SR A f G age σ):=SR.inv
structure W (G:Gm) (chR noR gaR ts:List Nat) (pl dk pa:Nat) (t:Int) (B R H:AHeap):Prop where
 law:LawI chR G.kids noR G.noi gaR G.gai R H
 dk:DK B R dk pa t
 pl:B pl=some (.list (refs ts))
 tups:TupsV B ts (prows chR G.vals G.chk G.drw noR gaR)
 ok:GOk G
 l1:chR.length=G.kids.length
 l2:noR.length=G.kids.length
 l3:gaR.length=G.kids.length
theorem W.pv {G chR noR gaR ts pl dk pa t B R H} (w:W G chR noR gaR ts pl dk pa t B R H):PV H pl G :=
 PV_of w.ok w.law (w.dk.sub _ _ w.pl) (w.tups.mono fun t q e=>w.dk.sub _ _ e) w.l1 w.l2 w.l3
theorem W.sr {G chR noR gaR ts pl dk pa t B R H} (w:W G chR noR gaR ts pl dk pa t B R H) {A f age σ R' H' t'} {B'} (S:SR A f G age σ R' H') (h1:A.chR=chR) (h2:A.noR=noR) (h3:A.gaR=gaR) (D:DK B' R' dk pa t') (s:Sub B B'):W G chR noR gaR ts pl dk pa t' B' R' H' :=
 ⟨by have:=S.lawI;rw [h1,h2,h3] at this;exact this,D,s _ _ w.pl,w.tups.mono fun t q e=>s _ _ e,w.ok,w.l1,w.l2,w.l3⟩
theorem W.ctx {G chR noR gaR ts pl dk pa t B R H} (w:W G chR noR gaR ts pl dk pa t B R H) (tools:Nat) (ht:tools < 6) (calm most:Int) {tz:Int} (etz:tz=tools) {n:Nat} {Q X:EQ}
  (h:∀ (A:Ad) H',SR A { cf tools calm with most:=most } G 0 (sg0 (cf tools calm)) R H'→A.chR=chR→A.noR=noR→A.gaR=gaR→Q (.ref A.c) H') :
  FW tT (n+4) false 728 [.ref pl,.int tz,.int calm,.int most] H Q X :=
 x_context G chR noR gaR ts pl w.law (w.dk.sub _ _ w.pl) (w.tups.mono fun t q e=>w.dk.sub _ _ e) (by rw [w.ok.vals,w.l1]) (by rw [w.ok.chk,w.l1]) (by rw [w.ok.drw,w.l1]) (by rw [w.l2,w.l1]) (by rw [w.l3,w.l1]) tools ht calm most etz h
def valsL (G:Gm) (c D:Nat):List Int:=(List.range' 1 D).map fun d=>G.F c d 0 0
theorem vals_at {G:Gm} {c D k:Nat} (h:k < D):(valsL G c D)[k]? = some (G.F c (k+1) 0 0):=by
 unfold valsL
 rw [List.getElem?_map,List.getElem?_range' h]
 simp [Nat.add_comm]
theorem vals_len {G:Gm} {c D:Nat}:(valsL G c D).length=D:=by simp [valsL]
theorem a_exc {T:Tab} {a:Nat} {v:AV} {H:AHeap} {Q:AV→Prop} (h:H a=some (.exc v)):vAttr T (.ref a) "nodes" H Q=Q v:=by
 unfold vAttr;dsimp only;rw [h];simp
def dropS:Nat→ISs→ISs
 | 0,s=>s
 | _+1,.nil=>.nil
 | n+1,.cons _ r=>dropS n r
def law_e:ISs:=dropS 16 ir_law
def law_d:ISs:=dropS 14 ir_law
def law_c:ISs:=dropS 11 ir_law
def law_b:ISs:=dropS 9 ir_law
def law_a:ISs:=dropS 6 ir_law
theorem law_e_eq:law_e=.cons (.asg 11 (.bin .add (.c (.int 1)) (.call 697 (.cons (.loc 1) (.cons (.c (.int 20)) .nil))))) (.cons (.asg 8 (.call 728 (.cons (.loc 2) (.cons (.loc 5) (.cons (.loc 4) (.cons (.loc 11) .nil)))))) (.cons (.tryStop ir_law_try0 (some 16) ir_law_exc0) (.cons (.ret (.call 735 (.cons (.loc 8) (.cons (.loc 2) .nil)))) .nil))):=rfl
theorem law_d_eq:law_d=.cons (.asg 8 (.call 728 (.cons (.loc 2) (.cons (.loc 5) (.cons (.loc 4) (.cons (.c (.int 0)) .nil)))))) (.cons (.for_ 12 (.range (.c (.int 0)) (.c (.int 2))) ir_law_loop0) law_e):=rfl
def toldE:IE:=.compIf (.loc 0) (.over (.loc 9)) (.cmp .le (.idx (.loc 0) (.c (.int 3))) (.loc 12))
theorem law_c_eq:law_c=.cons (.asg 11 (.bin .add (.c (.int 1)) (.call 697 (.cons (.loc 1) (.cons (.bin .add (.idx (.idx (.loc 9) (.neg (.c (.int 1)))) (.c (.int 3))) (.c (.int 1))) .nil))))) (.cons (.asg 8 (.call 728 (.cons (.loc 2) (.cons (.loc 5) (.cons (.loc 4) (.cons (.loc 11) .nil)))))) (.cons (.ite (.or (.cmp .ne (.call 740 (.cons (.loc 8) (.cons (.loc 3) (.cons (.loc 6) .nil)))) toldE) (.not (.call 735 (.cons (.loc 8) (.cons (.loc 2) .nil))))) (.cons (.ret (.c (.bool false))) .nil) .nil) law_d)):=rfl
theorem law_b_eq:law_b=.cons (.ite (.cmp .ne (.comp pairElt (.over (.loc 9))) (.comp pairElt2 (.range (.c (.int 0)) (.loc 3)))) (.cons (.ret (.c (.bool false))) .nil) .nil) (.cons (.for_ 10 (.over (.loc 9)) ir_law_loop1) law_c):=rfl
theorem law_a_eq:law_a=.cons (.asg 7 (.comp fullElt (.range (.c (.int 1)) (.bin .add (.loc 3) (.c (.int 1)))))) (.cons (.asg 8 (.call 728 (.cons (.loc 2) (.cons (.loc 5) (.cons (.loc 4) (.cons (.c (.int 0)) .nil)))))) (.cons (.asg 9 (.call 740 (.cons (.loc 8) (.cons (.loc 3) (.cons (.loc 6) .nil))))) law_b)):=rfl
section
variable {G:Gm} {chR noR gaR ts:List Nat} {pl dk pa va:Nat} {D c tools:Nat}
theorem law_try (O:GOk G) (hD1:1≤D) (hDc:D+c≤3) {A:Ad} {B R H:AHeap} {t most:Int} (hm:0 < most) (S:SR A { cf tools c with most:=most } G 0 (sg0 (cf tools c)) R H) (K:DK B R dk pa t) (ht:t≤900000) (hva:B va=some (.list (intsL (valsL G c D))))
  {m:Nat} {w0 w6 w9 w10 w12 w13 w14 w15 w16:AV} {Q:SQ} {X:SX}
  (hn:∀ R' H' σ' v10 v14,SR A { cf tools c with most:=most } G 0 σ' R' H'→σ'.path=[0]→σ'.made=0→Sub B R'→Q .next [w0,.ref dk,.ref pl,.int D,.int c,.int tools,w6,.ref va,.ref A.c,w9,v10,.int most,w12,w13,v14,w15,w16] H')
  (hx:∀ R' H' σ' v14,SR A { cf tools c with most:=most } G 0 σ' R' H'→Unw σ'→Sub B R'→X (.int most) [w0,.ref dk,.ref pl,.int D,.int c,.int tools,w6,.ref va,.ref A.c,w9,w10,.int most,w12,w13,v14,w15,w16] H') :
  vSs tT (FW tT (m+39)) ir_law_try0 false [w0,.ref dk,.ref pl,.int D,.int c,.int tools,w6,.ref va,.ref A.c,w9,w10,.int most,w12,w13,w14,w15,w16] H Q X:=by
 have hS:=x_search G O c (cf tools c) rfl 0 (by omega) D
 have last:∀ {H:AHeap},H va=some (.list (intsL (valsL G c D)))→∀ Q,vIdx (.ref va) (.int (-1)) H Q=Q (.int (G.F c D 0 0)):=fun {H} h Q =>
  i_list (v:=.int (G.F c D 0 0)) h (place_last (by rw [ints_len,vals_len];omega)) (ints_get (by rw [ints_len,vals_len];have:=vals_at (G:=G) (c:=c) (D:=D) (k:=D - 1) (by omega);rw [this];congr 2;omega))
 simp only [ir_law_try0,vSs,vS,vE,vEs,LS,last (S.sub _ _ (K.sub _ _ hva))]
 refine x_guess (n:=m+37) S.I S K (by omega) fun R1 H1 g S1 K1=>?_
 simp only [b_mod (show(0:Int) < 2 by decide),c_eq,t_bool,LS]
 have s1:=K1.sub
 have hmo:most≤0∨(sg0 (cf tools c)).nodes≤most:=.inr (Int.le_of_lt hm)
 have fin:∀ (σ':Sg) (H':AHeap),SR A { cf tools c with most:=most } G 0 σ' R1 H'→At σ' 0 0→σ'.nodes≤most→(∀ (H:AHeap),True) →
   vSs tT (FW tT (m+39)) (.cons (.ite (.or (.cmp .ne (.loc 10) (.idx (.loc 7) (.neg (.c (.int 1))))) (.cmp .gt (.attr (.loc 8) "nodes") (.loc 11))) (.cons (.ret (.c (.bool false))) .nil) .nil) .nil) false [w0,.ref dk,.ref pl,.int D,.int c,.int tools,w6,.ref va,.ref A.c,w9,.int (G.F c D 0 0),.int most,w12,w13,.int g,w15,w16] H' Q X:=by
  intro σ' H' S' T' hle _
  simp only [vSs,vS,vE,LG,last (S'.sub _ _ (s1 _ _ hva)),c_ne,c_gt,t_bool,decide_true,Bool.not_true,DF,ctx_at S' (n:="nodes") rfl rfl (by simp),show ¬ (σ'.nodes > most) by omega,decide_false]
  obtain⟨p1,p2⟩:=T'.root
  exact hn R1 H' σ' _ _ S' p1 p2 s1
 by_cases ev:(tools:Int)%2=0
 ·obtain⟨σ',J1,J2,J3,J4,run⟩:=x_aspirate G O c (cf tools c) 0 D hS (by omega) (by omega) (sg0 (cf tools c)) g 1 sg0_ok sg0_at
  simp only [ev,DT]
  refine run D rfl (m+39) (by omega) A most R1 H1 _ _ hmo S1 (fun hm1 H2 S2=>?_) (fun q1 q2 σ'' H'' u1 u2 u3=>hx R1 H'' σ'' _ u3 u1 s1)
  have:=fin σ' H2 S2 (sg0_at.fr J2) (by omega) (fun _=>trivial)
  simpa only [vSs,vS,vE,LG,t_bool] using this
 ·obtain⟨σ',J1,J2,run⟩:=x_mtdf G O c (cf tools c) 0 D hS (by omega) (by omega) (sg0 (cf tools c)) g sg0_ok sg0_at
  simp only [ev,DF]
  refine run D rfl (m+39) (by omega) A most R1 H1 _ _ hmo S1 (fun hm1 H2 S2=>?_) (fun q1 q2 σ'' H'' u1 u2 u3=>hx R1 H'' σ'' _ u3 u1 s1)
  have:=fin σ' H2 S2 (sg0_at.fr J2) (by omega) (fun _=>trivial)
  simpa only [vSs,vS,vE,LG,t_bool] using this
theorem run_e (hD1:1≤D) (hDc:D+c≤3) (ht6:tools < 6) {B R H:AHeap} {t:Int} (w:W G chR noR gaR ts pl dk pa t B R H) (ht:t≤850000) (hva:B va=some (.list (intsL (valsL G c D))))
  {m:Nat} {w0 w6 w8 w9 w10 w11 w12 w13 w14 w15 w16:AV} {Q X:EQ} (h:∀ H',Q (.bool true) H') :
  vSs tT (FW tT (m+39)) law_e false [w0,.ref dk,.ref pl,.int D,.int c,.int tools,w6,.ref va,w8,w9,w10,w11,w12,w13,w14,w15,w16] H (fun fl _ H'=>match fl with | .ret v=>Q v H' | .next=>Q .none H' | _=>False) (fun k _ H'=>X k H'):=by
 rw [law_e_eq,vSs,vS]
 simp only [vE,vEs,LG]
 refine x_card (n:=m+38) w.law.I w.law w.dk (by omega) (by decide) fun R1 H1 c1 L1 D1 g1 g2=>?_
 have w1:W G chR noR gaR ts pl dk pa (t+1) B R1 H1:=⟨L1,D1,w.pl,w.tups,w.ok,w.l1,w.l2,w.l3⟩
 simp only [b_add,LT]
 rw [vSs,vS]
 simp only [vE,vEs,LG]
 refine w1.ctx (n:=m+35) tools ht6 c (1+c1) rfl fun A H2 S2 a1 a2 a3=>?_
 simp only [LT]
 rw [vSs,vS]
 have pv:∀ {A':Ad} {f age σ R' H'},A'.chR=chR→A'.noR=noR→A'.gaR=gaR→SR A' f G age σ R' H'→Sub B R'→PV H' pl G:=fun b1 b2 b3 S s=>by
  have L:=S.lawI
  rw [b1,b2,b3] at L
  exact PV_of w.ok L (s _ _ w.pl) (w.tups.mono fun t q e=>s _ _ e) w.l1 w.l2 w.l3
 refine⟨rfl,law_try (most:=1+c1) w.ok hD1 hDc (by omega) S2 D1 (by omega) hva (fun R3 H3 σ' v10 v14 S3 p1 p2 s=>?_) (fun R3 H3 σ' v14 S3 u s=>?_)⟩
 ·simp only [vSs,vS,vE,vEs,LG]
  exact x_at_root (n:=m+37) S3 w.ok p1 p2 (pv a1 a2 a3 S3 s) fun H' _=>h H'
 ·intro a ha
  have S4:=S3.new (o:=.exc (.int (1+c1))) ha
  have e4:upd H3 a (.exc (.int (1+c1))) a=some (.exc (.int (1+c1))):=upd_eq
  simp only [LT,ir_law_exc0,vSs,vS,vE,vEs,LG,a_exc e4,c_ne,t_bool,decide_true,Bool.not_true,DF]
  refine x_unwind (n:=m+36) S4 u fun H5 S5=>?_
  exact x_at_root (n:=m+37) S5 w.ok rfl rfl (pv a1 a2 a3 S5 s) fun H' _=>h H'
theorem law_turn (O:GOk G) (hD1:1≤D) (hDc:D+c≤3) {A:Ad} {σ:Sg} {B R H:AHeap} {t:Int} (S:SR A { cf tools c with most:=0 } G 0 σ R H) (I:SOk G c (cf tools c) σ) (T:At σ 0 0) (K:DK B R dk pa t) (ht:t≤900000) (hva:B va=some (.list (intsL (valsL G c D))))
  (pv:∀ {R' H' σ'},SR A { cf tools c with most:=0 } G 0 σ' R' H'→Sub B R'→PV H' pl G) {m:Nat} {w0 w6 w9 w10 w11 w12 w13 w14 w15 w16:AV} {Q:SQ} {X:SX}
  (hn:∀ R' H' σ' v13 v14 v15,SR A { cf tools c with most:=0 } G 0 σ' R' H'→SOk G c (cf tools c) σ'→At σ' 0 0→DK B R' dk pa (t+5)→Q .next [w0,.ref dk,.ref pl,.int D,.int c,.int tools,w6,.ref va,.ref A.c,w9,w10,w11,w12,v13,v14,v15,w16] H') :
  vSs tT (FW tT (m+39)) ir_law_loop0 false [w0,.ref dk,.ref pl,.int D,.int c,.int tools,w6,.ref va,.ref A.c,w9,w10,w11,w12,w13,w14,w15,w16] H Q X:=by
 rw [show ir_law_loop0=.cons (.asg 13 (.bin .add (.c (.int 1)) (.call 697 (.cons (.loc 1) (.cons (.loc 3) .nil))))) (.cons (.asg 14 (.call 747 (.cons (.loc 1) (.cons (.idx (.loc 7) (.bin .sub (.loc 13) (.c (.int 1)))) .nil)))) (.cons (.asg 15 (.idx (.list (.cons (.c (.int 1)) (.cons (.c (.int 40)) (.cons (.neg (.c (.int 3))) (.cons (.c (.int 999)) (.cons (.c (.int 1001)) (.cons (.c (.int (10 ^ 80))) .nil))))))) (.call 697 (.cons (.loc 1) (.cons (.c (.int 6)) .nil))))) (dropS 3 ir_law_loop0))) from rfl]
 rw [vSs,vS]
 simp only [vE,vEs,LG]
 refine x_card (n:=m+38) S.I S K (by omega) (by omega) fun R1 H1 c1 S1 K1 g1 g2=>?_
 obtain⟨k,hk⟩:∃ k:Nat,c1=k:=⟨c1.toNat,by omega⟩
 subst hk
 have hkD:k < D:=by omega
 have vat:∀ {H:AHeap},H va=some (.list (intsL (valsL G c D)))→∀ Q,vIdx (.ref va) (.int (1+(k:Int) - 1)) H Q=Q (.int (G.F c (k+1) 0 0)):=fun {H} h Q =>
  i_list (v:=.int (G.F c (k+1) 0 0)) h (place_nat (k:=k) (by rw [ints_len,vals_len];exact hkD) (by omega)) (ints_get (vals_at hkD))
 simp only [b_add,LT]
 rw [vSs,vS]
 simp only [vE,vEs,LG,b_sub,vat (S1.sub _ _ (K1.sub _ _ hva))]
 refine x_guess (n:=m+37) S1.I S1 K1 (by omega) fun R2 H2 g S2 K2=>?_
 simp only [LT]
 rw [vSs,vS]
 simp only [vE,vEs,LG]
 intro a ha
 have ra:=S2.none_R ha
 have e:([.int 1,.int 40,.int (-3),.int 999,.int 1001,.int (10 ^ 80)]:List AV)=intsL [1,40,-3,999,1001,10 ^ 80]:=rfl
 rw [e]
 have S3:=S2.put (o:=.list (intsL [1,40,-3,999,1001,10 ^ 80])) (.inr ha)
 have K3:=K2.grow (o:=.list (intsL [1,40,-3,999,1001,10 ^ 80])) ra
 refine x_card (n:=m+38) S3.I S3 K3 (by omega) (by decide) fun R4 H4 c4 S4 K4 g3 g4=>?_
 have ha4:=S4.sub _ _ (K4.sub _ _ upd_eq)
 have K4':=K4.down (Sub.new (sub_none K2.sub ra))
 refine pick_int ha4 g3 g4 fun wd _=>?_
 simp only [LT]
 have hS:=x_search G O c (cf tools c) rfl 0 (by omega) (k+1)
 obtain⟨σ1,J1,J2,J3,J4,run1⟩:=x_aspirate G O c (cf tools c) 0 (k+1) hS (by omega) (by omega) σ g wd I T
 obtain⟨σ2,M1,M2,run2⟩:=x_mtdf G O c (cf tools c) 0 (k+1) hS (by omega) (by omega) σ1 g J1 (T.fr J2)
 simp only [dropS,ir_law_loop0,vSs,vS,vE,vEs,LG]
 refine run1 (1+(k:Int)) (by push_cast;omega) (m+39) (by omega) A 0 R4 H4 _ _ (.inl (Int.le_refl _)) S4 (fun _ H5 S5=>?_) (fun q1=>absurd q1 (by omega))
 simp only [b_sub,vat (S5.sub _ _ (K4'.sub _ _ hva)),c_ne,t_bool,decide_true,Bool.not_true,DF]
 refine run2 (1+(k:Int)) (by push_cast;omega) (m+39) (by omega) A 0 R4 H5 _ _ (.inl (Int.le_refl _)) S5 (fun _ H6 S6=>?_) (fun q1=>absurd q1 (by omega))
 simp only [b_sub,vat (S6.sub _ _ (K4'.sub _ _ hva)),c_ne,t_bool,decide_true,Bool.not_true,DF]
 have T2:=(T.fr J2).fr M2
 obtain⟨p1,p2⟩:=T2.root
 refine x_at_root (n:=m+37) S6 O p1 p2 (pv S6 K4'.sub) fun H7 s7=>?_
 simp only [t_bool,Bool.not_true,DF]
 exact hn R4 H7 σ2 _ _ _ (S6.grow s7) M1 T2 (K4'.up (by omega))
theorem run_d (hD1:1≤D) (hDc:D+c≤3) (ht6:tools < 6) {B R H:AHeap} {t:Int} (w:W G chR noR gaR ts pl dk pa t B R H) (ht:t≤800000) (hva:B va=some (.list (intsL (valsL G c D))))
  {m:Nat} {w0 w6 w8 w9 w10 w11 w12 w13 w14 w15 w16:AV} {Q X:EQ} (h:∀ H',Q (.bool true) H') :
  vSs tT (FW tT (m+39)) law_d false [w0,.ref dk,.ref pl,.int D,.int c,.int tools,w6,.ref va,w8,w9,w10,w11,w12,w13,w14,w15,w16] H (fun fl _ H'=>match fl with | .ret v=>Q v H' | .next=>Q .none H' | _=>False) (fun k _ H'=>X k H'):=by
 rw [law_d_eq,vSs,vS]
 simp only [vE,vEs,LG]
 refine w.ctx (n:=m+35) tools ht6 c 0 rfl fun A H2 S2 a1 a2 a3=>?_
 simp only [LT]
 have pv:∀ {R' H' σ'},SR A { cf tools c with most:=0 } G 0 σ' R' H'→Sub B R'→PV H' pl G:=fun S s=>by
  have L:=S.lawI
  rw [a1,a2,a3] at L
  exact PV_of w.ok L (s _ _ w.pl) (w.tups.mono fun t q e=>s _ _ e) w.l1 w.l2 w.l3
 rw [vSs,vS,vT,vE,vE,r_nat (K:=_) (lo:=0) (hi:=2) (s:=0) (w:=2) rfl rfl (by omega) (by omega)]
 rw [show nats (List.range' 0 2)=[.int ((0:Nat):Int),.int ((1:Nat):Int)] from rfl]
 refine⟨rfl,?_⟩
 rw [forL]
 simp only [LT]
 refine law_turn w.ok hD1 hDc S2 sg0_ok sg0_at w.dk (by omega) hva pv fun R3 H3 σ3 v13 v14 v15 S3 I3 T3 K3=>?_
 refine⟨trivial,?_⟩
 rw [forL]
 simp only [LT]
 refine law_turn w.ok hD1 hDc S3 I3 T3 K3 (by omega) hva pv fun R4 H4 σ4 u13 u14 u15 S4 I4 T4 K4=>?_
 refine⟨trivial,?_⟩
 rw [forL]
 exact run_e hD1 hDc ht6 (w.sr S4 a1 a2 a3 K4 Sub.refl) (by omega) hva h
end
end Bn
namespace Bn
open Bm
section
variable {G:Gm} {chR noR gaR ts:List Nat} {pl dk pa va:Nat} {D c tools:Nat}
def GoOn (G:Gm) (c tools D:Nat) (delta:Int) (reps:List Rp):Prop :=
 ∀ (n:Nat),3*D+2*c+12≤n→∀ (A:Ad) (most:Int) (R H:AHeap) (Dz:Int) (Q X:EQ),Dz=D→(most≤0∨(sg0 (cf tools c)).nodes≤most)→SR A { cf tools c with most:=most } G 0 (sg0 (cf tools c)) R H →
   (∀ H' R' w σf,SR A { cf tools c with most:=most } G 1 σf R' H'→σf.path=[0]→σf.made=0→Sub R R'→TupR (mns R' R) w (toldOf most reps)→Q (.ref w) H') →
   FW tT (n+5) false 740 [.ref A.c,.int Dz,.int delta] H Q X
theorem run_c (hD1:1≤D) (hDc:D+c≤3) (ht6:tools < 6) {delta:Int} {reps:List Rp} (hl:reps.length=D) (hg:GoodR G c 0 0 reps) (go:GoOn G c tools D delta reps) {B R H:AHeap} {t:Int} (w:W G chR noR gaR ts pl dk pa t B R H) (ht:t≤700000) (hva:B va=some (.list (intsL (valsL G c D)))) {wa:Nat} (hw:TupR B wa reps)
  {m:Nat} {w0 w8 w10 w11 w12 w13 w14 w15 w16:AV} {Q X:EQ} (h:∀ H',Q (.bool true) H') :
  vSs tT (FW tT (m+39)) law_c false [w0,.ref dk,.ref pl,.int D,.int c,.int tools,.int delta,.ref va,w8,.ref wa,w10,w11,w12,w13,w14,w15,w16] H (fun fl _ H'=>match fl with | .ret v=>Q v H' | .next=>Q .none H' | _=>False) (fun k _ H'=>X k H'):=by
 obtain⟨as,a1,a2⟩:=hw
 have hlen:=a2.len
 obtain⟨x,hx⟩:=getSome (l:=reps) (k:=as.length - 1) (by omega)
 obtain⟨ta,ta1,l,ta2,ta3⟩:=a2.at hx
 obtain⟨_,_,_,hpos⟩:=hg _ _ hx
 have waH:=w.law.sub _ _ (w.dk.sub _ _ a1)
 have taH:=w.law.sub _ _ (w.dk.sub _ _ ta2)
 rw [law_c_eq,vSs,vS]
 simp only [vE,vEs,LG,i_list (v:=.ref ta) waH (i:=-1) (place_last (by rw [refs_len];omega)) (by rw [refs_len];exact refs_get ta1),i_tup (v:=.int x.n) taH (i:=3) (k:=3) rfl rfl,b_add]
 refine x_card (n:=m+38) w.law.I w.law w.dk (by omega) (by omega) fun R1 H1 c1 L1 D1 g1 g2=>?_
 have w1:W G chR noR gaR ts pl dk pa (t+1) B R1 H1:=⟨L1,D1,w.pl,w.tups,w.ok,w.l1,w.l2,w.l3⟩
 simp only [b_add,LT]
 rw [vSs,vS]
 simp only [vE,vEs,LG]
 refine w1.ctx (n:=m+35) tools ht6 c (1+c1) rfl fun A H2 S2 b1 b2 b3=>?_
 simp only [LT]
 rw [vSs,vS]
 simp only [vE,vEs,LG]
 refine go (m+34) (by omega) A (1+c1) R1 H2 _ _ _ rfl (.inr (show(0:Int)≤1+c1 by omega)) S2 fun H3 R3 w2 σf S3 p1 p2 s3 T3=>?_
 obtain⟨as2,q1,q2⟩:=T3
 have sB:=D1.sub.trans s3
 have B3:Sub B H3:=sB.trans S3.sub
 have M3:Sub (mns R3 R1) H3:=fun a o e=>S3.sub _ _ (mns_sub _ _ e)
 unfold toldE
 rw [vE,vT,vE]
 simp only [LG,vOver,B3 _ _ a1]
 refine⟨trivial,told_comp (B3 _ _ a1) as reps [] [] (a2.mono B3) trivial fun ts' T4=>?_⟩
 intro a ha
 have sn:=Sub.new (o:=AO.list (refs ts')) ha
 have S4:=S3.grow sn
 have he:toldOf (1+c1) reps=reps.filter fun x=>decide (x.n≤1+c1):=by unfold toldOf;rw [if_neg (by omega)]
 rw [he] at q2
 rw [c_ne_l (sn _ _ (M3 _ _ q1)) upd_eq (eq_rep (q2.mono (M3.trans sn)) (by have:=T4.mono sn;rwa [List.nil_append] at this))]
 simp only [t_bool,DF]
 have pv4:PV (upd H3 a (.list (refs ts'))) pl G:=by
  have L:=S4.lawI
  rw [b1,b2,b3] at L
  exact PV_of w.ok L (sB _ _ w.pl) (w.tups.mono fun t q e=>sB _ _ e) w.l1 w.l2 w.l3
 refine x_at_root (n:=m+37) S4 w.ok p1 p2 pv4 fun H5 s5=>?_
 simp only [t_bool,Bool.not_true,DF]
 rw [vSs]
 exact run_d hD1 hDc ht6 (w.sr (S4.grow s5) b1 b2 b3 (D1.sup s3) Sub.refl) (by omega) hva h
theorem leads_all (hDc:D+c≤3) (O:GOk G) {A:Ad} {σ:Sg} {R:AHeap} {f:Cf} {H0:AHeap} (S0:SR A f G 1 σ R H0) (p1:σ.path=[0]) (p2:σ.made=0) (V0:PV H0 pl G) {wa:Nat} {all:List AV} (hw:H0 wa=some (.list all)) {m:Nat} {w0 w1 w3 w5 w6 w7 w9 w11 w12 w13 w14 w15 w16:AV} {X:SX} :
  ∀ (as:List Nat) (todo:List Rp) (H:AHeap) (w10:AV) (Q:SQ),Sub H0 H→TRs H0 as todo→(∀ x∈todo,x.d≤D∧Lead G c x.d 0 0 x.row x.v) →
   (∀ H' v10,Sub H0 H'→Q .next [w0,w1,.ref pl,w3,.int c,w5,w6,w7,.ref A.c,w9,v10,w11,w12,w13,w14,w15,w16] H') →
   forL (.lst wa all) 10 (fun ρ H K=>vSs tT (FW tT (m+39)) ir_law_loop1 false ρ H K X) (refs as) [w0,w1,.ref pl,w3,.int c,w5,w6,w7,.ref A.c,w9,w10,w11,w12,w13,w14,w15,w16] H Q
 | [],[],H,w10,Q,s,ht,hL,h=>h H w10 s
 | a::as,x::todo,H,w10,Q,s,⟨⟨l,h1,h2⟩,h3⟩,hL,h=>by
  have e0:refs (a::as)=AV.ref a::refs as:=rfl
  obtain⟨hd,ld⟩:=hL x (by simp)
  have h1':=s _ _ h1
  rw [e0,forL]
  simp only [LT]
  rw [show ir_law_loop1=.cons (.ite (.or (.not (.call 716 (.cons (.loc 2) (.cons (.idx (.loc 10) (.c (.int 2))) (.cons (.idx (.loc 10) (.c (.int 0))) (.cons (.loc 4) (.cons (.idx (.loc 10) (.c (.int 1))) .nil))))))) (.not (.call 735 (.cons (.loc 8) (.cons (.loc 2) .nil))))) (.cons (.ret (.c (.bool false))) .nil) .nil) .nil from rfl]
  rw [vSs,vS]
  simp only [vE,vEs,LG,i_tup (v:=.ref l) h1' (i:=2) (k:=2) rfl rfl,i_tup (v:=.int x.d) h1' (i:=0) (k:=0) rfl rfl,i_tup (v:=.int x.v) h1' (i:=1) (k:=1) rfl rfl]
  refine x_leads G O c x.d pl l (by omega) (by omega) x.row x.v ld (V0.mono s) (s _ _ h2) (n:=m+38) (by omega) rfl rfl fun H1 s1=>?_
  simp only [t_bool,Bool.not_true,DF]
  have s01:=s.trans s1
  refine x_at_root (n:=m+37) (S0.grow s01) O p1 p2 (V0.mono s01) fun H2 s2=>?_
  simp only [t_bool,Bool.not_true,DF]
  rw [vSs]
  rw [vSs]
  have s02:=s01.trans s2
  exact⟨s02 _ _ hw,leads_all hDc O S0 p1 p2 V0 hw as todo H2 _ Q s02 h3 (fun y hy=>hL y (by simp [hy])) h⟩
 | [],_::_,_,_,_,_,h,_,_=>h.elim
 | _::_,[],_,_,_,_,h,_,_=>h.elim
theorem run_b (hD1:1≤D) (hDc:D+c≤3) (ht6:tools < 6) {delta:Int} {reps:List Rp} (hl:reps.length=D) (hg:GoodR G c 0 0 reps) (go:GoOn G c tools D delta reps) {A:Ad} {σ:Sg} {f:Cf} {B0 R0 H0 B R H:AHeap} {t t0:Int} (w:W G chR noR gaR ts pl dk pa t0 B0 R0 H0) (sB:Sub B0 B) (S:SR A f G 1 σ R H) (b1:A.chR=chR) (b2:A.noR=noR) (b3:A.gaR=gaR) (p1:σ.path=[0]) (p2:σ.made=0) (K:DK B R dk pa t) (ht:t≤700000) (hva:B va=some (.list (intsL (valsL G c D)))) {wa:Nat} (hw:TupR B wa reps)
  {m:Nat} {w0 w10 w11 w12 w13 w14 w15 w16:AV} {Q X:EQ} (h:∀ H',Q (.bool true) H') :
  vSs tT (FW tT (m+39)) law_b false [w0,.ref dk,.ref pl,.int D,.int c,.int tools,.int delta,.ref va,.ref A.c,.ref wa,w10,w11,w12,w13,w14,w15,w16] H (fun fl _ H'=>match fl with | .ret v=>Q v H' | .next=>Q .none H' | _=>False) (fun k _ H'=>X k H'):=by
 obtain⟨as,a1,a2⟩:=hw
 have hlen:=a2.len
 have BH:Sub B H:=K.sub.trans S.sub
 have waH:=BH _ _ a1
 have w1:=w.sr S b1 b2 b3 K sB
 have V:=w1.pv
 rw [law_b_eq,vSs,vS,vE,vE,vT,vE]
 simp only [LG,vOver,waH]
 refine⟨trivial,pair_comp1 waH as reps H [] [] Sub.refl (a2.mono BH) trivial fun H1 ts1 s1 T1=>?_⟩
 intro a ha
 have sa:=Sub.new (o:=AO.list (refs ts1)) ha
 rw [vE,vT,vE,vE]
 simp only [LG,r_nat (K:=_) (lo:=0) (hi:=(D:Int)) (s:=0) (w:=D) rfl (by omega) (by omega) (by omega)]
 refine⟨trivial,pair_comp2 ((s1.trans sa) _ _ (BH _ _ hva)) D 0 _ [] [] (by rw [vals_len];omega) Sub.refl trivial fun H2 ts2 s2 _ T2=>?_⟩
 intro b hb
 have sb:=Sub.new (o:=AO.list (refs ts2)) hb
 have hlist:(reps.map fun x=>((x.d:Int),x.v))=(List.range' 0 D).map fun(i:Nat)=>((i:Int)+1,((valsL G c D)[i]?).getD 0):=by
  apply List.ext_getElem?
  intro k
  by_cases hk:k < D
  ·obtain⟨x,hx⟩:=getSome (l:=reps) (k:=k) (by omega)
   obtain⟨e1,e2,_,_⟩:=hg k x hx
   rw [List.getElem?_map,List.getElem?_map,hx,List.getElem?_range' hk]
   simp only [Option.map_some,Nat.zero_add,Nat.one_mul]
   rw [vals_at hk]
   simp only [Option.getD_some]
   rw [e1,e2]
   simp
  ·rw [List.getElem?_eq_none (by simp [hl];omega),List.getElem?_eq_none (by simp;omega)]
 rw [List.nil_append] at T1 T2
 rw [hlist] at T1
 have st:=(s2.trans sb)
 rw [c_ne_l (st _ _ upd_eq) upd_eq (eq_tps (T1.mono (sa.trans st)) (T2.mono sb))]
 simp only [t_bool,DF]
 rw [vSs]
 have sall:Sub H (upd H2 b (.list (refs ts2))):=(s1.trans sa).trans st
 have S3:=S.grow sall
 rw [vSs,vS,vT,vE]
 simp only [LG,vOver,sall _ _ waH]
 refine⟨trivial,leads_all hDc w.ok S3 p1 p2 (V.mono sall) (sall _ _ waH) as reps _ _ _ Sub.refl (a2.mono (BH.trans sall)) (fun x hx=>?_) fun H4 v10 s4=>?_⟩
 ·obtain⟨k,hk⟩:=List.getElem?_of_mem hx
  obtain⟨e1,e2,e3,_⟩:=hg k x hk
  have:=len_of hk
  have ed:x.d=k+1:=by omega
  exact⟨by omega,by rw [ed];rw [show 0+k+1=k+1 by omega] at e3;exact e3⟩
 ·exact run_c hD1 hDc ht6 hl hg go (w.sr (S3.grow s4) b1 b2 b3 K sB) ht hva ⟨as,a1,a2⟩ h
theorem run_a (hD1:1≤D) (hDc:D+c≤3) (ht6:tools < 6) {delta:Int} {B R H:AHeap} {t:Int} (w:W G chR noR gaR ts pl dk pa t B R H) (ht:t≤600000)
  {m:Nat} {w0 w7 w8 w9 w10 w11 w12 w13 w14 w15 w16:AV} {Q X:EQ} (h:∀ H',Q (.bool true) H') :
  vSs tT (FW tT (m+39)) law_a false [w0,.ref dk,.ref pl,.int D,.int c,.int tools,.int delta,w7,w8,w9,w10,w11,w12,w13,w14,w15,w16] H (fun fl _ H'=>match fl with | .ret v=>Q v H' | .next=>Q .none H' | _=>False) (fun k _ H'=>X k H'):=by
 obtain⟨reps,hl,hg,go⟩:=x_reports G w.ok c (cf tools c) rfl delta D (by omega) (by omega) (sg0 (cf tools c)) sg0_ok sg0_at
 rw [law_a_eq,vSs,vS,vE,vT]
 simp only [vE,LG,b_add,r_nat (K:=_) (lo:=1) (hi:=(D:Int)+1) (s:=1) (w:=D) rfl (by omega) (by omega) (by omega)]
 refine⟨trivial,vals_comp G w.ok c (by omega) (N:=m+39) (by omega) w.pv D 1 H [] (by omega) Sub.refl fun H1 s1=>?_⟩
 intro va hva
 rw [List.nil_append]
 have L1:=w.law.grow s1
 have rv:=L1.I.none L1 hva
 have L2:=L1.I.put _ _ va (.list (intsL (valsL G c D))) L1 (.inr hva)
 have D2:=w.dk.grow (o:=.list (intsL (valsL G c D))) rv
 have bv:=sub_none w.dk.sub rv
 have sv:Sub B (upd B va (.list (intsL (valsL G c D)))):=Sub.new bv
 have w2:W G chR noR gaR ts pl dk pa t (upd B va (.list (intsL (valsL G c D)))) (upd R va (.list (intsL (valsL G c D)))) (upd H1 va (.list (intsL (valsL G c D)))):=⟨L2,D2,sv _ _ w.pl,w.tups.mono fun t q e=>sv _ _ e,w.ok,w.l1,w.l2,w.l3⟩
 show vSs tT (FW tT (m+39)) _ false _ (upd H1 va (.list (intsL (valsL G c D)))) _ _
 simp only [LT]
 rw [vSs,vS]
 simp only [vE,vEs,LG]
 refine w2.ctx (n:=m+35) tools ht6 c 0 rfl fun A H3 S3 b1 b2 b3=>?_
 simp only [LT]
 rw [vSs,vS]
 simp only [vE,vEs,LG]
 refine go (m+34) (by omega) A 0 _ H3 _ _ _ rfl (.inl (Int.le_refl _)) S3 fun H4 R4 wa σf S4 p1 p2 s4 T4=>?_
 simp only [LT]
 have D4:=D2.plus s4
 have T5:TupR (plus (upd B va (.list (intsL (valsL G c D)))) (mns R4 (upd R va (.list (intsL (valsL G c D)))))) wa reps:=by
  have:toldOf 0 reps=reps:=by unfold toldOf;rw [if_pos (Int.le_refl _)]
  rw [this] at T4
  exact T4.mono (plus_r D2.sub)
 exact run_b hD1 hDc ht6 hl hg go w2 plus_l S4 b1 b2 b3 p1 p2 D4 (by omega) (plus_l _ _ upd_eq) T5 h
end
theorem law_eq:ir_law=.cons (.asg 1 (.deck "pile" "turn" (.rev (.upto (.loc 0) 60)) (.c (.int 0)))) (.cons (.asg 2 (.call 702 (.cons (.loc 1) .nil))) (.cons (.asg 3 (.bin .add (.c (.int 1)) (.call 697 (.cons (.loc 1) (.cons (.c (.int 3)) .nil))))) (.cons (.asg 4 (.call 697 (.cons (.loc 1) (.cons (.bin .sub (.c (.int 4)) (.loc 3)) .nil)))) (.cons (.asg 5 (.call 697 (.cons (.loc 1) (.cons (.c (.int 6)) .nil)))) (.cons (.asg 6 (.idx (.list (.cons (.c (.int 1)) (.cons (.c (.int 16)) (.cons (.neg (.c (.int 5))) (.cons (.c (.int 300)) (.cons (.c (.int 5000)) (.cons (.c (.int (10 ^ 60))) .nil))))))) (.call 697 (.cons (.loc 1) (.cons (.c (.int 6)) .nil))))) law_a))))):=rfl
theorem x_law (m:Nat) (H:AHeap) (sa:Nat) (script:List Int) (hs:H sa=some (.ro (intsL script))) (Q X:EQ) (h:∀ H',Q (.bool true) H'):FW tT (m+40) false 752 [.ref sa] H Q X:=by
 refine⟨rfl,?_⟩
 show vSs tT (FW tT (m+39)) ir_law false [.ref sa,.undef,.undef,.undef,.undef,.undef,.undef,.undef,.undef,.undef,.undef,.undef,.undef,.undef,.undef,.undef,.undef] H _ _
 rw [law_eq,vSs,vS]
 simp only [vE,lget_0,hs]
 intro a0 h0
 have e0:upd H a0 (.list ((intsL script).take 60)) a0=some (.list ((intsL script).take 60)):=upd_eq
 simp only [e0]
 intro pa hpa
 have ep:(((intsL script).take 60).reverse)=intsL ((script.take 60).reverse):=by unfold intsL;rw [← List.map_take,← List.map_reverse]
 rw [ep]
 refine⟨by decide,?_⟩
 intro dk hdk
 have npd:pa≠dk:=fun z=>by rw [← z,upd_eq] at hdk;cases hdk
 obtain⟨R,hR⟩:∃ R:AHeap,R=upd (upd (fun _=>none) pa (.list (intsL ((script.take 60).reverse)))) dk (.deck [("pile",.ref pa),("turn",.int 0)]):=⟨_,rfl⟩
 obtain⟨H1,hH1⟩:∃ H1:AHeap,H1=upd (upd (upd H a0 (.list ((intsL script).take 60))) pa (.list (intsL ((script.take 60).reverse)))) dk (.deck [("pile",.ref pa),("turn",.int 0)]):=⟨_,rfl⟩
 have sR:Sub R H1:=fun b o e=>by
  rw [hR] at e
  rw [hH1]
  by_cases n1:b=dk
  ·subst n1;rw [upd_eq] at e ⊢;exact e
  ·rw [upd_ne n1] at e ⊢
   by_cases n2:b=pa
   ·subst n2;rw [upd_eq] at e ⊢;exact e
   ·rw [upd_ne n2] at e;cases e
 have D0:DK (fun _=>none) R dk pa 0:=⟨⟨(script.take 60).reverse,0,by rw [hR];exact upd_eq,by rw [hR];exact upd_some upd_eq npd,by omega,by omega⟩,rfl,rfl,fun b o e=>by cases e⟩
 rw [← hH1]
 simp only [LT]
 rw [vSs,vS]
 simp only [vE,vEs,LG]
 refine x_deal (n:=m+37) dk pa _ R H1 0 (by omega) sR D0 fun G count chR noR gaR ts pl B' R' H' q1 q2 DS'=>?_
 have O:=DS'.ok.ok (by omega) q2
 have w:W G chR noR gaR ts pl dk pa 200 B' R' H':=⟨DS'.law,DS'.dk,DS'.pl,DS'.tups,O,by rw [DS'.l1,DS'.ok.kids],by rw [DS'.l2,DS'.ok.kids],by rw [DS'.l3,DS'.ok.kids]⟩
 have next:∀ {t R H},LawI chR G.kids noR G.noi gaR G.gai R H→DK B' R dk pa t→W G chR noR gaR ts pl dk pa t B' R H:=fun L D=>⟨L,D,w.pl,w.tups,w.ok,w.l1,w.l2,w.l3⟩
 simp only [LT]
 rw [vSs,vS]
 simp only [vE,vEs,LG]
 refine x_card (n:=m+38) w.law.I w.law w.dk (by omega) (by decide) fun R1 H1 c1 L1 D1 g1 g2=>?_
 obtain⟨D,hD⟩:∃ D:Nat,(1:Int)+c1=D:=⟨(1+c1).toNat,by omega⟩
 simp only [b_add,LT,hD]
 rw [vSs,vS]
 simp only [vE,vEs,LG,b_sub]
 refine x_card (n:=m+38) L1.I L1 D1 (by omega) (by omega) fun R2 H2 c2 L2 D2 g3 g4=>?_
 obtain⟨c,hc⟩:∃ c:Nat,c2=c:=⟨c2.toNat,by omega⟩
 subst hc
 simp only [LT]
 rw [vSs,vS]
 simp only [vE,vEs,LG]
 refine x_card (n:=m+38) L2.I L2 D2 (by omega) (by decide) fun R3 H3 c3 L3 D3 g5 g6=>?_
 obtain⟨tools,ht⟩:∃ tools:Nat,c3=tools:=⟨c3.toNat,by omega⟩
 subst ht
 simp only [LT]
 rw [vSs,vS]
 simp only [vE,vEs,LG]
 intro a ha
 have ra:=L3.I.none L3 ha
 have e:([.int 1,.int 16,.int (-5),.int 300,.int 5000,.int (10 ^ 60)]:List AV)=intsL [1,16,-5,300,5000,10 ^ 60]:=rfl
 rw [e]
 have L4:=L3.I.put _ _ a (.list (intsL [1,16,-5,300,5000,10 ^ 60])) L3 (.inr ha)
 have D4:=D3.grow (o:=.list (intsL [1,16,-5,300,5000,10 ^ 60])) ra
 refine x_card (n:=m+38) L4.I L4 D4 (by omega) (by decide) fun R5 H5 c5 L5 D5 g7 g8=>?_
 have ha5:=L5.sub _ _ (D5.sub _ _ upd_eq)
 have D5':=D5.down (Sub.new (sub_none D3.sub ra))
 refine pick_int ha5 g7 g8 fun delta _=>?_
 simp only [LT]
 exact run_a (by omega) (by omega) (by omega) (next L5 D5') (by omega) h
end Bn
namespace Bm
open PySem PySem.W PyProof.Rows
set_option maxHeartbeats 8000000
open_top theHead for PySem.Challenge.rw_pb0080_01
noncomputable abbrev HK:=theHead.heap_39
end Bm
namespace Bm
open PySem PySem.W PyProof.Rows
theorem c71 (P:Params):∃ N nm q bs sn sub ab col dd k0 k1 k2 k3 k5,(HK P).lookup 71=some (excClassObj nm q 71 N bs (.ref 38::bmE) true sn sub ab col dd k0 k1 k2 k3 k5 "Exception.__new__"):=⟨_,_,_,_,_,_,_,_,_,_,_,_,_,_,rfl⟩
theorem i71 (P:Params):findIn (HK P) (.ref 71) "__init__" = some (some (.ref 68)):=by kernel_rfl
theorem t68 (P:Params):typeIn (HK P) (.ref 68)=some (.type "function"):=by kernel_rfl
theorem g38 (P:Params):specialIn (HK P) (.ref 38) "__getattribute__" = some (some (.builtin "type.__getattribute__")):=by kernel_rfl
theorem r38 (P:Params):readsIn (HK P) 38 (.type "type")=true:=by kernel_rfl
theorem f38 (P:Params):findCls (HK P) (.ref 38) (.type "type") "__init__" = some (.val (.ref 35)):=by kernel_rfl
theorem fE (P:Params):findCls (HK P) (.type "Exception") (.type "type") "__init__" = some (.val (.builtin "Exception.__init__")):=by kernel_rfl
theorem k35 (P:Params):keepIn (HK P) (.ref 35)=true:=by kernel_rfl
theorem e_sa (P:Params):findIn (HK P) (.ref 71) "__setattr__" = some (some (.builtin "object.__setattr__")):=by kernel_rfl
theorem aT (P:Params):findIn (HK P) (.ref 71) "text" = some none:=by kernel_rfl
theorem aN (P:Params):findIn (HK P) (.ref 71) "nodes" = some none:=by kernel_rfl
theorem ga (P:Params):findIn (HK P) (.ref 71) "__getattribute__" = some (some (.builtin "BaseException.__getattribute__")):=by kernel_rfl
theorem ge (P:Params):findIn (HK P) (.ref 71) "__getattr__" = some none:=by kernel_rfl
theorem hd71 (P:Params):hasDictIn (HK P) 71=true:=by kernel_rfl
theorem raw35 (P:Params):∃ scope body,RawFn (HK P) 35 ["self","text"] scope body∧makerBody "Exception" "text" "text" (isTheName "text") body=true∧scope.names.lookup ("Exception" : Str)=some .globalImplicit :=
 ⟨_,_,⟨⟨_,_,_,_,rfl,rfl,rfl,rfl,rfl,rfl,rfl,rfl,rfl,.inl rfl⟩,by decide,by decide,by decide,rfl,rfl,rfl⟩,rfl,rfl⟩
theorem raw68 (P:Params):∃ scope body,RawFn (HK P) 68 ["self","nodes"] scope body∧makerBody "ChessError" "nodes" "nodes" isStrC body=true∧scope.names.lookup ("ChessError" : Str)=some .globalImplicit :=
 ⟨_,_,⟨⟨_,_,_,_,rfl,rfl,rfl,rfl,rfl,rfl,rfl,rfl,rfl,.inr ⟨_,rfl,_,_,_,_,_,rfl⟩⟩,by decide,by decide,by decide,rfl,rfl,rfl⟩,rfl,rfl⟩
theorem fi_92 (P:Params):fnIn (HK P) 92 fn_mated_in=true:=by kernel_rfl
theorem fi_99 (P:Params):fnIn (HK P) 99 fn_mate_in=true:=by kernel_rfl
theorem fi_106 (P:Params):fnIn (HK P) 106 fn_to_table=true:=by kernel_rfl
theorem fi_113 (P:Params):fnIn (HK P) 113 fn_from_table=true:=by kernel_rfl
theorem fi_127 (P:Params):fnIn (HK P) 127 fn_SearchContext_init=true:=by kernel_rfl
theorem fi_134 (P:Params):fnIn (HK P) 134 fn_SearchContext_tick=true:=by kernel_rfl
theorem fi_148 (P:Params):fnIn (HK P) 148 fn_step_into=true:=by kernel_rfl
theorem fi_155 (P:Params):fnIn (HK P) 155 fn_step_back=true:=by kernel_rfl
theorem fi_162 (P:Params):fnIn (HK P) 162 fn_unwind=true:=by kernel_rfl
theorem fi_169 (P:Params):fnIn (HK P) 169 fn_clear_line=true:=by kernel_rfl
theorem fi_176 (P:Params):fnIn (HK P) 176 fn_set_line=true:=by kernel_rfl
theorem fi_183 (P:Params):fnIn (HK P) 183 fn_line_from=true:=by kernel_rfl
theorem fi_190 (P:Params):fnIn (HK P) 190 fn_pack_entry=true:=by kernel_rfl
theorem fi_197 (P:Params):fnIn (HK P) 197 fn_unpack_entry=true:=by kernel_rfl
theorem fi_204 (P:Params):fnIn (HK P) 204 fn_find_slot=true:=by kernel_rfl
theorem fi_211 (P:Params):fnIn (HK P) 211 fn_worth=true:=by kernel_rfl
theorem fi_218 (P:Params):fnIn (HK P) 218 fn_victim_slot=true:=by kernel_rfl
theorem fi_225 (P:Params):fnIn (HK P) 225 fn_pushes_out=true:=by kernel_rfl
theorem fi_232 (P:Params):fnIn (HK P) 232 fn_with_move=true:=by kernel_rfl
theorem fi_246 (P:Params):fnIn (HK P) 246 fn_TransTable_init=true:=by kernel_rfl
theorem fi_253 (P:Params):fnIn (HK P) 253 fn_TransTable_probe=true:=by kernel_rfl
theorem fi_260 (P:Params):fnIn (HK P) 260 fn_TransTable_save=true:=by kernel_rfl
theorem fi_267 (P:Params):fnIn (HK P) 267 fn_TransTable_new_search=true:=by kernel_rfl
theorem fi_295 (P:Params):fnIn (HK P) 295 fn_cutoff=true:=by kernel_rfl
theorem fi_302 (P:Params):fnIn (HK P) 302 fn_scale_down=true:=by kernel_rfl
theorem fi_316 (P:Params):fnIn (HK P) 316 fn_History_init=true:=by kernel_rfl
theorem fi_323 (P:Params):fnIn (HK P) 323 fn_History_get=true:=by kernel_rfl
theorem fi_330 (P:Params):fnIn (HK P) 330 fn_History_update=true:=by kernel_rfl
theorem fi_337 (P:Params):fnIn (HK P) 337 fn_History_bonus=true:=by kernel_rfl
theorem fi_365 (P:Params):fnIn (HK P) 365 fn_Killers_init=true:=by kernel_rfl
theorem fi_372 (P:Params):fnIn (HK P) 372 fn_Killers_add=true:=by kernel_rfl
theorem fi_379 (P:Params):fnIn (HK P) 379 fn_Killers_pair=true:=by kernel_rfl
theorem fi_386 (P:Params):fnIn (HK P) 386 fn_Killers_clear=true:=by kernel_rfl
theorem fi_400 (P:Params):fnIn (HK P) 400 fn_reward=true:=by kernel_rfl
theorem fi_407 (P:Params):fnIn (HK P) 407 fn_killer_pair=true:=by kernel_rfl
theorem fi_414 (P:Params):fnIn (HK P) 414 fn_past_score=true:=by kernel_rfl
theorem fi_428 (P:Params):fnIn (HK P) 428 fn_Picker_init=true:=by kernel_rfl
theorem fi_435 (P:Params):fnIn (HK P) 435 fn_Picker_next=true:=by kernel_rfl
theorem fi_440 (P:Params):fnIn (HK P) 440 fn_Picker_fill=true:=by kernel_rfl
theorem fi_447 (P:Params):fnIn (HK P) 447 fn_Picker_fill_table=true:=by kernel_rfl
theorem fi_454 (P:Params):fnIn (HK P) 454 fn_Picker_fill_good=true:=by kernel_rfl
theorem fi_461 (P:Params):fnIn (HK P) 461 fn_Picker_fill_killers=true:=by kernel_rfl
theorem fi_475 (P:Params):fnIn (HK P) 475 fn_take_best=true:=by kernel_rfl
theorem fi_482 (P:Params):fnIn (HK P) 482 fn_quiesce=true:=by kernel_rfl
theorem fi_489 (P:Params):fnIn (HK P) 489 fn_quiesce_moves=true:=by kernel_rfl
theorem fi_496 (P:Params):fnIn (HK P) 496 fn_search=true:=by kernel_rfl
theorem fi_503 (P:Params):fnIn (HK P) 503 fn_search_moves=true:=by kernel_rfl
theorem fi_510 (P:Params):fnIn (HK P) 510 fn_search_child=true:=by kernel_rfl
theorem fi_517 (P:Params):fnIn (HK P) 517 fn_look_up=true:=by kernel_rfl
theorem fi_524 (P:Params):fnIn (HK P) 524 fn_keep_value=true:=by kernel_rfl
theorem fi_531 (P:Params):fnIn (HK P) 531 fn_root_value=true:=by kernel_rfl
theorem fi_545 (P:Params):fnIn (HK P) 545 fn_Report_init=true:=by kernel_rfl
theorem fi_559 (P:Params):fnIn (HK P) 559 fn_lower_edge=true:=by kernel_rfl
theorem fi_566 (P:Params):fnIn (HK P) 566 fn_upper_edge=true:=by kernel_rfl
theorem fi_573 (P:Params):fnIn (HK P) 573 fn_aspirate=true:=by kernel_rfl
theorem fi_580 (P:Params):fnIn (HK P) 580 fn_deepest=true:=by kernel_rfl
theorem fi_587 (P:Params):fnIn (HK P) 587 fn_iterate=true:=by kernel_rfl
theorem fi_594 (P:Params):fnIn (HK P) 594 fn_mtdf=true:=by kernel_rfl
theorem fi_608 (P:Params):fnIn (HK P) 608 fn_TreeGame_init=true:=by kernel_rfl
theorem fi_615 (P:Params):fnIn (HK P) 615 fn_TreeGame_moves=true:=by kernel_rfl
theorem fi_620 (P:Params):fnIn (HK P) 620 fn_TreeGame_noisy=true:=by kernel_rfl
theorem fi_627 (P:Params):fnIn (HK P) 627 fn_TreeGame_make=true:=by kernel_rfl
theorem fi_634 (P:Params):fnIn (HK P) 634 fn_TreeGame_undo=true:=by kernel_rfl
theorem fi_641 (P:Params):fnIn (HK P) 641 fn_TreeGame_value=true:=by kernel_rfl
theorem fi_648 (P:Params):fnIn (HK P) 648 fn_TreeGame_key=true:=by kernel_rfl
theorem fi_655 (P:Params):fnIn (HK P) 655 fn_TreeGame_in_check=true:=by kernel_rfl
theorem fi_662 (P:Params):fnIn (HK P) 662 fn_TreeGame_is_draw=true:=by kernel_rfl
theorem fi_669 (P:Params):fnIn (HK P) 669 fn_TreeGame_is_noisy=true:=by kernel_rfl
theorem fi_676 (P:Params):fnIn (HK P) 676 fn_TreeGame_gain=true:=by kernel_rfl
theorem fi_683 (P:Params):fnIn (HK P) 683 fn_TreeGame_side=true:=by kernel_rfl
theorem fi_697 (P:Params):fnIn (HK P) 697 fn_law_card=true:=by kernel_rfl
theorem fi_702 (P:Params):fnIn (HK P) 702 fn_law_deal=true:=by kernel_rfl
theorem fi_709 (P:Params):fnIn (HK P) 709 fn_law_full=true:=by kernel_rfl
theorem fi_716 (P:Params):fnIn (HK P) 716 fn_law_leads=true:=by kernel_rfl
theorem fi_721 (P:Params):fnIn (HK P) 721 fn_law_game=true:=by kernel_rfl
theorem fi_728 (P:Params):fnIn (HK P) 728 fn_law_context=true:=by kernel_rfl
theorem fi_735 (P:Params):fnIn (HK P) 735 fn_law_at_root=true:=by kernel_rfl
theorem fi_740 (P:Params):fnIn (HK P) 740 fn_law_reports=true:=by kernel_rfl
theorem fi_747 (P:Params):fnIn (HK P) 747 fn_law_guess=true:=by kernel_rfl
theorem fi_752 (P:Params):fnIn (HK P) 752 fn_law=true:=by kernel_rfl
theorem fi_all (P:Params):∀ f fn,tT.fn f=some fn→fnIn (HK P) f fn=true:=by
 intro f fn h
 have h:tabFn f=some fn:=h
 unfold tabFn at h
 split at h
 ·cases h;exact fi_92 P
 ·cases h;exact fi_99 P
 ·cases h;exact fi_106 P
 ·cases h;exact fi_113 P
 ·cases h;exact fi_127 P
 ·cases h;exact fi_134 P
 ·cases h;exact fi_148 P
 ·cases h;exact fi_155 P
 ·cases h;exact fi_162 P
 ·cases h;exact fi_169 P
 ·cases h;exact fi_176 P
 ·cases h;exact fi_183 P
 ·cases h;exact fi_190 P
 ·cases h;exact fi_197 P
 ·cases h;exact fi_204 P
 ·cases h;exact fi_211 P
 ·cases h;exact fi_218 P
 ·cases h;exact fi_225 P
 ·cases h;exact fi_232 P
 ·cases h;exact fi_246 P
 ·cases h;exact fi_253 P
 ·cases h;exact fi_260 P
 ·cases h;exact fi_267 P
 ·cases h;exact fi_295 P
 ·cases h;exact fi_302 P
 ·cases h;exact fi_316 P
 ·cases h;exact fi_323 P
 ·cases h;exact fi_330 P
 ·cases h;exact fi_337 P
 ·cases h;exact fi_365 P
 ·cases h;exact fi_372 P
 ·cases h;exact fi_379 P
 ·cases h;exact fi_386 P
 ·cases h;exact fi_400 P
 ·cases h;exact fi_407 P
 ·cases h;exact fi_414 P
 ·cases h;exact fi_428 P
 ·cases h;exact fi_435 P
 ·cases h;exact fi_440 P
 ·cases h;exact fi_447 P
 ·cases h;exact fi_454 P
 ·cases h;exact fi_461 P
 ·cases h;exact fi_475 P
 ·cases h;exact fi_482 P
 ·cases h;exact fi_489 P
 ·cases h;exact fi_496 P
 ·cases h;exact fi_503 P
 ·cases h;exact fi_510 P
 ·cases h;exact fi_517 P
 ·cases h;exact fi_524 P
 ·cases h;exact fi_531 P
 ·cases h;exact fi_545 P
 ·cases h;exact fi_559 P
 ·cases h;exact fi_566 P
 ·cases h;exact fi_573 P
 ·cases h;exact fi_580 P
 ·cases h;exact fi_587 P
 ·cases h;exact fi_594 P
 ·cases h;exact fi_608 P
 ·cases h;exact fi_615 P
 ·cases h;exact fi_620 P
 ·cases h;exact fi_627 P
 ·cases h;exact fi_634 P
 ·cases h;exact fi_641 P
 ·cases h;exact fi_648 P
 ·cases h;exact fi_655 P
 ·cases h;exact fi_662 P
 ·cases h;exact fi_669 P
 ·cases h;exact fi_676 P
 ·cases h;exact fi_683 P
 ·cases h;exact fi_697 P
 ·cases h;exact fi_702 P
 ·cases h;exact fi_709 P
 ·cases h;exact fi_716 P
 ·cases h;exact fi_721 P
 ·cases h;exact fi_728 P
 ·cases h;exact fi_735 P
 ·cases h;exact fi_740 P
 ·cases h;exact fi_747 P
 ·cases h;exact fi_752 P
 ·cases h
def attB (K:Frag) (C:Nat) (n:String):Bool:=plainGet K C (Str.ofString n)&&hasDictIn K C&&(match findIn K (.ref C) (Str.ofString n) with | some none=>true | _=>false) &&
 (match findIn K (.ref C) "__setattr__" with | some (some (.builtin b))=>decide (b = "object.__setattr__") | _=>false)&&plainOver K C&&(match takerIn K C (Str.ofString n) with | some none=>true | _=>false)
theorem attB_ok {K:Frag} {C:Nat} {n:String} (h:attB K C n=true):AttOk K C n:=by
 unfold attB at h
 simp only [Bool.and_eq_true] at h
 obtain⟨⟨⟨⟨⟨h1,h2⟩,h3⟩,h4⟩,h5⟩,h6⟩:=h
 refine⟨h1,h2,?_,?_,h5,?_⟩
 ·split at h3
  ·assumption
  ·cases h3
 ·split at h4
  ·rename_i e;rw [e];rw [decide_eq_true_eq] at h4;rw [h4]
  ·cases h4
 ·split at h6
  ·assumption
  ·cases h6
def mthB (K:Frag) (C:Nat) (n:String) (f:Nat):Bool:=keepIn K (.ref f)&&plainGet K C (Str.ofString n)&&(match findIn K (.ref C) (Str.ofString n) with | some (some (.ref g))=>decide (g=f) | _=>false)&&(match typeIn K (.ref f) with | some (.type t)=>decide (t = "function") | _=>false)
theorem mthB_ok {K:Frag} {C:Nat} {n:String} {f:Nat} (h:mthB K C n f=true):MthOk K C n f:=by
 unfold mthB at h
 simp only [Bool.and_eq_true] at h
 obtain⟨⟨⟨h1,h2⟩,h3⟩,h4⟩:=h
 refine⟨h1,h2,?_,?_⟩
 ·split at h3
  ·rename_i e;rw [e];rw [decide_eq_true_eq] at h3;rw [h3]
  ·cases h3
 ·split at h4
  ·rename_i e;rw [e];rw [decide_eq_true_eq] at h4;rw [h4]
  ·cases h4
def iniB (K:Frag) (C f:Nat):Bool:=keepIn K (.ref C)&&makesIn K C&&(match findIn K (.ref C) "__init__" with | some (some (.ref g))=>decide (g=f) | _=>false)&&(match typeIn K (.ref f) with | some (.type t)=>decide (t = "function") | _=>false)
theorem iniB_ok {K:Frag} {C f:Nat} (h:iniB K C f=true):IniOk K C f:=by
 unfold iniB at h
 simp only [Bool.and_eq_true] at h
 obtain⟨⟨⟨h1,h2⟩,h3⟩,h4⟩:=h
 refine⟨h1,h2,?_,?_⟩
 ·split at h3
  ·rename_i e;rw [e];rw [decide_eq_true_eq] at h3;rw [h3]
  ·cases h3
 ·split at h4
  ·rename_i e;rw [e];rw [decide_eq_true_eq] at h4;rw [h4]
  ·cases h4
def attL:List (Nat×String):=[(137,"game"),(137,"table"),(137,"killers"),(137,"history"),(137,"qdepth"),(137,"is_exact"),(137,"max_nodes"),(137,"nodes"),(137,"made"),(137,"lines"),(284,"clusters"),(284,"ways"),(284,"age"),(284,"slots"),(347,"limit"),(347,"scores"),(389,"plies"),(389,"first"),(389,"second"),(464,"game"),(464,"left"),(464,"table_move"),(464,"killers"),(464,"history"),(464,"ply"),(464,"stage"),(464,"ready"),(464,"losing"),(548,"depth"),(548,"value"),(548,"line"),(548,"nodes"),(686,"children"),(686,"values"),(686,"checks"),(686,"draws"),(686,"noisy_rows"),(686,"gain_rows"),(686,"path")]
def mthL:List (Nat×String×Nat):=[(137,"tick",134),(284,"probe",253),(284,"save",260),(284,"new_search",267),(347,"get",323),(347,"update",330),(347,"bonus",337),(389,"add",372),(389,"pair",379),(389,"clear",386),(464,"next",435),(464,"fill",440),(464,"fill_table",447),(464,"fill_good",454),(464,"fill_killers",461),(686,"moves",615),(686,"noisy",620),(686,"make",627),(686,"undo",634),(686,"value",641),(686,"key",648),(686,"in_check",655),(686,"is_draw",662),(686,"is_noisy",669),(686,"gain",676),(686,"side",683)]
theorem att_in {C:Nat} {n:String} (h:tT.att C n=true):(C,n)∈attL:=by
 have h:tabAtt C n=true:=h
 unfold tabAtt at h
 split at h <;> first | (cases h;done) | skip
 all_goals (simp only [Bool.or_eq_true,decide_eq_true_eq,or_assoc] at h;simp only [attL,List.mem_cons,Prod.mk.injEq,List.not_mem_nil,or_false,Nat.reduceEqDiff,false_and,false_or,true_and];exact h)
theorem att_137 (P:Params):((attL.filter fun p=>p.1 == 137).all fun p=>attB (HK P) p.1 p.2)=true:=by kernel_rfl
theorem att_284 (P:Params):((attL.filter fun p=>p.1 == 284).all fun p=>attB (HK P) p.1 p.2)=true:=by kernel_rfl
theorem att_347 (P:Params):((attL.filter fun p=>p.1 == 347).all fun p=>attB (HK P) p.1 p.2)=true:=by kernel_rfl
theorem att_389 (P:Params):((attL.filter fun p=>p.1 == 389).all fun p=>attB (HK P) p.1 p.2)=true:=by kernel_rfl
theorem att_464 (P:Params):((attL.filter fun p=>p.1 == 464).all fun p=>attB (HK P) p.1 p.2)=true:=by kernel_rfl
theorem att_548 (P:Params):((attL.filter fun p=>p.1 == 548).all fun p=>attB (HK P) p.1 p.2)=true:=by kernel_rfl
theorem att_686 (P:Params):((attL.filter fun p=>p.1 == 686).all fun p=>attB (HK P) p.1 p.2)=true:=by kernel_rfl
theorem att_cls:∀ p∈attL,p.1=137∨p.1=284∨p.1=347∨p.1=389∨p.1=464∨p.1=548∨p.1=686:=by decide
theorem att_all (P:Params):∀ C n,tT.att C n=true→AttOk (HK P) C n:=by
 intro C n h
 have m:=att_in h
 have go:∀ c,C=c→((attL.filter fun p=>p.1 == c).all fun p=>attB (HK P) p.1 p.2)=true→AttOk (HK P) C n:=fun c e ha=>attB_ok (List.all_eq_true.1 ha (C,n) (List.mem_filter.2 ⟨m,by simpa using e⟩))
 rcases att_cls _ m with e | e | e | e | e | e | e
 ·exact go 137 e (att_137 P)
 ·exact go 284 e (att_284 P)
 ·exact go 347 e (att_347 P)
 ·exact go 389 e (att_389 P)
 ·exact go 464 e (att_464 P)
 ·exact go 548 e (att_548 P)
 ·exact go 686 e (att_686 P)
theorem mt_137_tick (P:Params):mthB (HK P) 137 "tick" 134=true:=by kernel_rfl
theorem mt_284_probe (P:Params):mthB (HK P) 284 "probe" 253=true:=by kernel_rfl
theorem mt_284_save (P:Params):mthB (HK P) 284 "save" 260=true:=by kernel_rfl
theorem mt_284_new_search (P:Params):mthB (HK P) 284 "new_search" 267=true:=by kernel_rfl
theorem mt_347_get (P:Params):mthB (HK P) 347 "get" 323=true:=by kernel_rfl
theorem mt_347_update (P:Params):mthB (HK P) 347 "update" 330=true:=by kernel_rfl
theorem mt_347_bonus (P:Params):mthB (HK P) 347 "bonus" 337=true:=by kernel_rfl
theorem mt_389_add (P:Params):mthB (HK P) 389 "add" 372=true:=by kernel_rfl
theorem mt_389_pair (P:Params):mthB (HK P) 389 "pair" 379=true:=by kernel_rfl
theorem mt_389_clear (P:Params):mthB (HK P) 389 "clear" 386=true:=by kernel_rfl
theorem mt_464_next (P:Params):mthB (HK P) 464 "next" 435=true:=by kernel_rfl
theorem mt_464_fill (P:Params):mthB (HK P) 464 "fill" 440=true:=by kernel_rfl
theorem mt_464_fill_table (P:Params):mthB (HK P) 464 "fill_table" 447=true:=by kernel_rfl
theorem mt_464_fill_good (P:Params):mthB (HK P) 464 "fill_good" 454=true:=by kernel_rfl
theorem mt_464_fill_killers (P:Params):mthB (HK P) 464 "fill_killers" 461=true:=by kernel_rfl
theorem mt_686_moves (P:Params):mthB (HK P) 686 "moves" 615=true:=by kernel_rfl
theorem mt_686_noisy (P:Params):mthB (HK P) 686 "noisy" 620=true:=by kernel_rfl
theorem mt_686_make (P:Params):mthB (HK P) 686 "make" 627=true:=by kernel_rfl
theorem mt_686_undo (P:Params):mthB (HK P) 686 "undo" 634=true:=by kernel_rfl
theorem mt_686_value (P:Params):mthB (HK P) 686 "value" 641=true:=by kernel_rfl
theorem mt_686_key (P:Params):mthB (HK P) 686 "key" 648=true:=by kernel_rfl
theorem mt_686_in_check (P:Params):mthB (HK P) 686 "in_check" 655=true:=by kernel_rfl
theorem mt_686_is_draw (P:Params):mthB (HK P) 686 "is_draw" 662=true:=by kernel_rfl
theorem mt_686_is_noisy (P:Params):mthB (HK P) 686 "is_noisy" 669=true:=by kernel_rfl
theorem mt_686_gain (P:Params):mthB (HK P) 686 "gain" 676=true:=by kernel_rfl
theorem mt_686_side (P:Params):mthB (HK P) 686 "side" 683=true:=by kernel_rfl
theorem mth_all (P:Params):∀ C n f,tT.mth C n=some f→MthOk (HK P) C n f:=by
 intro C n f h
 have h:tabMth C n=some f:=h
 unfold tabMth at h
 split at h
 ·split at h
  ·rename_i e;subst e;cases h;exact mthB_ok (mt_137_tick P)
  ·cases h
 ·split at h
  ·rename_i e;subst e;cases h;exact mthB_ok (mt_284_probe P)
  ·split at h
   ·rename_i e;subst e;cases h;exact mthB_ok (mt_284_save P)
   ·split at h
    ·rename_i e;subst e;cases h;exact mthB_ok (mt_284_new_search P)
    ·cases h
 ·split at h
  ·rename_i e;subst e;cases h;exact mthB_ok (mt_347_get P)
  ·split at h
   ·rename_i e;subst e;cases h;exact mthB_ok (mt_347_update P)
   ·split at h
    ·rename_i e;subst e;cases h;exact mthB_ok (mt_347_bonus P)
    ·cases h
 ·split at h
  ·rename_i e;subst e;cases h;exact mthB_ok (mt_389_add P)
  ·split at h
   ·rename_i e;subst e;cases h;exact mthB_ok (mt_389_pair P)
   ·split at h
    ·rename_i e;subst e;cases h;exact mthB_ok (mt_389_clear P)
    ·cases h
 ·split at h
  ·rename_i e;subst e;cases h;exact mthB_ok (mt_464_next P)
  ·split at h
   ·rename_i e;subst e;cases h;exact mthB_ok (mt_464_fill P)
   ·split at h
    ·rename_i e;subst e;cases h;exact mthB_ok (mt_464_fill_table P)
    ·split at h
     ·rename_i e;subst e;cases h;exact mthB_ok (mt_464_fill_good P)
     ·split at h
      ·rename_i e;subst e;cases h;exact mthB_ok (mt_464_fill_killers P)
      ·cases h
 ·cases h
 ·split at h
  ·rename_i e;subst e;cases h;exact mthB_ok (mt_686_moves P)
  ·split at h
   ·rename_i e;subst e;cases h;exact mthB_ok (mt_686_noisy P)
   ·split at h
    ·rename_i e;subst e;cases h;exact mthB_ok (mt_686_make P)
    ·split at h
     ·rename_i e;subst e;cases h;exact mthB_ok (mt_686_undo P)
     ·split at h
      ·rename_i e;subst e;cases h;exact mthB_ok (mt_686_value P)
      ·split at h
       ·rename_i e;subst e;cases h;exact mthB_ok (mt_686_key P)
       ·split at h
        ·rename_i e;subst e;cases h;exact mthB_ok (mt_686_in_check P)
        ·split at h
         ·rename_i e;subst e;cases h;exact mthB_ok (mt_686_is_draw P)
         ·split at h
          ·rename_i e;subst e;cases h;exact mthB_ok (mt_686_is_noisy P)
          ·split at h
           ·rename_i e;subst e;cases h;exact mthB_ok (mt_686_gain P)
           ·split at h
            ·rename_i e;subst e;cases h;exact mthB_ok (mt_686_side P)
            ·cases h
 ·cases h
theorem in_137 (P:Params):iniB (HK P) 137 127=true:=by kernel_rfl
theorem in_284 (P:Params):iniB (HK P) 284 246=true:=by kernel_rfl
theorem in_347 (P:Params):iniB (HK P) 347 316=true:=by kernel_rfl
theorem in_389 (P:Params):iniB (HK P) 389 365=true:=by kernel_rfl
theorem in_464 (P:Params):iniB (HK P) 464 428=true:=by kernel_rfl
theorem in_548 (P:Params):iniB (HK P) 548 545=true:=by kernel_rfl
theorem in_686 (P:Params):iniB (HK P) 686 608=true:=by kernel_rfl
theorem ini_all (P:Params):∀ C f,tT.ini C=some f→IniOk (HK P) C f:=by
 intro C f h
 have h:tabIni C=some f:=h
 unfold tabIni at h
 split at h
 ·cases h;exact iniB_ok (in_137 P)
 ·cases h;exact iniB_ok (in_284 P)
 ·cases h;exact iniB_ok (in_347 P)
 ·cases h;exact iniB_ok (in_389 P)
 ·cases h;exact iniB_ok (in_464 P)
 ·cases h;exact iniB_ok (in_548 P)
 ·cases h;exact iniB_ok (in_686 P)
 ·cases h
theorem gnat_in {x:Str} {a:Nat}:∀ {l:List (String×Nat)},gnat x l=some a→∃ n,(n,a)∈l∧Str.ofString n=x
 | [],h=>by cases h
 | (n,i)::r,h=>by
  unfold gnat at h
  split at h
  ·rename_i e;cases h;exact⟨n,by simp,e⟩
  ·obtain⟨m,m1,m2⟩:=gnat_in h;exact⟨m,by simp [m1],m2⟩
theorem gint_in {x:Str} {a:Int}:∀ {l:List (String×Int)},gint x l=some a→∃ n,(n,a)∈l∧Str.ofString n=x
 | [],h=>by cases h
 | (n,i)::r,h=>by
  unfold gint at h
  split at h
  ·rename_i e;cases h;exact⟨n,by simp,e⟩
  ·obtain⟨m,m1,m2⟩:=gint_in h;exact⟨m,by simp [m1],m2⟩
theorem kf_all (P:Params):(gFns.all fun p=>keepIn (HK P) (.ref p.2))=true:=by kernel_rfl
theorem kc_all (P:Params):(gCls.all fun p=>keepIn (HK P) (.ref p.2))=true:=by kernel_rfl
def nsR (K:Frag) (n:String) (a:Nat):Bool:=match nsIn K mainGlobals (Str.ofString n) with | some (some (.ref b))=>decide (b=a) | _=>false
def nsI (K:Frag) (n:String) (i:Int):Bool:=match nsIn K mainGlobals (Str.ofString n) with | some (some (.int j _))=>decide (j=i) | _=>false
theorem nsR_ok {K:Frag} {n a} (h:nsR K n a=true):nsIn K mainGlobals (Str.ofString n)=some (some (.ref a)):=by
 unfold nsR at h
 split at h
 ·rename_i e;rw [e];rw [decide_eq_true_eq] at h;rw [h]
 ·cases h
theorem nsI_ok {K:Frag} {n i} (h:nsI K n i=true):∃ t,nsIn K mainGlobals (Str.ofString n)=some (some (.int i t)):=by
 unfold nsI at h
 split at h
 ·rename_i e;rw [decide_eq_true_eq] at h;rw [h] at e;exact⟨_,e⟩
 ·cases h
theorem nf_all (P:Params):(gFns.all fun p=>nsR (HK P) p.1 p.2)=true:=by kernel_rfl
theorem nc_all (P:Params):(gCls.all fun p=>nsR (HK P) p.1 p.2)=true:=by kernel_rfl
theorem ni_all (P:Params):(gInts.all fun p=>nsI (HK P) p.1 p.2)=true:=by kernel_rfl
theorem n_len (P:Params):nsIn (HK P) mainGlobals "len" = some none:=by kernel_rfl
theorem n_max (P:Params):nsIn (HK P) mainGlobals "max" = some none:=by kernel_rfl
theorem n_min (P:Params):nsIn (HK P) mainGlobals "min" = some none:=by kernel_rfl
theorem n_abs (P:Params):nsIn (HK P) mainGlobals "abs" = some none:=by kernel_rfl
theorem n_list (P:Params):nsIn (HK P) mainGlobals "list" = some none:=by kernel_rfl
theorem n_range (P:Params):nsIn (HK P) mainGlobals "range" = some none:=by kernel_rfl
theorem n_Exc (P:Params):nsIn (HK P) mainGlobals "Exception" = some none:=by kernel_rfl
theorem n_CE (P:Params):nsIn (HK P) mainGlobals "ChessError" = some (some (.ref 38)):=by kernel_rfl
theorem n_law (P:Params):nsIn (HK P) mainGlobals "law" = some (some (.ref 752)):=by kernel_rfl
theorem stop_ok (P:Params):StopOk (HK P):=⟨⟨c71 P,i71 P,t68 P,g38 P,r38 P,f38 P,fE P,k35 P,e_sa P,aT P,aN P⟩,raw35 P,raw68 P,ga P,ge P,hd71 P⟩
theorem fa_all {c:Cx} {P:Params} {mg mb:Str→Option Value} (KX:(HK P).In c.base) (nl:c.base.NoLimit) (g:c.base.Ns mainGlobals mg) (b:c.base.Ns builtinsNs mb) (bb:∀ x:Str,x≠"__name__"→mb x=bootBuiltins x):Fa c tT (HK P):=by
 refine⟨KX,nl,⟨mg,g,fun x i h=>?_,fun x a h=>?_,fun x a h=>?_,fun x hx=>?_,mg_none_of KX g (n_Exc P),mg_of KX g (n_CE P)⟩,⟨mb,b,?_,?_,?_,?_,?_,?_,?_⟩,att_all P,mth_all P,ini_all P,fun x a h=>?_,fun x a h=>?_,stop_ok P⟩
 ·obtain⟨n,h1,h2⟩:=gint_in h
  obtain⟨t,ht⟩:=nsI_ok (List.all_eq_true.1 (ni_all P) _ h1)
  rw [h2] at ht
  exact⟨t,mg_of KX g ht⟩
 ·obtain⟨n,h1,h2⟩:=gnat_in h
  have:=nsR_ok (List.all_eq_true.1 (nf_all P) _ h1)
  rw [h2] at this
  exact mg_of KX g this
 ·obtain⟨n,h1,h2⟩:=gnat_in h
  have:=nsR_ok (List.all_eq_true.1 (nc_all P) _ h1)
  rw [h2] at this
  exact mg_of KX g this
 ·simp only [List.mem_cons,List.not_mem_nil,or_false] at hx
  rcases hx with rfl | rfl | rfl | rfl | rfl | rfl
  ·exact mg_none_of KX g (n_len P)
  ·exact mg_none_of KX g (n_max P)
  ·exact mg_none_of KX g (n_min P)
  ·exact mg_none_of KX g (n_abs P)
  ·exact mg_none_of KX g (n_list P)
  ·exact mg_none_of KX g (n_range P)
 ·rw [bb _ (by decide)];boot_fast
 ·rw [bb _ (by decide)];boot_fast
 ·rw [bb _ (by decide)];boot_fast
 ·rw [bb _ (by decide)];boot_fast
 ·rw [bb _ (by decide)];boot_fast
 ·rw [bb _ (by decide)];boot_fast
 ·rw [bb _ (by decide)];boot_fast
 ·obtain⟨n,h1,h2⟩:=gnat_in h
  exact List.all_eq_true.1 (kf_all P) _ h1
 ·obtain⟨n,h1,h2⟩:=gnat_in h
  exact List.all_eq_true.1 (kc_all P) _ h1
end Bm
namespace Bm
open PySem PySem.W PyProof.Rows
theorem ints_l2 {vs:List Value} {ns:List Int} (h:IntsAre vs ns):L2 VR vs (Bn.intsL ns):=by
 induction h with
 | nil=>exact .nil
 | cons n t _ ih=>exact .cons (.int n t) ih
theorem start {p:Program} {w:World} {s:Shared} {la:Nat} {vs:List Value} {ns:List Int} (hl:s.heap.IsList la vs.toArray) (hi:IntsAre vs ns) (h63:ns.length≤63) :
  StC ⟨p,w,s.heap,s.gens,s.drawn,s.os⟩ (fun a=>match s.heap.get? a with | some _=>.base | none=>.free) [] [] (fun a=>if a=la then some (.ro (Bn.intsL ns)) else none) s:=by
 refine⟨fun b o e=>⟨(by
  show(match s.heap.get? b with | some _=>Kd.base | none=>.free)=.base
  rw [show s.heap.get? b=some o from e]),e⟩,fun a ha=>?_,fun a ao e=>?_,(fun p hp=>nomatch hp),(fun e he=>nomatch he),rfl,rfl,rfl⟩
 ·cases e:s.heap.get? a with
  | some o=>exact⟨o,rfl⟩
  | none=>exact absurd (by
    show(match s.heap.get? a with | some _=>Kd.base | none=>.free)=.free
    rw [e]) ha
 ·by_cases c:a=la
  ·subst c
   simp only [if_true] at e
   cases e
   obtain⟨o,h1,h2⟩:=hl
   refine⟨(by
    show(match s.heap.get? a with | some _=>Kd.base | none=>.free)=.base
    rw [h1]),vs.toArray,⟨o,h1,h2⟩,(by simpa using ints_l2 hi),?_⟩
   have:=(ints_l2 hi).length
   simp only [Bn.ints_len] at this
   simp only [List.size_toArray]
   unfold lim;omega
  ·rw [if_neg c] at e;cases e
theorem law_call {p:Program} {w:World} {P:Params} {s:Shared} {mg mb:Str→Option Value} (KX:(HK P).In s.heap) (nl:s.heap.NoLimit) (g:s.heap.Ns mainGlobals mg) (b:s.heap.Ns builtinsNs mb) (bb:∀ x:Str,x≠"__name__"→mb x=bootBuiltins x)
  {la:Nat} {vs:List Value} {ns:List Int} (hl:s.heap.IsList la vs.toArray) (hi:IntsAre vs ns) (h63:ns.length≤63) :
  codeAny (model p w) callerA (.call (.ref 752) ⟨[.ref la],[]⟩) (fun r s'=>r=.ok (.ret (.bool true))∧(∀ b o,s.heap.get? b=some o→s'.heap.get? b=some o)∧s'.gens=s.gens∧s'.os=s.os) s:=by
 have F:Fa ⟨p,w,s.heap,s.gens,s.drawn,s.os⟩ tT (HK P):=fa_all KX nl g b bb
 have run:=callOk F (fi_all P) 40 false 752 [.ref la] (fun a=>if a=la then some (.ro (Bn.intsL ns)) else none) (fun v _=>v=.bool true) (fun _ _=>False)
  (Bn.x_law 0 _ la ns (by simp) _ _ fun _=>rfl) callerA [] [] _ s [.ref la] (fun a=>by cases e:s.heap.get? a <;> simp [e]) (.cons (.ref la) .nil) (start hl hi h63) ⟨by decide,by decide⟩ rfl (fun _=>rfl)
 refine codeAny_mono run fun r s' h=>?_
 unfold RP at h
 split at h
 ·obtain⟨G,av,H',_,hv,S,rfl⟩:=h
  cases hv
  exact⟨rfl,fun b o e=>(S.keep b o e).2,S.gens,S.os⟩
 ·exact h.elim
 ·obtain⟨G,ea,n,H',_,_,_,_,hx⟩:=h
  exact hx.elim
end Bm
open PySem PySem.W PyProof.Rows
set_option maxHeartbeats 8000000 in
theorem PySem.Challenge.cw_pb0080_01_holds : PySem.Challenge.rw_pb0080_01.Holds := by
  refine Bm.theHead ?_
  intro w s₀ s₁ mg mb G Y fa o pm cd doc dV kV ho hd hcd hD hmg hg args vals as hpre hlay hrd hwl hlo
  have KX := kIn_of Y
  clear hcd hD hd ho
  refine Ground.open G ?_
  intro T B D TE TW
  have hfa : fa = 752 := by
    have e := hmg
    rw [mg_of KX T.g (Bm.n_law _)] at e
    cases e; rfl
  subst hfa
  clear D B TE TW hmg
  wrow_args hpre hlay hrd hwl hlo
  all_goals (first | refine callC_kw (enter_call ?_) | refine enter_call ?_ | refine callC_kw (enter_callW ?_) | refine enter_callW ?_ | w_how)
  refine codeAny_mono (Bm.law_call KX T.nolimit T.g T.b T.builtins (by assumption) (by assumption) (by omega)) ?_
  rintro r s' ⟨rfl, hk, hgn, hos⟩
  refine GoodW.toG ⟨.inl ⟨_, .bool true, [], rfl, ?_, ?_, ?_, ?_⟩, hk, hos, by rw [hgn]; exact hg⟩
  · exact raisesW_false (by wrow_none_raised)
  · exact ReadsW.bool _
  · wrow_post
  · exact unshared_nil
